import PyProof.Rows.All
import Wide.All
import OpenK.AllK
import Wide.FinOn
import HandS.ForMost
import HandS.Walk
import HandS.Wide
import HandS.IsInst
import HandS.Conv
import HandS.Deep
import HandS.WideBits
import HandS.More
import PyProof.EqAt
import PyProof.EqKinds
import PyProof.TupleCall
import KE.KExcSuper
import HandS.Exc
import HandS.ExcInit
import HandS.CallSlots
import HandS.WordsExc
import HandS.ExcOwn
import HandS.Iter
import HandS.Zip
import HandS.Defaults
import OpenK.KMore
import HandS.Text
import PySem.Challenge.RW_keptreadings_k02_whole_cut_and_lines
set_option Elab.async false
set_option linter.all false
set_option maxRecDepth 100000
set_option maxHeartbeats 4000000
/-! Kr: data without heaps, and weakest preconditions over data. -/
namespace Kr
open PySem L2
inductive D where
  | non | bl (b : Bool) | int (i : Int) | str (x : Str)
  | lst (l : List D) | tup (l : List D)
  | dic (ks : List Key) (l : List D)
  | ins (C : Addr) (fs : List Str) (l : List D)
  | is (a : Addr) (d : D)
  | fz (q : Option (Obj × List V)) (a : Addr)
mutual
inductive Rp (H : Hp) : V → D → Prop
  | non : Rp H .non .non
  | bl (b : Bool) : Rp H (.bl b) (.bl b)
  | int (i : Int) : Rp H (.int i) (.int i)
  | str (x : Str) : Rp H (.str x) (.str x)
  | lst {a : Addr} {xs : List V} {ds : List D} : H a = some (.lst xs) → RpA H xs ds → Rp H (.ref a) (.lst ds)
  | tup {a : Addr} {xs : List V} {ds : List D} : H a = some (.tup xs) → RpA H xs ds → Rp H (.ref a) (.tup ds)
  | dic {a : Addr} {kvs : List (Key × V)} {ks : List Key} {vs : List V} {ds : List D} : H a = some (.dK kvs) → kvs = ks.zip vs → ks.length = vs.length → RpA H vs ds → Rp H (.ref a) (.dic ks ds)
  | ins {a C dx : Addr} {fs : List (Str × V)} {ks : List Str} {vs : List V} {ds : List D} : H a = some (.ins C dx fs) → fs = ks.zip vs → ks.length = vs.length → RpA H vs ds → Rp H (.ref a) (.ins C ks ds)
  | is {a : Addr} {d : D} : Rp H (.ref a) d → Rp H (.ref a) (.is a d)
  | fz {a : Addr} {q : Option (Obj × List V)} : (∀ o xs, q = some (o, xs) → H a = some (.frz o (.lst xs))) → Rp H (.ref a) (.fz q a)
inductive RpA (H : Hp) : List V → List D → Prop
  | nil : RpA H [] []
  | cons {v : V} {vs : List V} {d : D} {ds : List D} : Rp H v d → RpA H vs ds → RpA H (v :: vs) (d :: ds)
end
mutual
theorem Rp.mono {H H' : Hp} (e : Same H H') : ∀ {v : V} {d : D}, Rp H v d → Rp H' v d
  | _, _, .non => .non
  | _, _, .bl b => .bl b
  | _, _, .int i => .int i
  | _, _, .str x => .str x
  | _, _, .lst h r => .lst (e _ _ h) (RpA.mono e r)
  | _, _, .tup h r => .tup (e _ _ h) (RpA.mono e r)
  | _, _, .dic h k l r => .dic (e _ _ h) k l (RpA.mono e r)
  | _, _, .ins h k l r => .ins (e _ _ h) k l (RpA.mono e r)
  | _, _, .is r => .is (Rp.mono e r)
  | _, _, .fz h => .fz fun o xs z => e _ _ (h o xs z)
theorem RpA.mono {H H' : Hp} (e : Same H H') : ∀ {vs : List V} {ds : List D}, RpA H vs ds → RpA H' vs ds
  | _, _, .nil => .nil
  | _, _, .cons h r => .cons (Rp.mono e h) (RpA.mono e r)
end
theorem RpA.length {H : Hp} : ∀ {vs : List V} {ds : List D}, RpA H vs ds → vs.length = ds.length
  | _, _, .nil => rfl
  | _, _, .cons _ r => by rw [List.length_cons, List.length_cons, RpA.length r]
theorem RpA.get {H : Hp} : ∀ {vs : List V} {ds : List D}, RpA H vs ds → ∀ {i : Nat} {d : D}, ds[i]? = some d → ∃ v, vs[i]? = some v ∧ Rp H v d
  | _, _, .cons h r, 0, d, e => by
    have e' := Option.some.inj e
    subst e'
    exact ⟨_, rfl, h⟩
  | _, _, .cons h r, i + 1, d, e => RpA.get r (i := i) e
theorem RpA.getV {H : Hp} : ∀ {vs : List V} {ds : List D}, RpA H vs ds → ∀ {i : Nat} {v : V}, vs[i]? = some v → ∃ d, ds[i]? = some d ∧ Rp H v d
  | _, _, .cons h r, 0, d, e => by
    have e' := Option.some.inj e
    subst e'
    exact ⟨_, rfl, h⟩
  | _, _, .cons h r, i + 1, d, e => RpA.getV r (i := i) e
theorem RpA.append {H : Hp} : ∀ {vs : List V} {ds : List D} {ws : List V} {es : List D}, RpA H vs ds → RpA H ws es → RpA H (vs ++ ws) (ds ++ es)
  | _, _, _, _, .nil, s => s
  | _, _, _, _, .cons h r, s => .cons h (RpA.append r s)
theorem RpA.one {H : Hp} {v : V} {d : D} (h : Rp H v d) : RpA H [v] [d] := .cons h .nil
theorem RpA.take {H : Hp} : ∀ {vs : List V} {ds : List D} (n : Nat), RpA H vs ds → RpA H (vs.take n) (ds.take n)
  | _, _, 0, _ => by simpa using RpA.nil
  | _, _, _ + 1, .nil => by simpa using RpA.nil
  | _, _, n + 1, .cons h r => .cons h (RpA.take n r)
theorem RpA.drop {H : Hp} : ∀ {vs : List V} {ds : List D} (n : Nat), RpA H vs ds → RpA H (vs.drop n) (ds.drop n)
  | _, _, 0, r => r
  | _, _, _ + 1, .nil => .nil
  | _, _, n + 1, .cons _ r => RpA.drop n r
theorem RpA.set {H : Hp} {v : V} {d : D} (h : Rp H v d) : ∀ {vs : List V} {ds : List D} (n : Nat), RpA H vs ds → RpA H (vs.set n v) (ds.set n d)
  | _, _, _, .nil => .nil
  | _, _, 0, .cons _ r => .cons h r
  | _, _, n + 1, .cons g r => .cons g (RpA.set h n r)
theorem RpA.strs {H : Hp} : ∀ {vs : List V} {xs : List Str}, RpA H vs (xs.map D.str) → vs = xs.map V.str
  | _, [], r => by cases r; rfl
  | _, x :: xs, r => by
    cases r with
    | cons h r =>
      cases h
      rw [RpA.strs r]
      rfl
theorem RpA.ints {H : Hp} : ∀ {vs : List V} {xs : List Int}, RpA H vs (xs.map D.int) → vs = xs.map V.int
  | _, [], r => by cases r; rfl
  | _, x :: xs, r => by
    cases r with
    | cons h r =>
      cases h
      rw [RpA.ints r]
      rfl
theorem RpA.bls {H : Hp} : ∀ {vs : List V} {xs : List Bool}, RpA H vs (xs.map D.bl) → vs = xs.map V.bl
  | _, [], r => by cases r; rfl
  | _, x :: xs, r => by
    cases r with
    | cons h r =>
      cases h
      rw [RpA.bls r]
      rfl
theorem RpA.ofStrs {H : Hp} : ∀ {xs : List Str}, RpA H (xs.map V.str) (xs.map D.str)
  | [] => .nil
  | x :: xs => .cons (.str x) RpA.ofStrs
theorem RpA.ofInts {H : Hp} : ∀ {xs : List Int}, RpA H (xs.map V.int) (xs.map D.int)
  | [] => .nil
  | x :: xs => .cons (.int x) RpA.ofInts
/-! ### the view: some addresses hidden -/
def Off (A : List Addr) (H : Hp) : Hp := fun b => if b ∈ A then none else H b
section
variable {A A' : List Addr} {H H' : Hp} {a b p : Addr} {o : HO}
theorem off_some (h : Off A H b = some o) : b ∉ A ∧ H b = some o := by
  unfold Off at h
  by_cases hb : b ∈ A
  · rw [if_pos hb] at h; cases h
  · rw [if_neg hb] at h; exact ⟨hb, h⟩
theorem off_of (hb : b ∉ A) (h : H b = some o) : Off A H b = some o := by
  unfold Off
  rw [if_neg hb]; exact h
theorem off_same (e : Same H H') : Same (Off A H) (Off A H') := fun b o h => off_of (off_some h).1 (e _ _ (off_some h).2)
theorem off_nil : Off [] H = H := by
  funext b
  unfold Off
  simp
theorem off_le (e : ∀ a ∈ A, a ∈ A') : Same (Off A' H) (Off A H) := fun b o h => off_of (fun hb => (off_some h).1 (e _ hb)) (off_some h).2
theorem off_in : Same (Off A H) H := fun b o h => (off_some h).2
theorem off_upd (ha : a ∈ A) : Off A (upd H a o) = Off A H := by
  funext b
  unfold Off
  by_cases hb : b ∈ A
  · rw [if_pos hb, if_pos hb]
  · rw [if_neg hb, if_neg hb]
    exact upd_ne (fun e => hb (e ▸ ha))
theorem same_new (h : H p = none) : Same H (upd H p o) := fun b x e => by
  rw [upd_ne (ne_of_none e h)]
  exact e
theorem off_new (h : H p = none) : Same (Off A H) (Off A (upd H p o)) := off_same (same_new h)
/-- a new object that is hidden at once -/
theorem off_hid (h : H p = none) : Same (Off A H) (Off (p :: A) (upd H p o)) := fun b x e => by
  obtain ⟨h1, h2⟩ := off_some e
  have hb : b ≠ p := ne_of_none h2 h
  refine off_of (fun z => ?_) (by rw [upd_ne hb]; exact h2)
  rcases List.mem_cons.mp z with z | z
  · exact hb z
  · exact h1 z
end
/-! ### slots -/
inductive Sl where
  | any | imm (d : D) | own (ds : List D) | pur (a : Addr) (n : Nat) | exc (a dd : Addr) (d : D)
def Sl.isOwn : Sl → Bool
  | .own _ => true
  | .pur _ _ => true
  | _ => false
/-- a purse of the laws: four numbers, the third one at most n -/
def Pur (H : Hp) (a : Addr) (n : Nat) : Prop := ∃ x y z t : Int, H a = some (.lst [.int x, .int y, .int z, .int t]) ∧ 0 ≤ x ∧ x < 10 ^ 480 ∧ 0 ≤ y ∧ y < 2147483648 ∧ 0 ≤ z ∧ z ≤ n ∧ 0 ≤ t ∧ t < 1000
/-- what a def's body leans on: the purses, what its caller hides, what stood at the entry -/
structure Bs where
  Z : List Addr
  A0 : List Addr
  B : Hp
  H0 : Hp
def SlOk (β : Bs) (T A : List Addr) (H : Hp) (o : Option V) : Sl → Prop
  | .any => True
  | .imm d => ∃ v, o = some v ∧ Rp (Off (T ++ A) H) v d
  | .own ds => ∃ a xs, o = some (V.ref a) ∧ (a ∈ A ∧ a ∉ β.A0 ∧ β.H0 a = none) ∧ H a = some (.lst xs) ∧ RpA (Off (T ++ A) H) xs ds
  | .pur a n => o = some (V.ref a) ∧ a ∈ β.Z ∧ Pur H a n
  | .exc a dd d => o = some (V.ref a) ∧ ∃ v, Off (T ++ A) H dd = some (.xd [(("value" : Str), v)]) ∧ Rp (Off (T ++ A) H) v d
structure Env (β : Bs) (T A : List Addr) (σ : L2.St) (H : Hp) (Γ : List Sl) : Prop where
  len : σ.length = Γ.length
  ok : ∀ (i : Nat) (s : Sl), Γ[i]? = some s → ∃ o, σ[i]? = some o ∧ SlOk β T A H o s
  dis : ∀ (i j : Nat) (s s' : Sl) (a : Addr), Γ[i]? = some s → Γ[j]? = some s' → s.isOwn = true → s'.isOwn = true → σ[i]? = some (some (V.ref a)) → σ[j]? = some (some (V.ref a)) → i = j
  base : Same β.B (Off (T ++ A) H)
  sub : ∀ a ∈ β.A0, a ∈ A
  zs : ∀ a ∈ β.Z, a ∈ β.A0
  live : ∀ a ∈ T ++ A, H a ≠ none
  dj : ∀ a ∈ A, a ∉ T
  all : Same (Off β.Z β.H0) (Off β.Z H)
section
variable {β : Bs} {T A A' : List Addr} {H H' : Hp} {σ σ' : L2.St} {Γ : List Sl} {i j : Nat} {v : V} {d : D} {p : Addr} {o : HO} {s : Sl}
theorem all_upd {Z : List Addr} {H0 : Hp} (e : Same (Off Z H0) (Off Z H)) (h0 : H0 p = none) : Same (Off Z H0) (Off Z (upd H p o)) := fun b x z => by
  obtain ⟨z1, z2⟩ := off_some z
  obtain ⟨z3, z4⟩ := off_some (e b x z)
  exact off_of z1 (by rw [upd_ne (ne_of_none z2 h0)]; exact z4)
theorem SlOk.mono {o : Option V} (h : SlOk β T A H o s) (hA : ∀ a ∈ A, a ∈ A') (T' : List Addr) (g : Same (Off (T ++ A) H) (Off (T' ++ A') H')) (go : ∀ a x, a ∈ A → a ∉ β.A0 → H a = some x → H' a = some x) (gp : ∀ a ∈ β.Z, ∀ x, H a = some x → H' a = some x) : SlOk β T' A' H' o s := by
  cases s with
  | any => trivial
  | imm d => obtain ⟨v, h3, h4⟩ := h; exact ⟨v, h3, h4.mono g⟩
  | own ds => obtain ⟨a, xs, h3, h4, h5, h6⟩ := h; exact ⟨a, xs, h3, ⟨hA _ h4.1, h4.2⟩, go _ _ h4.1 h4.2.1 h5, h6.mono g⟩
  | pur a n => obtain ⟨h3, h4, x, y, z, t, h5, h6⟩ := h; exact ⟨h3, h4, x, y, z, t, gp _ h4 _ h5, h6⟩
  | exc a dd d => obtain ⟨h3, v, h4, h5⟩ := h; exact ⟨h3, v, g _ _ h4, h5.mono g⟩
theorem Env.get (e : Env β T A σ H Γ) (h : Γ[i]? = some (.imm d)) : ∃ v, σ[i]? = some (some v) ∧ Rp (Off (T ++ A) H) v d := by
  obtain ⟨o, h1, v, h2, h3⟩ := e.ok i _ h
  subst h2
  exact ⟨v, h1, h3⟩
theorem Env.zA (e : Env β T A σ H Γ) : ∀ a ∈ β.Z, a ∈ T ++ A := fun a h => List.mem_append_right _ (e.sub a (e.zs a h))
theorem Env.a0A (e : Env β T A σ H Γ) : ∀ a ∈ β.A0, a ∈ T ++ A := fun a h => List.mem_append_right _ (e.sub a h)
/-- all but the purses stands: so do the views -/
theorem Env.vw (e : Env β T A σ H Γ) (g : Same (Off β.Z H) (Off β.Z H')) : Same (Off (T ++ A) H) (Off (T ++ A) H') := fun b o h => by
  obtain ⟨h1, h2⟩ := off_some h
  exact off_of h1 (off_some (g b o (off_of (fun z => h1 (e.zA b z)) h2))).2
theorem Env.vw0 (e : Env β T A σ H Γ) (g : Same (Off β.Z H) (Off β.Z H')) : Same (Off β.A0 H) (Off β.A0 H') := fun b o h => by
  obtain ⟨h1, h2⟩ := off_some h
  exact off_of h1 (off_some (g b o (off_of (fun z => h1 (e.zs b z)) h2))).2
theorem Env.up (e : Env β T A σ H Γ) : Same (Off (T ++ A) H) (Off β.A0 H) := off_le e.a0A
/-- what is tracked grows, the slots stay -/
theorem Env.grow (e : Env β T A σ H Γ) (g : Same H H') : Env β T A σ H' Γ := by
  refine ⟨e.len, fun i s h => ?_, e.dis, fun b x z => off_same g _ _ (e.base _ _ z), e.sub, e.zs, fun a ha z => ?_, e.dj, e.all.trans (off_same g)⟩
  · obtain ⟨o, h1, h2⟩ := e.ok i s h
    exact ⟨o, h1, h2.mono (fun _ h => h) T (off_same g) (fun a x _ _ q => g _ _ q) fun a _ x q => g _ _ q⟩
  · cases q : H a with
    | none => exact e.live a ha q
    | some u => rw [g _ _ q] at z; cases z
/-- a new object, hidden as a thing in the making -/
theorem Env.tmp (e : Env β T A σ H Γ) (hp : H p = none) : Env β (p :: T) A σ (upd H p o) Γ := by
  have g := same_new (o := o) hp
  have go : Same (Off (T ++ A) H) (Off ((p :: T) ++ A) (upd H p o)) := off_hid hp
  refine ⟨e.len, fun i s h => ?_, e.dis, fun b x z => go _ _ (e.base _ _ z), e.sub, e.zs, fun a ha z => ?_, fun a ha z => ?_, e.all.trans (off_new hp)⟩
  · obtain ⟨o, h1, h2⟩ := e.ok i s h
    exact ⟨o, h1, h2.mono (fun _ h => h) (p :: T) go (fun a x _ _ q => g _ _ q) fun a _ x q => g _ _ q⟩
  · by_cases hb : a = p
    · subst hb
      rw [upd_same] at z; cases z
    · rw [upd_ne hb] at z
      refine e.live a ?_ z
      rcases List.mem_cons.mp (show a ∈ p :: (T ++ A) from ha) with q | q
      · exact absurd q hb
      · exact q
  · rcases List.mem_cons.mp z with q | q
    · exact e.live a (List.mem_append_right _ ha) (q ▸ hp)
    · exact e.dj a ha q
/-- what is in the making changes -/
theorem Env.retmp (e : Env β (p :: T) A σ H Γ) (h0 : β.H0 p = none) : Env β (p :: T) A σ (upd H p o) Γ := by
  have hm : p ∈ (p :: T) ++ A := List.mem_cons_self
  have eo : Off ((p :: T) ++ A) (upd H p o) = Off ((p :: T) ++ A) H := off_upd hm
  have hpA : p ∉ A := fun z => e.dj p z List.mem_cons_self
  refine ⟨e.len, fun i s h => ?_, e.dis, by rw [eo]; exact e.base, e.sub, e.zs, fun a ha z => ?_, e.dj, all_upd e.all h0⟩
  · obtain ⟨o, h1, h2⟩ := e.ok i s h
    refine ⟨o, h1, h2.mono (fun _ h => h) (p :: T) (by rw [eo]; exact Same.refl _) (fun a x ha _ q => ?_) fun a ha x q => ?_⟩
    · rw [upd_ne (fun (z : a = p) => hpA (z ▸ ha))]; exact q
    · rw [upd_ne (fun (z : a = p) => hpA (z ▸ e.sub a (e.zs a ha)))]; exact q
  · by_cases hb : a = p
    · rw [hb, upd_same] at z; cases z
    · rw [upd_ne hb] at z; exact e.live a ha z
/-- what was in the making is shown -/
theorem Env.untmp (e : Env β (p :: T) A σ H Γ) : Env β T A σ H Γ := by
  have go : Same (Off ((p :: T) ++ A) H) (Off (T ++ A) H) := off_le fun a ha => List.mem_cons_of_mem _ ha
  refine ⟨e.len, fun i s h => ?_, e.dis, fun b x z => go _ _ (e.base _ _ z), e.sub, e.zs, fun a ha z => e.live a (List.mem_cons_of_mem _ ha) z, fun a ha z => e.dj a ha (List.mem_cons_of_mem _ z), e.all⟩
  obtain ⟨o, h1, h2⟩ := e.ok i s h
  exact ⟨o, h1, h2.mono (fun _ h => h) T go (fun a x _ _ q => q) fun a _ x q => q⟩
theorem set_get {α : Type} {l : List α} {x y : α} (h : (l.set i x)[j]? = some y) : (j = i ∧ y = x ∧ i < l.length) ∨ (j ≠ i ∧ l[j]? = some y) := by
  by_cases hj : i = j
  · subst hj
    by_cases hl : i < l.length
    · rw [List.getElem?_set_self hl] at h
      exact .inl ⟨rfl, (Option.some.inj h).symm, hl⟩
    · rw [List.set_eq_of_length_le (by omega)] at h
      have := (List.getElem?_eq_some_iff.mp h).1
      omega
  · rw [List.getElem?_set_ne hj] at h
    exact .inr ⟨fun e => hj e.symm, h⟩
theorem Env.set0 (e : Env β T A σ H Γ) (v : Option V) (hs : SlOk β T A H v s)
    (hd : s.isOwn = true → ∀ (j : Nat) (s' : Sl) (a : Addr), j ≠ i → Γ[j]? = some s' → s'.isOwn = true → v = some (V.ref a) → σ[j]? = some (some (V.ref a)) → False) : Env β T A (σ.set i v) H (Γ.set i s) := by
  refine ⟨by rw [List.length_set, List.length_set]; exact e.len, fun j s' h => ?_, fun j k s1 s2 a h1 h2 o1 o2 g1 g2 => ?_, e.base, e.sub, e.zs, e.live, e.dj, e.all⟩
  · rcases set_get h with ⟨rfl, rfl, hl⟩ | ⟨hj, h⟩
    · exact ⟨v, List.getElem?_set_self (by rw [e.len]; exact hl), hs⟩
    · obtain ⟨o, h1, h2⟩ := e.ok j s' h
      exact ⟨o, by rw [List.getElem?_set_ne (fun z => hj z.symm)]; exact h1, h2⟩
  · rcases set_get h1 with ⟨rfl, rfl, hl⟩ | ⟨hj, h1'⟩
    · rcases set_get h2 with ⟨rfl, rfl, _⟩ | ⟨hk, h2'⟩
      · rfl
      · rw [List.getElem?_set_self (by rw [e.len]; exact hl)] at g1
        rw [List.getElem?_set_ne (fun z => hk z.symm)] at g2
        exact (hd o1 k s2 a hk h2' o2 (Option.some.inj g1) g2).elim
    · rw [List.getElem?_set_ne (fun z => hj z.symm)] at g1
      rcases set_get h2 with ⟨rfl, rfl, hl⟩ | ⟨hk, h2'⟩
      · rw [List.getElem?_set_self (by rw [e.len]; exact hl)] at g2
        exact (hd o2 j s1 a hj h1' o1 (Option.some.inj g2) g1).elim
      · rw [List.getElem?_set_ne (fun z => hk z.symm)] at g2
        exact e.dis j k s1 s2 a h1' h2' o1 o2 g1 g2
theorem Env.set (e : Env β T A σ H Γ) (r : Rp (Off (T ++ A) H) v d) : Env β T A (σ.set i (some v)) H (Γ.set i (.imm d)) :=
  e.set0 _ ⟨v, rfl, r⟩ fun z => by cases z
theorem Env.forget (e : Env β T A σ H Γ) (o : Option V) : Env β T A (σ.set i o) H (Γ.set i .any) := e.set0 _ trivial fun z => by cases z
theorem Env.fresh0 (e : Env β T A σ H Γ) (hp : H p = none) : β.H0 p = none := by
  cases q : β.H0 p with
  | none => rfl
  | some x =>
    by_cases hz : p ∈ β.Z
    · exact absurd hp (e.live p (e.zA p hz))
    · have z := (off_some (e.all p x (off_of hz q))).2
      rw [hp] at z; cases z
/-- a slot is forgotten, the values stay -/
theorem Env.any (e : Env β T A σ H Γ) : Env β T A σ H (Γ.set i .any) := by
  refine ⟨by rw [List.length_set]; exact e.len, fun j s' h => ?_, fun j k s1 s2 a h1 h2 o1 o2 g1 g2 => ?_, e.base, e.sub, e.zs, e.live, e.dj, e.all⟩
  · rcases set_get h with ⟨rfl, rfl, hl⟩ | ⟨hj, h⟩
    · exact ⟨σ[j]'(by rw [e.len]; exact hl), List.getElem?_eq_getElem _, trivial⟩
    · exact e.ok j s' h
  · rcases set_get h1 with ⟨rfl, rfl, hl⟩ | ⟨hj, h1'⟩
    · cases o1
    · rcases set_get h2 with ⟨rfl, rfl, hl⟩ | ⟨hk, h2'⟩
      · cases o2
      · exact e.dis j k s1 s2 a h1' h2' o1 o2 g1 g2
/-- a new list of one's own in a slot: it was in the making -/
theorem Env.own (e : Env β (p :: T) A σ H Γ) {xs : List V} {ds : List D} (hp : H p = some (.lst xs)) (hTA : p ∉ T ++ A) (h0 : β.H0 p = none) (r : RpA (Off ((p :: T) ++ A) H) xs ds) : Env β T (p :: A) (σ.set i (some (V.ref p))) H (Γ.set i (.own ds)) := by
  have go : Same (Off ((p :: T) ++ A) H) (Off (T ++ (p :: A)) H) := off_le fun a ha => by
    rcases List.mem_append.mp ha with h | h
    · exact List.mem_append_left _ (List.mem_cons_of_mem _ h)
    · rcases List.mem_cons.mp h with h | h
      · rw [h]; exact List.mem_append_left _ List.mem_cons_self
      · exact List.mem_append_right _ h
  have hA : p ∉ A := fun z => hTA (List.mem_append_right _ z)
  have e1 : Env β T (p :: A) σ H Γ := by
    refine ⟨e.len, fun i s h => ?_, e.dis, fun b x z => go _ _ (e.base _ _ z), fun a ha => List.mem_cons_of_mem _ (e.sub a ha), e.zs, fun a ha z => ?_, fun a ha z => ?_, e.all⟩
    · obtain ⟨o, h1, h2⟩ := e.ok i s h
      exact ⟨o, h1, h2.mono (fun _ h => List.mem_cons_of_mem _ h) T go (fun a x _ _ q => q) fun a _ x q => q⟩
    · rcases List.mem_append.mp ha with h | h
      · exact e.live a (List.mem_append_left _ (List.mem_cons_of_mem _ h)) z
      · rcases List.mem_cons.mp h with h | h
        · rw [h, hp] at z; cases z
        · exact e.live a (List.mem_append_right _ h) z
    · rcases List.mem_cons.mp ha with h | h
      · exact hTA (List.mem_append_left _ (h ▸ z))
      · exact e.dj a h (List.mem_cons_of_mem _ z)
  refine e1.set0 _ ⟨p, xs, rfl, ⟨List.mem_cons_self, fun z => hA (e.sub p z), h0⟩, hp, r.mono go⟩ fun _ j s' a hj hs ho hv hg => ?_
  cases hv
  obtain ⟨o, h1, h2⟩ := e.ok j s' hs
  rw [hg] at h1
  have h1 := Option.some.inj h1
  subst h1
  cases s' with
  | any => cases ho
  | imm d => cases ho
  | own ds => obtain ⟨a, xs, h3, h4, _⟩ := h2; cases h3; exact hA h4.1
  | pur a n => obtain ⟨h3, h4, _⟩ := h2; cases h3; exact hA (e.sub _ (e.zs _ h4))
  | exc a dd d => cases ho
theorem Env.at (e : Env β T A σ H Γ) {ds : List D} (h : Γ[i]? = some (.own ds)) : ∃ p xs, σ[i]? = some (some (V.ref p)) ∧ p ∈ A ∧ (p ∉ β.A0 ∧ β.H0 p = none) ∧ H p = some (.lst xs) ∧ RpA (Off (T ++ A) H) xs ds := by
  obtain ⟨o, h1, a, xs, rfl, h4, h5, h6⟩ := e.ok i _ h
  exact ⟨a, xs, h1, h4.1, h4.2, h5, h6⟩
/-- an owned list changes -/
theorem Env.put (e : Env β T A σ H Γ) {ds ds' : List D} {xs' : List V} (h : Γ[i]? = some (.own ds)) (h1 : σ[i]? = some (some (V.ref p))) (hA : p ∈ A) (h0 : p ∉ β.A0 ∧ β.H0 p = none) (r : RpA (Off (T ++ A) H) xs' ds') : Env β T A σ (upd H p (.lst xs')) (Γ.set i (.own ds')) := by
  have hm : p ∈ T ++ A := List.mem_append_right _ hA
  have eo : Off (T ++ A) (upd H p (.lst xs')) = Off (T ++ A) H := off_upd hm
  refine ⟨by rw [List.length_set]; exact e.len, fun j s' hj => ?_, fun j k s1 s2 b h1' h2' o1 o2 g1 g2 => ?_, by rw [eo]; exact e.base, e.sub, e.zs, fun b hb z => ?_, e.dj, all_upd e.all h0.2⟩
  · rcases set_get hj with ⟨rfl, rfl, hl⟩ | ⟨hji, hj⟩
    · exact ⟨_, h1, p, xs', rfl, ⟨hA, h0⟩, upd_same, by rw [eo]; exact r⟩
    · obtain ⟨o, q1, q2⟩ := e.ok j s' hj
      refine ⟨o, q1, ?_⟩
      cases s' with
      | any => trivial
      | imm d => obtain ⟨v, h3, h4⟩ := q2; exact ⟨v, h3, by rw [eo]; exact h4⟩
      | own ds =>
        obtain ⟨b, ys, h3, h4', h5', h6'⟩ := q2
        subst h3
        have hb : b ≠ p := fun z => by
          rw [z] at q1
          exact hji (e.dis j i _ _ p hj h rfl rfl q1 h1)
        exact ⟨b, ys, rfl, h4', by rw [upd_ne hb]; exact h5', by rw [eo]; exact h6'⟩
      | pur b n =>
        obtain ⟨h3, h4', x, y, z, t, h5', h6'⟩ := q2
        subst h3
        have hb : b ≠ p := fun z => by
          rw [z] at q1
          exact hji (e.dis j i _ _ p hj h rfl rfl q1 h1)
        exact ⟨rfl, h4', x, y, z, t, by rw [upd_ne hb]; exact h5', h6'⟩
      | exc b dd d => obtain ⟨h3, v, h4', h5'⟩ := q2; exact ⟨h3, v, by rw [eo]; exact h4', by rw [eo]; exact h5'⟩
  · have key : ∀ {j : Nat} {s' : Sl}, (Γ.set i (.own ds'))[j]? = some s' → s'.isOwn = true → ∃ s'', Γ[j]? = some s'' ∧ s''.isOwn = true := fun {j s'} hh ho => by
      rcases set_get hh with ⟨rfl, rfl, _⟩ | ⟨_, hh⟩
      · exact ⟨_, h, rfl⟩
      · exact ⟨_, hh, ho⟩
    obtain ⟨t1, w1, w2⟩ := key h1' o1
    obtain ⟨t2, w3, w4⟩ := key h2' o2
    exact e.dis j k t1 t2 b w1 w3 w2 w4 g1 g2
  · by_cases hb' : b = p
    · rw [hb', upd_same] at z; cases z
    · rw [upd_ne hb'] at z; exact e.live b hb z
/-- a purse changes -/
theorem Env.bump (e : Env β T A σ H Γ) {n m : Nat} (h : Γ[i]? = some (.pur p n)) (g : ∀ b x, b ≠ p → H b = some x → H' b = some x) (hp : Pur H' p m) : Env β T A σ H' (Γ.set i (.pur p m)) ∧ Same (Off β.Z H) (Off β.Z H') := by
  obtain ⟨o, h1, rfl, h4, h5⟩ := e.ok i _ h
  have hm : p ∈ T ++ A := e.zA _ h4
  have ez : Same (Off β.Z H) (Off β.Z H') := fun b x z => by
    obtain ⟨z1, z2⟩ := off_some z
    exact off_of z1 (g b x (fun q => z1 (q ▸ h4)) z2)
  have eo := e.vw ez
  refine ⟨⟨by rw [List.length_set]; exact e.len, fun j s' hj => ?_, fun j k s1 s2 b h1' h2' o1 o2 g1 g2 => ?_, fun b x z => eo _ _ (e.base _ _ z), e.sub, e.zs, fun b hb z => ?_, e.dj, e.all.trans ez⟩, ez⟩
  · rcases set_get hj with ⟨rfl, rfl, hl⟩ | ⟨hji, hj⟩
    · exact ⟨_, h1, rfl, h4, hp⟩
    · obtain ⟨o, q1, q2⟩ := e.ok j s' hj
      refine ⟨o, q1, ?_⟩
      cases s' with
      | any => trivial
      | imm d => obtain ⟨v, h3, h4⟩ := q2; exact ⟨v, h3, h4.mono eo⟩
      | own ds =>
        obtain ⟨b, ys, h3, h4', h5', h6'⟩ := q2
        subst h3
        have hb : b ≠ p := fun z => by
          rw [z] at q1
          exact hji (e.dis j i _ _ p hj h rfl rfl q1 h1)
        exact ⟨b, ys, rfl, h4', g _ _ hb h5', h6'.mono eo⟩
      | pur b n =>
        obtain ⟨h3, h4', x, y, z, t, h5', h6'⟩ := q2
        subst h3
        have hb : b ≠ p := fun z => by
          rw [z] at q1
          exact hji (e.dis j i _ _ p hj h rfl rfl q1 h1)
        exact ⟨rfl, h4', x, y, z, t, g _ _ hb h5', h6'⟩
      | exc b dd d => obtain ⟨h3, v, h4', h5'⟩ := q2; exact ⟨h3, v, eo _ _ h4', h5'.mono eo⟩
  · have key : ∀ {j : Nat} {s' : Sl}, (Γ.set i (.pur p m))[j]? = some s' → s'.isOwn = true → ∃ s'', Γ[j]? = some s'' ∧ s''.isOwn = true := fun {j s'} hh ho => by
      rcases set_get hh with ⟨rfl, rfl, _⟩ | ⟨_, hh⟩
      · exact ⟨_, h, rfl⟩
      · exact ⟨_, hh, ho⟩
    obtain ⟨t1, w1, w2⟩ := key h1' o1
    obtain ⟨t2, w3, w4⟩ := key h2' o2
    exact e.dis j k t1 t2 b w1 w3 w2 w4 g1 g2
  · by_cases hb' : b = p
    · obtain ⟨x, y, zz, t, h5', _⟩ := hp
      rw [hb', h5'] at z; cases z
    · cases q : H b with
      | none => exact e.live b hb q
      | some u => rw [g _ _ hb' q] at z; cases z
/-- a list of one's own is frozen -/
theorem Env.freeze (e : Env β T A σ H Γ) {ds : List D} (h : Γ[i]? = some (.own ds)) : ∃ A', Env β T A' σ H (Γ.set i (.imm (.lst ds))) ∧ Same (Off (T ++ A) H) (Off (T ++ A') H) := by
  obtain ⟨o, h1, a, xs, rfl, h4, h5, h6⟩ := e.ok i _ h
  have sb : ∀ b ∈ A.filter (fun b => decide (b ≠ a)), b ∈ A := fun b hb => (List.mem_filter.mp hb).1
  have sT : ∀ b ∈ T ++ A.filter (fun b => decide (b ≠ a)), b ∈ T ++ A := fun b hb => by
    rcases List.mem_append.mp hb with q | q
    · exact List.mem_append_left _ q
    · exact List.mem_append_right _ (sb b q)
  have go : Same (Off (T ++ A) H) (Off (T ++ A.filter (fun b => decide (b ≠ a))) H) := off_le sT
  have keep : ∀ {b}, b ∈ A → b ≠ a → b ∈ A.filter (fun b => decide (b ≠ a)) := fun hb hn => List.mem_filter.mpr ⟨hb, decide_eq_true hn⟩
  have haT : a ∉ T ++ A.filter (fun b => decide (b ≠ a)) := fun z => by
    rcases List.mem_append.mp z with q | q
    · exact e.dj a h4.1 q
    · have q := (List.mem_filter.mp q).2
      simp at q
  refine ⟨A.filter (fun b => decide (b ≠ a)), ⟨by rw [List.length_set]; exact e.len, fun j s' hj => ?_, fun j k s1 s2 b h1' h2' o1 o2 g1 g2 => ?_, fun b x z => go _ _ (e.base _ _ z), fun b hb => keep (e.sub b hb) (fun z => h4.2.1 (z ▸ hb)), e.zs, fun b hb z => e.live b (sT b hb) z, fun b hb => e.dj b (sb b hb), e.all⟩, go⟩
  · rcases set_get hj with ⟨rfl, rfl, hl⟩ | ⟨hji, hj⟩
    · exact ⟨_, h1, V.ref a, rfl, .lst (off_of haT h5) (h6.mono go)⟩
    · obtain ⟨o, q1, q2⟩ := e.ok j s' hj
      refine ⟨o, q1, ?_⟩
      cases s' with
      | any => trivial
      | imm d => obtain ⟨v, h3, h4⟩ := q2; exact ⟨v, h3, h4.mono go⟩
      | own ds =>
        obtain ⟨b, ys, h3, h4', h5', h6'⟩ := q2
        subst h3
        have hb : b ≠ a := fun z => by
          rw [z] at q1
          exact hji (e.dis j i _ _ a hj h rfl rfl q1 h1)
        exact ⟨b, ys, rfl, ⟨keep h4'.1 hb, h4'.2⟩, h5', h6'.mono go⟩
      | pur b n => exact q2
      | exc b dd d => obtain ⟨h3, v, h4', h5'⟩ := q2; exact ⟨h3, v, go _ _ h4', h5'.mono go⟩
  · rcases set_get h1' with ⟨rfl, rfl, _⟩ | ⟨_, h1'⟩
    · cases o1
    · rcases set_get h2' with ⟨rfl, rfl, _⟩ | ⟨_, h2'⟩
      · cases o2
      · exact e.dis j k s1 s2 b h1' h2' o1 o2 g1 g2
/-- the base goes back to an elder one -/
theorem Env.rebase {B : Hp} (e : Env { β with B := B } T A σ H Γ) (g : Same β.B B) : Env β T A σ H Γ :=
  ⟨e.len, fun i s h => by
    obtain ⟨o, h1, h2⟩ := e.ok i s h
    refine ⟨o, h1, ?_⟩
    cases s <;> exact h2, e.dis, fun b x z => e.base _ _ (g _ _ z), e.sub, e.zs, e.live, e.dj, e.all⟩
theorem Env.tobase (e : Env β T A σ H Γ) : Env { β with B := Off (T ++ A) H } T A σ H Γ :=
  ⟨e.len, fun i s h => by
    obtain ⟨o, h1, h2⟩ := e.ok i s h
    refine ⟨o, h1, ?_⟩
    cases s <;> exact h2, e.dis, Same.refl _, e.sub, e.zs, e.live, e.dj, e.all⟩
end
end Kr
/-! Kr2: weakest preconditions over data. -/
namespace Kr
open PySem L2
/-- what is wanted of an exception that leaves -/
def Wish (β : Bs) (E : XK) (ex : Addr → D → Prop) : Prop :=
  ∀ (C : Addr) (d : D) (dd : Addr) (v : V) (H' : Hp), ex C d → Same β.B (Off β.A0 H') → Same (Off β.Z β.H0) (Off β.Z H') → (∀ a ∈ β.A0, H' a ≠ none) → Off β.A0 H' dd = some (.xd [(("value" : Str), v)]) → Rp (Off β.A0 H') v d → E (.ref C) (some dd) H'
theorem Wish.mono {β : Bs} {B' : Hp} {E : XK} {ex : Addr → D → Prop} (w : Wish β E ex) (s : Same β.B B') : Wish { β with B := B' } E ex :=
  fun C d dd v H' h g z l k r => w C d dd v H' h (s.trans g) z l k r
/-- the view: strict, without what the slots own; or with it -/
def Vw (f : Bool) (β : Bs) (T A : List Addr) (H : Hp) : Hp := if f = true then Off (T ++ A) H else Off β.A0 H
abbrev Sm (β : Bs) (H H' : Hp) : Prop := Same (Off β.Z H) (Off β.Z H')
section
variable {f : Bool} {β : Bs} {T A : List Addr} {σ : L2.St} {H H' : Hp} {G : List Sl}
theorem Env.vwf (e : Env β T A σ H G) (g : Sm β H H') : Same (Vw f β T A H) (Vw f β T A H') := by
  cases f with
  | true => exact e.vw g
  | false => exact e.vw0 g
theorem vw_in : Same (Vw f β T A H) H := by
  cases f with
  | true => exact off_in
  | false => exact off_in
theorem Env.upf (e : Env β T A σ H G) : Same (Off (T ++ A) H) (Vw f β T A H) := by
  cases f with
  | true => exact Same.refl _
  | false => exact e.up
theorem Env.dnf (e : Env β T A σ H G) : Same (Vw f β T A H) (Off β.A0 H) := by
  cases f with
  | true => exact e.up
  | false => exact Same.refl _
theorem Env.newf (e : Env β T A σ H G) {p : Addr} {o : HO} (hp : H p = none) : Vw f β T A (upd H p o) p = some o := by
  cases f with
  | true => exact off_of (fun z => e.live p z hp) upd_same
  | false => exact off_of (fun z => e.live p (e.a0A p z) hp) upd_same
end
def dE (E : XK) (ex : Addr → D → Prop) (f : Bool) (te : TE) (G : List Sl) (Q : D → List Sl → Prop) : Prop :=
  ∀ (β : Bs) (T A : List Addr) (σ : L2.St) (H : Hp) (Qv : VK), Env β T A σ H G → Wish β E ex →
    (∀ d v H' G', Q d G' → Env β T A σ H' G' → Sm β H H' → Rp (Vw f β T A H') v d → Qv v H') → te σ H Qv
def dT (E : XK) (ex : Addr → D → Prop) (te : TT) (G : List Sl) (Q : Bool → List Sl → Prop) : Prop :=
  ∀ (β : Bs) (T A : List Addr) (σ : L2.St) (H : Hp) (Qv : Bool → Hp → Prop), Env β T A σ H G → Wish β E ex →
    (∀ b H' G', Q b G' → Env β T A σ H' G' → Sm β H H' → Qv b H') → te σ H Qv
def dA (E : XK) (ex : Addr → D → Prop) (f : Bool) (te : TA) (G : List Sl) (Q : List D → List Sl → Prop) : Prop :=
  ∀ (β : Bs) (T A : List Addr) (σ : L2.St) (H : Hp) (Qv : List V → Hp → Prop), Env β T A σ H G → Wish β E ex →
    (∀ ds vs H' G', Q ds G' → Env β T A σ H' G' → Sm β H H' → RpA (Vw f β T A H') vs ds → Qv vs H') → te σ H Qv
/-- a new list -/
def dL (E : XK) (ex : Addr → D → Prop) (te : TE) (G : List Sl) (Q : List D → List Sl → Prop) : Prop :=
  ∀ (β : Bs) (T A : List Addr) (σ : L2.St) (H : Hp) (Qv : VK), Env β T A σ H G → Wish β E ex →
    (∀ ds p xs H' G', Q ds G' → p ∉ T ++ A → β.H0 p = none → Env β (p :: T) A σ H' G' → Sm β H H' → H' p = some (.lst xs) → RpA (Off ((p :: T) ++ A) H') xs ds → Qv (V.ref p) H') → te σ H Qv
/-- an optional end of a slice -/
def dO (E : XK) (ex : Addr → D → Prop) (te : TO) (G : List Sl) (Q : Option Int → List Sl → Prop) : Prop :=
  ∀ (β : Bs) (T A : List Addr) (σ : L2.St) (H : Hp) (Qv : Option Int → Hp → Prop), Env β T A σ H G → Wish β E ex →
    (∀ b H' G', Q b G' → Env β T A σ H' G' → Sm β H H' → Qv b H') → te σ H Qv
structure Po where
  nx : List Sl → Prop
  bk : List Sl → Prop
  ct : List Sl → Prop
  rt : D → List Sl → Prop
def dS (E : XK) (ex : Addr → D → Prop) (t : TS) (G : List Sl) (P : Po) : Prop :=
  ∀ (β : Bs) (A : List Addr) (σ : L2.St) (H : Hp) (D : Ends), Env β [] A σ H G → Wish β E ex →
    (∀ A' σ' H' G', P.nx G' → Env β [] A' σ' H' G' → D.nx σ' H') → (∀ A' σ' H' G', P.bk G' → Env β [] A' σ' H' G' → D.bk σ' H') → (∀ A' σ' H' G', P.ct G' → Env β [] A' σ' H' G' → D.ct σ' H') →
    (∀ d v A' σ' H' G', P.rt d G' → Env β [] A' σ' H' G' → Rp (Off β.A0 H') v d → D.rt v H') → t D σ H
section
variable {E : XK} {ex : Addr → D → Prop} {f f1 f2 : Bool} {G : List Sl} {te ta tb : TE} {Q : D → List Sl → Prop} {QB : Bool → List Sl → Prop} {QA : List D → List Sl → Prop} {QO : Option Int → List Sl → Prop} {P : Po} {i : Nat} {d : D} {tt t1 t2 : TT} {ts tu : TS} {tr : TA}
theorem dE.imp {Q' : D → List Sl → Prop} (h : dE E ex f te G Q) (q : ∀ d G', Q d G' → Q' d G') : dE E ex f te G Q' :=
  fun β T A σ H Qv en w k => h β T A σ H Qv en w fun d v H' G' z => k d v H' G' (q _ _ z)
theorem dT.imp {Q' : Bool → List Sl → Prop} (h : dT E ex tt G QB) (q : ∀ d G', QB d G' → Q' d G') : dT E ex tt G Q' :=
  fun β T A σ H Qv en w k => h β T A σ H Qv en w fun d H' G' z => k d H' G' (q _ _ z)
theorem dA.imp {Q' : List D → List Sl → Prop} (h : dA E ex f tr G QA) (q : ∀ d G', QA d G' → Q' d G') : dA E ex f tr G Q' :=
  fun β T A σ H Qv en w k => h β T A σ H Qv en w fun d v H' G' z => k d v H' G' (q _ _ z)
theorem dL.imp {Q' : List D → List Sl → Prop} (h : dL E ex te G QA) (q : ∀ d G', QA d G' → Q' d G') : dL E ex te G Q' :=
  fun β T A σ H Qv en w k => h β T A σ H Qv en w fun d p xs H' G' z => k d p xs H' G' (q _ _ z)
theorem dS.imp {P' : Po} (h : dS E ex ts G P) (q1 : ∀ G', P.nx G' → P'.nx G') (q2 : ∀ G', P.bk G' → P'.bk G') (q3 : ∀ G', P.ct G' → P'.ct G') (q4 : ∀ d G', P.rt d G' → P'.rt d G') : dS E ex ts G P' :=
  fun β A σ H D en w k1 k2 k3 k4 => h β A σ H D en w (fun A' σ' H' G' z => k1 _ _ _ _ (q1 _ z)) (fun A' σ' H' G' z => k2 _ _ _ _ (q2 _ z)) (fun A' σ' H' G' z => k3 _ _ _ _ (q3 _ z)) fun d v A' σ' H' G' z => k4 _ _ _ _ _ _ (q4 _ _ z)
/-! ### leaves -/
theorem dE_c {v : V} (hv : ∀ H, Rp H v d) (q : Q d G) : dE E ex f (tC v) G Q := fun _ _ _ _ H _ en _ k => k d v H G q en (Same.refl _) (hv _)
theorem dE_int {n : Int} (q : Q (.int n) G) : dE E ex f (tC (.int n)) G Q := dE_c (fun _ => .int n) q
theorem dE_str {n : Str} (q : Q (.str n) G) : dE E ex f (tC (.str n)) G Q := dE_c (fun _ => .str n) q
theorem dE_bl {n : Bool} (q : Q (.bl n) G) : dE E ex f (tC (.bl n)) G Q := dE_c (fun _ => .bl n) q
theorem dE_non (q : Q .non G) : dE E ex f (tC .non) G Q := dE_c (fun _ => .non) q
theorem dE_var (h : G[i]? = some (.imm d)) (q : Q d G) : dE E ex f (tVar i) G Q := fun β T A σ H Qv en _ k => by
  obtain ⟨v, h1, r⟩ := en.get h
  exact ⟨v, h1, k d v H G q en (Same.refl _) (r.mono en.upf)⟩
/-- an owned list, looked at -/
theorem dE_own {ds : List D} (h : G[i]? = some (.own ds)) (q : Q (.lst ds) G) : dE E ex false (tVar i) G Q := fun β T A σ H Qv en _ k => by
  obtain ⟨p, xs, h1, hA, h0, hp, r⟩ := en.at h
  exact ⟨_, h1, k (.lst ds) _ H G q en (Same.refl _) (.lst (off_of h0.1 hp) (r.mono en.up))⟩
/-! ### a one-place and a two-place operation -/
/-- what an operation on values gives of data: a value that hangs on no heap -/
def OpD (r : R2) (x y z : D) : Prop := ∀ (H F : Hp) (u v : V) (k : VK), Same F H → Rp F u x → Rp F v y → (∀ w, (∀ F', Rp F' w z) → k w H) → r u v H k
def UnD (r : V → Hp → VK → Prop) (x z : D) : Prop := ∀ (H F : Hp) (u : V) (k : VK), Same F H → Rp F u x → (∀ w, (∀ F', Rp F' w z) → k w H) → r u H k
def CaD (r : List V → Hp → VK → Prop) (xs : List D) (z : D) : Prop := ∀ (H F : Hp) (us : List V) (k : VK), Same F H → RpA F us xs → (∀ w, (∀ F', Rp F' w z) → k w H) → r us H k
def McD (r : V → List V → Hp → VK → Prop) (x : D) (xs : List D) (z : D) : Prop := ∀ (H F : Hp) (u : V) (us : List V) (k : VK), Same F H → Rp F u x → RpA F us xs → (∀ w, (∀ F', Rp F' w z) → k w H) → r u us H k
theorem dE_op2 {r : R2} (h : dE E ex false ta G fun x G1 => dE E ex false tb G1 fun y G2 => ∃ z, OpD r x y z ∧ Q z G2) : dE E ex f (tOp r ta tb) G Q := fun β T A σ H Qv en w k => by
  refine h β T A σ H _ en w fun x u H1 G1 h1 en1 s1 r1 => ?_
  refine h1 β T A σ H1 _ en1 w fun y v H2 G2 ⟨z, o, q⟩ en2 s2 r2 => ?_
  exact o H2 _ u v Qv vw_in (r1.mono (en1.vwf s2)) r2 fun w' hw => k z w' H2 G2 q en2 (s1.trans s2) (hw _)
theorem dE_un {r : V → Hp → VK → Prop} (h : dE E ex false ta G fun x G1 => ∃ z, UnD r x z ∧ Q z G1) : dE E ex f (tUn r ta) G Q := fun β T A σ H Qv en w k => by
  refine h β T A σ H _ en w fun x u H1 G1 ⟨z, o, q⟩ en1 s1 r1 => ?_
  exact o H1 _ u Qv vw_in r1 fun w' hw => k z w' H1 G1 q en1 s1 (hw _)
/-- a built-in on data: a value that hangs on no heap -/
theorem dE_cb {r : List V → Hp → VK → Prop} (h : dA E ex false tr G fun xs G1 => ∃ z, CaD r xs z ∧ Q z G1) : dE E ex f (tCB r tr) G Q := fun β T A σ H Qv en w k => by
  refine h β T A σ H _ en w fun x u H1 G1 ⟨z, o, q⟩ en1 s1 r1 => ?_
  exact o H1 _ u Qv vw_in r1 fun w' hw => k z w' H1 G1 q en1 s1 (hw _)
/-! ### tests, and, or, not, if -/
theorem dT_test (h : dE E ex false te G fun d G' => ∃ b, d = .bl b ∧ QB b G') : dT E ex (tTest te) G QB := fun β T A σ H Qv en w k => by
  refine h β T A σ H _ en w fun x u H1 G1 ⟨b, e, q⟩ en1 s1 r1 => ?_
  subst e
  cases r1
  exact ⟨b, rfl, k b H1 G1 q en1 s1⟩
theorem dT_B (h : dE E ex false te G fun d G' => ∃ b, d = .bl b ∧ QB b G') : dT E ex (tB te) G QB := fun β T A σ H Qv en w k => by
  refine h β T A σ H _ en w fun x u H1 G1 ⟨b, e, q⟩ en1 s1 r1 => ?_
  subst e
  cases r1
  exact ⟨b, rfl, k b H1 G1 q en1 s1⟩
theorem dT_yes (q : QB true G) : dT E ex tYes G QB := fun β T A σ H Qv en w k => k true H G q en (Same.refl _)
theorem dT_and (h : dT E ex t1 G fun b G' => (b = true → dT E ex t2 G' QB) ∧ (b = false → QB false G')) : dT E ex (tAnd t1 t2) G QB := fun β T A σ H Qv en w k => by
  refine h β T A σ H _ en w fun b H1 G1 ⟨q1, q2⟩ en1 s1 => ?_
  cases b with
  | true =>
    show t2 σ H1 Qv
    exact q1 rfl β T A σ H1 Qv en1 w fun b H2 G2 q en2 s2 => k b H2 G2 q en2 (s1.trans s2)
  | false => exact k false H1 G1 (q2 rfl) en1 s1
theorem dT_or (h : dT E ex t1 G fun b G' => (b = true → QB true G') ∧ (b = false → dT E ex t2 G' QB)) : dT E ex (tOr t1 t2) G QB := fun β T A σ H Qv en w k => by
  refine h β T A σ H _ en w fun b H1 G1 ⟨q1, q2⟩ en1 s1 => ?_
  cases b with
  | true => exact k true H1 G1 (q1 rfl) en1 s1
  | false =>
    show t2 σ H1 Qv
    exact q2 rfl β T A σ H1 Qv en1 w fun b H2 G2 q en2 s2 => k b H2 G2 q en2 (s1.trans s2)
theorem dT_not (h : dT E ex t1 G fun b G' => QB (!b) G') : dT E ex (tNot t1) G QB := fun β T A σ H Qv en w k =>
  h β T A σ H _ en w fun b H1 G1 q en1 s1 => k _ H1 G1 q en1 s1
theorem dE_and (h : dE E ex false ta G fun d G' => ∃ b, d = .bl b ∧ (b = true → dE E ex f tb G' Q) ∧ (b = false → Q (.bl false) G')) : dE E ex f (tAndV ta tb) G Q := fun β T A σ H Qv en w k => by
  refine h β T A σ H _ en w fun d u H1 G1 ⟨b, e, q1, q2⟩ en1 s1 r1 => ?_
  subst e
  cases r1
  refine ⟨b, rfl, ?_⟩
  cases b with
  | true =>
    show tb σ H1 Qv
    exact q1 rfl β T A σ H1 Qv en1 w fun d v H2 G2 q en2 s2 r2 => k d v H2 G2 q en2 (s1.trans s2) r2
  | false => exact k (.bl false) (.bl false) H1 G1 (q2 rfl) en1 s1 (.bl _)
theorem dE_or (h : dE E ex false ta G fun d G' => ∃ b, d = .bl b ∧ (b = true → Q (.bl true) G') ∧ (b = false → dE E ex f tb G' Q)) : dE E ex f (tOrV ta tb) G Q := fun β T A σ H Qv en w k => by
  refine h β T A σ H _ en w fun d u H1 G1 ⟨b, e, q1, q2⟩ en1 s1 r1 => ?_
  subst e
  cases r1
  refine ⟨b, rfl, ?_⟩
  cases b with
  | true => exact k (.bl true) (.bl true) H1 G1 (q1 rfl) en1 s1 (.bl _)
  | false =>
    show tb σ H1 Qv
    exact q2 rfl β T A σ H1 Qv en1 w fun d v H2 G2 q en2 s2 r2 => k d v H2 G2 q en2 (s1.trans s2) r2
theorem dE_not (h : dE E ex false ta G fun d G' => ∃ b, d = .bl b ∧ Q (.bl (!b)) G') : dE E ex f (tNotV ta) G Q := fun β T A σ H Qv en w k => by
  refine h β T A σ H _ en w fun d u H1 G1 ⟨b, e, q⟩ en1 s1 r1 => ?_
  subst e
  cases r1
  exact ⟨b, rfl, k _ _ H1 G1 q en1 s1 (.bl _)⟩
theorem dE_if (h : dT E ex tt G fun b G' => (b = true → dE E ex f ta G' Q) ∧ (b = false → dE E ex f tb G' Q)) : dE E ex f (tIf tt ta tb) G Q := fun β T A σ H Qv en w k => by
  refine h β T A σ H _ en w fun b H1 G1 ⟨q1, q2⟩ en1 s1 => ?_
  cases b with
  | true =>
    show ta σ H1 Qv
    exact q1 rfl β T A σ H1 Qv en1 w fun d v H2 G2 q en2 s2 r2 => k d v H2 G2 q en2 (s1.trans s2) r2
  | false =>
    show tb σ H1 Qv
    exact q2 rfl β T A σ H1 Qv en1 w fun d v H2 G2 q en2 s2 r2 => k d v H2 G2 q en2 (s1.trans s2) r2
/-- a < b < c -/
theorem dE_chain {r r' : R2} {tc : TE} (h : dE E ex false ta G fun x G1 => dE E ex false tb G1 fun y G2 => ∃ b, OpD r x y (.bl b) ∧ (b = true → dE E ex false tc G2 fun z G3 => ∃ w, OpD r' y z w ∧ Q w G3) ∧ (b = false → Q (.bl false) G2)) : dE E ex f (tChain r r' ta tb tc) G Q := fun β T A σ H Qv en w k => by
  refine h β T A σ H _ en w fun x u H1 G1 h1 en1 s1 r1 => ?_
  refine h1 β T A σ H1 _ en1 w fun y v H2 G2 ⟨b, o, q1, q2⟩ en2 s2 r2 => ?_
  refine o H2 _ u v _ vw_in (r1.mono (en1.vwf s2)) r2 fun w' hw => ?_
  cases hw H2
  refine ⟨b, rfl, ?_⟩
  cases b with
  | true =>
    show tc σ H2 _
    refine q1 rfl β T A σ H2 _ en2 w fun z c H3 G3 ⟨w2, o2, q⟩ en3 s3 r3 => ?_
    exact o2 H3 _ v c Qv vw_in (r2.mono (en2.vwf s3)) r3 fun w' hw => k w2 w' H3 G3 q en3 ((s1.trans s2).trans s3) (hw _)
  | false => exact k _ _ H2 G2 (q2 rfl) en2 (s1.trans s2) (.bl _)
/-! ### arguments, displays -/
theorem dA_nil (q : QA [] G) : dA E ex f tNil G QA := fun β T A σ H Qv en w k => k [] [] H G q en (Same.refl _) .nil
theorem dA_cons (h : dE E ex f te G fun d G1 => dA E ex f tr G1 fun ds G2 => QA (d :: ds) G2) : dA E ex f (tCons te tr) G QA := fun β T A σ H Qv en w k => by
  refine h β T A σ H _ en w fun d v H1 G1 h1 en1 s1 r1 => ?_
  exact h1 β T A σ H1 _ en1 w fun ds vs H2 G2 q en2 s2 r2 => k (d :: ds) (v :: vs) H2 G2 q en2 (s1.trans s2) (.cons (r1.mono (en1.vwf s2)) r2)
theorem vw_new {β : Bs} {T A : List Addr} {H : Hp} {p : Addr} {o : HO} (hp : H p = none) : Same (Vw f β T A H) (Vw f β T A (upd H p o)) := by
  cases f with
  | true => exact off_new hp
  | false => exact off_new hp
theorem dE_tup (h : dA E ex f tr G fun ds G1 => ds.length ≤ 1000 ∧ Q (.tup ds) G1) : dE E ex f (tTup tr) G Q := fun β T A σ H Qv en w k => by
  refine h β T A σ H _ en w fun ds vs H1 G1 ⟨hl, q⟩ en1 s1 r1 => ?_
  refine ⟨by rw [r1.length, sizeLine_eq]; omega, fun p hp => ?_⟩
  exact k _ _ _ G1 q (en1.grow (same_new hp)) (s1.trans (off_new hp)) (.tup (en1.newf hp) (r1.mono (vw_new hp)))
theorem dL_lst (h : dA E ex true tr G fun ds G1 => ds.length ≤ 1000 ∧ QA ds G1) : dL E ex (tLst tr) G QA := fun β T A σ H Qv en w k => by
  refine h β T A σ H _ en w fun ds vs H1 G1 ⟨hl, q⟩ en1 s1 r1 => ?_
  refine ⟨by rw [r1.length, sizeLine_eq]; omega, fun p hp => ?_⟩
  have hpA : p ∉ T ++ A := fun z => en1.live p z hp
  exact k _ p vs _ G1 q hpA (en1.fresh0 hp) (en1.tmp hp) (s1.trans (off_new hp)) upd_same (r1.mono (off_hid hp))
/-- a list display as a value, whatever it holds -/
theorem dE_lst (h : dA E ex f tr G fun ds G1 => ds.length ≤ 1000 ∧ Q (.lst ds) G1) : dE E ex f (tLst tr) G Q := fun β T A σ H Qv en w k => by
  refine h β T A σ H _ en w fun ds vs H1 G1 ⟨hl, q⟩ en1 s1 r1 => ?_
  refine ⟨by rw [r1.length, sizeLine_eq]; omega, fun p hp => ?_⟩
  exact k _ _ _ G1 q (en1.grow (same_new hp)) (s1.trans (off_new hp)) (.lst (en1.newf hp) (r1.mono (vw_new hp)))
/-- a new list as a value -/
theorem dE_L (h : dL E ex te G fun ds G1 => Q (.lst ds) G1) : dE E ex f te G Q := fun β T A σ H Qv en w k =>
  h β T A σ H Qv en w fun ds p xs H1 G1 q hp h0 en1 s1 e1 r1 => by
    have go : Same (Off ((p :: T) ++ A) H1) (Off (T ++ A) H1) := off_le fun a ha => List.mem_cons_of_mem _ ha
    exact k _ _ _ G1 q en1.untmp s1 ((Rp.lst (off_of hp e1) (r1.mono go)).mono en1.untmp.upf)
/-! ### statements -/
theorem dS_seq (h : dS E ex ts G { P with nx := fun G' => dS E ex tu G' P }) : dS E ex (tSeq ts tu) G P := fun β A σ H D en w k1 k2 k3 k4 =>
  h β A σ H { D with nx := tu D } en w (fun A' σ' H' G' q en' => q β A' σ' H' D en' w k1 k2 k3 k4) k2 k3 k4
theorem dS_next (q : P.nx G) : dS E ex tNext G P := fun β A σ H D en w k1 _ _ _ => k1 A σ H G q en
theorem dS_brk (q : P.bk G) : dS E ex tBreak G P := fun β A σ H D en w _ k2 _ _ => k2 A σ H G q en
theorem dS_ct (q : P.ct G) : dS E ex tCont G P := fun β A σ H D en w _ _ k3 _ => k3 A σ H G q en
theorem dS_set (h : dE E ex true te G fun d G' => P.nx (G'.set i (.imm d))) : dS E ex (tAsg te (gName i)) G P := fun β A σ H D en w k1 _ _ _ =>
  h β [] A σ H _ en w fun d v H1 G1 q en1 s1 r1 => k1 A _ H1 _ q (en1.set r1)
theorem dS_setL (h : dL E ex te G fun ds G' => P.nx (G'.set i (.own ds))) : dS E ex (tAsg te (gName i)) G P := fun β A σ H D en w k1 _ _ _ =>
  h β [] A σ H _ en w fun ds p xs H1 G1 q hp h0 en1 s1 e1 r1 => k1 (p :: A) _ H1 _ q (en1.own e1 hp h0 r1)
theorem dS_drop (h : dE E ex false te G fun d G' => P.nx G') : dS E ex (tDrop te) G P := fun β A σ H D en w k1 _ _ _ =>
  h β [] A σ H _ en w fun d v H1 G1 q en1 s1 r1 => k1 A _ H1 _ q en1
theorem dS_ret (h : dE E ex false te G fun d G' => P.rt d G') : dS E ex (tRet te) G P := fun β A σ H D en w _ _ _ k4 =>
  h β [] A σ H _ en w fun d v H1 G1 q en1 s1 r1 => k4 d v A σ H1 G1 q en1 r1
theorem dS_retN (h : P.rt .non G) : dS E ex tRetN G P := fun β A σ H D en w _ _ _ k4 => k4 .non .non A σ H G h en .non
theorem dS_if (h : dT E ex tt G fun b G' => (b = true → dS E ex ts G' P) ∧ (b = false → dS E ex tu G' P)) : dS E ex (tIfS tt ts tu) G P := fun β A σ H D en w k1 k2 k3 k4 => by
  refine h β [] A σ H _ en w fun b H1 G1 ⟨q1, q2⟩ en1 s1 => ?_
  cases b with
  | true =>
    show ts D σ H1
    exact q1 rfl β A σ H1 D en1 w k1 k2 k3 k4
  | false =>
    show tu D σ H1
    exact q2 rfl β A σ H1 D en1 w k1 k2 k3 k4
/-- a list of one's own is frozen from here on -/
theorem dS_freeze {ds : List D} (i : Nat) (hi : G[i]? = some (.own ds)) (h : dS E ex ts (G.set i (.imm (.lst ds))) P) : dS E ex ts G P := fun β A σ H D en w k1 k2 k3 k4 => by
  obtain ⟨A', en', _⟩ := en.freeze hi
  exact h β A' σ H D en' w k1 k2 k3 k4
theorem dS_any (i : Nat) (h : dS E ex ts (G.set i .any) P) : dS E ex ts G P := fun β A σ H D en w k1 k2 k3 k4 => h β A σ H D en.any w k1 k2 k3 k4
/-- xs.append(e), xs one's own -/
theorem dS_append {K : PySem.W.Frag} (h : dA E ex true tr G fun es G' => ∃ d ds, es = [d] ∧ G'[i]? = some (.own ds) ∧ ds.length < 1000000 ∧ P.nx (G'.set i (.own (ds ++ [d])))) (h0 : ∃ ds, G[i]? = some (.own ds)) :
    dS E ex (tDrop (tBM K "list" rAppend (tVar i) tr)) G P := fun β A σ H Dn en w k1 _ _ _ => by
  obtain ⟨ds0, h0⟩ := h0
  obtain ⟨p, xs, h1, hA, hn, hp, r⟩ := en.at h0
  refine ⟨_, h1, .inl ⟨rfl, xs, .inl (.inl hp)⟩, ?_⟩
  refine h β [] A σ H _ en w fun es vs H1 G1 ⟨d, ds, ee, hi, hl, q⟩ en1 s1 r1 => ?_
  subst ee
  cases r1 with
  | cons rv rn =>
    cases rn
    obtain ⟨p', xs', h1', hA', hn', hp', r'⟩ := en1.at hi
    rw [h1] at h1'
    cases h1'
    refine ⟨p, xs', _, rfl, rfl, hp', ?_, ?_⟩
    · rw [r'.length, sizeLine_eq]; omega
    · exact k1 A σ _ _ q (en1.put hi h1 hA' hn' (r'.append (.one rv)))
end
end Kr
/-! Kr3: targets, loops, comprehensions, calls. -/
namespace Kr
open PySem L2
/-- a list and its slots forgotten -/
def wipeG (G : List Sl) : List Nat → List Sl
  | [] => G
  | v :: vs => (wipeG G vs).set v .any
section
variable {β : Bs} {T A : List Addr} {σ σ' : L2.St} {H H' : Hp} {G : List Sl}
theorem Env.wipe (e : Env β T A σ H G) : ∀ vs : List Nat, Env β T A (L2.wipe σ vs) H (wipeG G vs)
  | [] => e
  | v :: vs => (Env.wipe e vs).forget none
theorem wipeG_length : ∀ vs : List Nat, (wipeG G vs).length = G.length
  | [] => rfl
  | v :: vs => by
    show ((wipeG G vs).set v .any).length = _
    rw [List.length_set, wipeG_length vs]
theorem wipeG_get : ∀ {vs : List Nat} {i : Nat} {s : Sl}, (wipeG G vs)[i]? = some s → s = .any ∨ (i ∉ vs ∧ G[i]? = some s)
  | [], i, s, h => .inr ⟨by simp, h⟩
  | v :: vs, i, s, h => by
    rcases set_get (show ((wipeG G vs).set v .any)[i]? = some s from h) with ⟨_, e, _⟩ | ⟨hi, h⟩
    · exact .inl e
    · rcases wipeG_get h with e | ⟨h1, h2⟩
      · exact .inl e
      · exact .inr ⟨fun z => (List.mem_cons.mp z).elim hi h1, h2⟩
theorem wipe_get : ∀ {vs : List Nat} {i : Nat}, i ∉ vs → (L2.wipe σ vs)[i]? = σ[i]?
  | [], _, _ => rfl
  | v :: vs, i, h => by
    show ((L2.wipe σ vs).set v none)[i]? = _
    rw [List.getElem?_set_ne (fun (z : v = i) => h (by rw [z]; exact List.mem_cons_self))]
    exact wipe_get fun z => h (List.mem_cons_of_mem _ z)
/-- out of a block: the slots outside as they were, its own forgotten -/
theorem Env.unwipe (e : Env β T A σ' H G) {vs : List Nat} (hw : L2.wipe σ' vs = L2.wipe σ vs) : Env β T A σ H (wipeG G vs) := by
  have gt : ∀ {i : Nat}, i ∉ vs → σ'[i]? = σ[i]? := fun {i} h => by rw [← wipe_get h, hw, wipe_get h]
  have hl : σ.length = σ'.length := by rw [← wipe_length σ vs, ← hw, wipe_length]
  refine ⟨by rw [wipeG_length, hl]; exact e.len, fun i s h => ?_, fun i j s s' a h1 h2 o1 o2 g1 g2 => ?_, e.base, e.sub, e.zs, e.live, e.dj, e.all⟩
  · rcases wipeG_get h with z | ⟨z1, z2⟩
    · subst z
      have hi : i < σ.length := by
        have := (List.getElem?_eq_some_iff.mp h).1
        rw [wipeG_length] at this
        rw [hl, e.len]; exact this
      exact ⟨σ[i], List.getElem?_eq_getElem hi, trivial⟩
    · obtain ⟨o, q1, q2⟩ := e.ok i s z2
      exact ⟨o, by rw [← gt z1]; exact q1, q2⟩
  · rcases wipeG_get h1 with z | ⟨z1, z2⟩
    · rw [z] at o1; cases o1
    · rcases wipeG_get h2 with y | ⟨y1, y2⟩
      · rw [y] at o2; cases o2
      · exact e.dis i j s s' a z2 y2 o1 o2 (by rw [gt z1]; exact g1) (by rw [gt y1]; exact g2)
end
/-! ### targets -/
def dG (g : TG) (vs : List Nat) (d : D) (G : List Sl) (Q : List Sl → Prop) : Prop :=
  ∀ (β : Bs) (T A : List Addr) (σ : L2.St) (H : Hp) (v : V) (Qv : L2.St → Hp → Prop), Env β T A σ H G → Rp (Off (T ++ A) H) v d →
    (∀ σ' G', Q G' → Env β T A σ' H G' → L2.wipe σ' vs = L2.wipe σ vs → Qv σ' H) → g v σ H Qv
def dGs (g : TGs) (vs : List Nat) (ds : List D) (G : List Sl) (Q : List Sl → Prop) : Prop :=
  ∀ (β : Bs) (T A : List Addr) (σ : L2.St) (H : Hp) (us : List V) (Qv : L2.St → Hp → Prop), Env β T A σ H G → RpA (Off (T ++ A) H) us ds →
    (∀ σ' G', Q G' → Env β T A σ' H G' → L2.wipe σ' vs = L2.wipe σ vs → Qv σ' H) → g us σ H Qv
theorem wipe_set {σ : L2.St} {i : Nat} {o : Option V} : ∀ {vs : List Nat}, i ∈ vs → L2.wipe (σ.set i o) vs = L2.wipe σ vs
  | v :: vs, h => by
    show (L2.wipe (σ.set i o) vs).set v none = (L2.wipe σ vs).set v none
    by_cases hi : i ∈ vs
    · rw [wipe_set hi]
    · have e : i = v := by
        rcases List.mem_cons.mp h with h | h
        · exact h
        · exact absurd h hi
      subst e
      refine List.ext_getElem? fun j => ?_
      by_cases hj : i = j
      · subst hj
        have hl : (L2.wipe (σ.set i o) vs).length = (L2.wipe σ vs).length := by rw [wipe_length, wipe_length, List.length_set]
        by_cases hb : i < (L2.wipe σ vs).length
        · rw [List.getElem?_set_self (by rw [hl]; exact hb), List.getElem?_set_self hb]
        · rw [List.getElem?_eq_none (by rw [List.length_set, hl]; omega), List.getElem?_eq_none (by rw [List.length_set]; omega)]
      · rw [List.getElem?_set_ne hj, List.getElem?_set_ne hj]
        by_cases hv : j ∈ vs
        · have key : ∀ {τ : L2.St} {ws : List Nat}, j ∈ ws → j < τ.length → (L2.wipe τ ws)[j]? = some none := fun {τ ws} => by
            intro hm hl
            induction ws with
            | nil => cases hm
            | cons w ws ih =>
              show ((L2.wipe τ ws).set w none)[j]? = _
              by_cases hw : w = j
              · subst hw
                exact List.getElem?_set_self (by rw [wipe_length]; exact hl)
              · rw [List.getElem?_set_ne hw]
                rcases List.mem_cons.mp hm with q | q
                · exact absurd q.symm hw
                · exact ih q
          by_cases hb : j < σ.length
          · rw [key hv (by rw [List.length_set]; exact hb), key hv hb]
          · rw [List.getElem?_eq_none (by rw [wipe_length, List.length_set]; omega), List.getElem?_eq_none (by rw [wipe_length]; omega)]
        · rw [wipe_get hv, wipe_get hv, List.getElem?_set_ne hj]
section
variable {G : List Sl} {Q : List Sl → Prop} {vs : List Nat} {i n : Nat} {d : D} {ds : List D} {g : TG} {gs : TGs} {K : PySem.W.Frag}
theorem dG_name (hi : i ∈ vs) (q : Q (G.set i (.imm d))) : dG (gName i) vs d G Q := fun β T A σ H v Qv en r k => k _ _ q (en.set r) (wipe_set hi)
theorem dGs_nil (q : Q G) : dGs gNil vs [] G Q := fun β T A σ H us Qv en r k => by
  cases r
  exact ⟨rfl, k σ G q en rfl⟩
theorem dGs_cons (h : dG g vs d G fun G1 => dGs gs vs ds G1 Q) : dGs (gCons g gs) vs (d :: ds) G Q := fun β T A σ H us Qv en r k => by
  cases r with
  | cons r1 r2 =>
    exact ⟨_, _, rfl, h β T A σ H _ _ en r1 fun σ1 G1 h1 en1 w1 => h1 β T A σ1 H _ Qv en1 r2 fun σ2 G2 q en2 w2 => k σ2 G2 q en2 (w2.trans w1)⟩
theorem dG_tup (hn : ds.length = n) (h : dGs gs vs ds G Q) : dG (gTup K n gs) vs (.tup ds) G Q := fun β T A σ H v Qv en r k => by
  obtain ⟨a, xs, rfl, hs, r2, _⟩ := (show ∃ a xs, v = V.ref a ∧ SqT K H a xs ∧ RpA (Off (T ++ A) H) xs ds ∧ True by
    cases r with
    | tup h r => exact ⟨_, _, rfl, .inl (.inl (off_some h).2), r, trivial⟩)
  exact ⟨a, xs, rfl, hs, by rw [r2.length]; exact hn, h β T A σ H xs Qv en r2 k⟩
end
/-- a, b = e (e a tuple) -/
theorem dS_unpack {E : XK} {ex : Addr → D → Prop} {G : List Sl} {P : Po} {te : TE} {g : TG} (vs : List Nat) (h : dE E ex true te G fun d G' => dG g vs d G' P.nx) : dS E ex (tAsg te g) G P := fun β A σ H D en w k1 _ _ _ =>
  h β [] A σ H _ en w fun d v H1 G1 q en1 s1 r1 => q β [] A σ H1 v _ en1 r1 fun σ' G' q' en' _ => k1 A σ' H1 G' q' en'
/-! ### walks -/
/-- J walks the data ds, while what F tells stands -/
structure DW (F : Hp) (J : It) (ds : List D) : Prop where
  go : ∀ i H, i < ds.length → Same F H → J.go i H
  stop : ∀ H, Same F H → J.stop ds.length H
  yld : ∀ i H x H', i < ds.length → Same F H → J.yld i H x H' → ∃ d, ds[i]? = some d ∧ Same H H' ∧ ∀ Z : List Addr, (∀ b ∈ Z, H b ≠ none) → Same F (Off Z H) → Rp (Off Z H') x d
def dI (E : XK) (ex : Addr → D → Prop) (wi : TI) (G : List Sl) (Q : List D → List Sl → Prop) : Prop :=
  ∀ (β : Bs) (T A : List Addr) (σ : L2.St) (H : Hp) (R : It → Hp → Prop), Env β T A σ H G → Wish β E ex →
    (∀ ds J H' G', Q ds G' → Env β T A σ H' G' → Sm β H H' → DW (Off (T ++ A) H') J ds → R J H') → wi σ H R
section
variable {K : PySem.W.Frag} {E : XK} {ex : Addr → D → Prop} {f : Bool} {G : List Sl} {te ta tb tl : TE} {Q : D → List Sl → Prop} {QB : Bool → List Sl → Prop} {QA : List D → List Sl → Prop} {P : Po} {i : Nat} {d : D} {tt t1 t2 : TT} {ts tu : TS} {tr : TA} {wi : TI} {g : TG} {vs : List Nat}
/-- the signs of a text -/
def signs (x : Str) : List D := x.cps.toList.map fun c => .str ⟨#[c]⟩
theorem signs_length {x : Str} : (signs x).length = x.cps.size := by unfold signs; rw [List.length_map, Array.length_toList]
theorem dI_str (h : dE E ex false te G fun d G' => ∃ x, d = .str x ∧ QA (signs x) G') : dI E ex (iStr te) G QA := fun β T A σ H R en w k => by
  refine h β T A σ H _ en w fun d v H1 G1 ⟨x, e, q⟩ en1 s1 r1 => ?_
  subst e
  cases r1
  refine ⟨x, rfl, k (signs x) _ H1 G1 q en1 s1 ⟨fun i H hi _ => by rw [signs_length] at hi; exact hi, fun H _ => by rw [signs_length]; exact Nat.le_refl _, fun i H v H' hi _ y => ?_⟩⟩
  obtain ⟨rfl, c, hc, rfl⟩ := y
  refine ⟨.str ⟨#[c]⟩, ?_, Same.refl _, fun Z _ _ => .str _⟩
  unfold signs
  rw [List.getElem?_map, Array.getElem?_toList, hc]
  rfl
theorem dI_list (h : dE E ex true te G fun d G' => ∃ ds, d = .lst ds ∧ QA ds G') : dI E ex (iList K te) G QA := fun β T A σ H R en w k => by
  refine h β T A σ H _ en w fun d v H1 G1 ⟨ds, e, q⟩ en1 s1 r1 => ?_
  subst e
  cases r1 with
  | @lst a xs _ hh r =>
    have hF : (Off (T ++ A) H1) a = some (.lst xs) := hh
    have sq : ∀ {H}, Same (Off (T ++ A) H1) H → SqL K H a xs := fun g => .inl (.inl (g _ _ hF))
    have W := walk_list (K := K) (a := a) (xs := xs)
    refine ⟨a, rfl, ⟨xs, sq off_in⟩, k ds _ H1 G1 q en1 s1 ⟨fun i H hi g => W.goes i H (by rw [r.length]; exact hi) (sq g), fun H g => by rw [← r.length]; exact W.stops H (sq g), fun i H v H' hi g y => ?_⟩⟩
    obtain ⟨rfl, hx⟩ := W.yields i H v H' (by rw [r.length]; exact hi) (sq g) y
    obtain ⟨d, hd, rv⟩ := RpA.getV r hx
    exact ⟨d, hd, Same.refl _, fun Z _ gz => Rp.mono gz rv⟩
theorem dI_tup (h : dE E ex true te G fun d G' => ∃ ds, d = .tup ds ∧ QA ds G') : dI E ex (iTup K te) G QA := fun β T A σ H R en w k => by
  refine h β T A σ H _ en w fun d v H1 G1 ⟨ds, e, q⟩ en1 s1 r1 => ?_
  subst e
  cases r1 with
  | @tup a xs _ hh r =>
    have hF : (Off (T ++ A) H1) a = some (.tup xs) := hh
    have sq : ∀ {H}, Same (Off (T ++ A) H1) H → SqT K H a xs := fun g => .inl (.inl (g _ _ hF))
    have W := walk_tup (K := K) (a := a) (xs := xs)
    refine ⟨a, rfl, ⟨xs, sq off_in⟩, k ds _ H1 G1 q en1 s1 ⟨fun i H hi g => W.goes i H (by rw [r.length]; exact hi) (sq g), fun H g => by rw [← r.length]; exact W.stops H (sq g), fun i H v H' hi g y => ?_⟩⟩
    obtain ⟨rfl, hx⟩ := W.yields i H v H' (by rw [r.length]; exact hi) (sq g) y
    obtain ⟨d, hd, rv⟩ := RpA.getV r hx
    exact ⟨d, hd, Same.refl _, fun Z _ gz => Rp.mono gz rv⟩
/-- 0, 1, .. below n -/
def nats (lo : Int) (n : Nat) : List D := (List.range n).map fun i => .int (lo + (i : Nat))
theorem nats_length {lo : Int} {n : Nat} : (nats lo n).length = n := by unfold nats; rw [List.length_map, List.length_range]
theorem dw_rng {F : Hp} {lo : Int} {n : Nat} : DW F (Itr lo n) (nats lo n) :=
  ⟨fun i H hi _ => by rw [nats_length] at hi; exact hi, fun H _ => by rw [nats_length]; exact Nat.le_refl _, fun i H v H' hi _ y => by
    obtain ⟨rfl, rfl⟩ := y
    rw [nats_length] at hi
    refine ⟨.int (lo + (i : Nat)), ?_, Same.refl _, fun Z _ _ => .int _⟩
    unfold nats
    rw [List.getElem?_map, List.getElem?_range hi]
    rfl⟩
theorem dI_rng1 (h : dA E ex false tr G fun ds G' => ∃ n : Int, ds = [.int n] ∧ -(2 ^ 62) ≤ n ∧ n < 2 ^ 62 ∧ QA (nats 0 n.toNat) G') : dI E ex (iRng1 tr) G QA := fun β T A σ H R en w k => by
  refine h β T A σ H _ en w fun ds us H1 G1 ⟨n, e, l1, l2, q⟩ en1 s1 r1 => ?_
  subst e
  cases r1 with
  | cons r rn =>
    cases rn
    cases r
    exact ⟨n, rfl, l1, l2, k _ _ H1 G1 q en1 s1 dw_rng⟩
theorem dI_rng2 (h : dA E ex false tr G fun ds G' => ∃ m n : Int, ds = [.int m, .int n] ∧ (-(2 ^ 62) ≤ m ∧ m < 2 ^ 62 ∧ -(2 ^ 62) ≤ n ∧ n < 2 ^ 62) ∧ QA (nats m (n - m).toNat) G') : dI E ex (iRng2 tr) G QA := fun β T A σ H R en w k => by
  refine h β T A σ H _ en w fun ds us H1 G1 ⟨m, n, e, l1, q⟩ en1 s1 r1 => ?_
  subst e
  cases r1 with
  | cons r rn =>
    cases rn with
    | cons r' rn =>
      cases rn
      cases r
      cases r'
      exact ⟨m, n, rfl, l1, k _ _ H1 G1 q en1 s1 dw_rng⟩
/-- for -/
theorem dS_for (h : dI E ex wi G fun ds G1 => ∃ Iv : Nat → List Sl → Prop, Iv 0 G1 ∧ (∀ j d G', ds[j]? = some d → Iv j G' → dG g vs d G' fun G2 => dS E ex ts G2 { nx := Iv (j + 1), ct := Iv (j + 1), bk := P.nx, rt := P.rt }) ∧ ∀ G', Iv ds.length G' → P.nx G') : dS E ex (tFor wi g ts) G P := fun β A σ H Dn en w k1 k2 k3 k4 => by
  refine h β [] A σ H _ en w fun ds J H1 G1 ⟨Iv, i0, step, fin⟩ en1 s1 dw => ?_
  have hb : Same β.B (Off ([] ++ A) H1) := en1.base
  refine ⟨fun i m σ H => m = ds.length - i ∧ i ≤ ds.length ∧ ∃ A' G', Iv i G' ∧ Env { β with B := Off ([] ++ A) H1 } [] A' σ H G', ⟨ds.length, by simp, Nat.zero_le _, A, G1, i0, en1.tobase⟩, ?_⟩
  rintro i m σ2 H2 ⟨rfl, hi, A2, G2, inv, en2⟩
  have g2 : Same (Off ([] ++ A) H1) H2 := Same.trans en2.base off_in
  by_cases hlt : i < ds.length
  · refine .inr ⟨dw.go i H2 hlt g2, fun σ' H' => ∃ A' G', Iv (i + 1) G' ∧ Env { β with B := Off ([] ++ A) H1 } [] A' σ' H' G', fun σ' H' ⟨A', G', q, e'⟩ => ⟨ds.length - (i + 1), by omega, rfl, hlt, A', G', q, e'⟩, fun x H' y => ?_⟩
    obtain ⟨d, hd, sm, rp⟩ := dw.yld i H2 x H' hlt g2 y
    have en3 := en2.grow sm
    refine step i d G2 hd inv _ [] A2 σ2 H' x _ en3 (rp _ en2.live en2.base) fun σ4 G4 q4 en4 _ => ?_
    exact q4 _ A2 σ4 H' _ en4 (w.mono hb) (fun A' σ' H'' G' z e' => ⟨A', G', z, e'⟩) (fun A' σ' H'' G' z e' => k1 A' σ' H'' G' z (e'.rebase hb)) (fun A' σ' H'' G' z e' => ⟨A', G', z, e'⟩) fun d v A' σ' H'' G' z e' r => k4 d v A' σ' H'' G' z (e'.rebase hb) r
  · have e : i = ds.length := by omega
    subst e
    exact .inl ⟨dw.stop H2 g2, k1 A2 σ2 H2 G2 (fin G2 inv) (en2.rebase hb)⟩
/-- while -/
theorem dS_while {tc : TT} (Iv : Nat → List Sl → Prop) (m : Nat) (h0 : Iv m G) (step : ∀ m G', Iv m G' → dT E ex tc G' fun b G2 => (b = true → dS E ex ts G2 { nx := fun G3 => ∃ m', m' < m ∧ Iv m' G3, ct := fun G3 => ∃ m', m' < m ∧ Iv m' G3, bk := P.nx, rt := P.rt }) ∧ (b = false → P.nx G2)) : dS E ex (tWhile tc ts) G P := fun β A σ H Dn en w k1 k2 k3 k4 => by
  refine ⟨fun m σ H => ∃ A' G', Iv m G' ∧ Env β [] A' σ H G', ⟨m, A, G, h0, en⟩, ?_⟩
  rintro m σ2 H2 ⟨A2, G2, inv, en2⟩
  refine step m G2 inv β [] A2 σ2 H2 _ en2 w fun b H3 G3 ⟨q1, q2⟩ en3 s3 => ?_
  cases b with
  | true =>
    refine ⟨fun σ' H' => ∃ m', m' < m ∧ ∃ A' G', Iv m' G' ∧ Env β [] A' σ' H' G', fun σ' H' z => z, ?_⟩
    exact q1 rfl β A2 σ2 H3 _ en3 w (fun A' σ' H'' G' ⟨m', l, z⟩ e' => ⟨m', l, A', G', z, e'⟩) (fun A' σ' H'' G' z e' => k1 A' σ' H'' G' z e') (fun A' σ' H'' G' ⟨m', l, z⟩ e' => ⟨m', l, A', G', z, e'⟩) k4
  | false => exact k1 A2 σ2 H3 G3 (q2 rfl) en3
/-- a comprehension -/
theorem dL_lc (h : dI E ex wi G fun ds G1 => ∃ Iv : Nat → List D → List Sl → Prop, Iv 0 [] G1 ∧ (∀ j d acc G', ds[j]? = some d → Iv j acc G' → dG g vs d (wipeG G' vs) fun G2 => dT E ex tt G2 fun b G3 =>
      (b = true → dE E ex true te G3 fun y G4 => acc.length < 1000000 ∧ Iv (j + 1) (acc ++ [y]) (wipeG G4 vs)) ∧ (b = false → Iv (j + 1) acc (wipeG G3 vs))) ∧ ∀ acc G', Iv ds.length acc G' → QA acc G') : dL E ex (tLc wi g tt te vs) G QA := fun β T A σ H Qv en w k => by
  refine h β T A σ H _ en w fun ds J H1 G1 ⟨Iv, i0, step, fin⟩ en1 s1 dw p hp => ?_
  have hpA : p ∉ T ++ A := fun z => en1.live p z hp
  have hz : ∀ {o : HO} {Hx : Hp}, Same (Off β.Z H1) (Off β.Z Hx) → Same (Off β.Z H1) (Off β.Z (upd Hx p o)) := fun {o Hx} g b x z => by
    obtain ⟨z1, z2⟩ := off_some z
    obtain ⟨z3, z4⟩ := off_some (g b x z)
    exact off_of z1 (by rw [upd_ne (ne_of_none z2 hp)]; exact z4)
  refine ⟨fun i m H => m = ds.length - i ∧ i ≤ ds.length ∧ ∃ acc ds' G', Iv i ds' G' ∧ Env { β with B := Off (T ++ A) H1 } (p :: T) A σ H G' ∧ Sm β H1 H ∧ H p = some (.lst acc) ∧ RpA (Off ((p :: T) ++ A) H) acc ds',
    ⟨ds.length, by simp, Nat.zero_le _, [], [], G1, i0, ?_, hz (Same.refl _), upd_same, .nil⟩, ?_⟩
  · exact (en1.tobase.tmp (o := .lst []) hp)
  rintro i m H2 ⟨rfl, hi, acc, ds', G2, inv, en2, s2, hp2, r2⟩
  have g2 : Same (Off (T ++ A) H1) H2 := Same.trans en2.base off_in
  by_cases hlt : i < ds.length
  · refine .inr ⟨dw.go i H2 hlt g2, fun H' => ∃ acc ds' G', Iv (i + 1) ds' G' ∧ Env { β with B := Off (T ++ A) H1 } (p :: T) A σ H' G' ∧ Sm β H1 H' ∧ H' p = some (.lst acc) ∧ RpA (Off ((p :: T) ++ A) H') acc ds', fun H' z => ⟨ds.length - (i + 1), by omega, rfl, hlt, z⟩, fun x H' y => ?_⟩
    obtain ⟨d, hd, sm, rp⟩ := dw.yld i H2 x H' hlt g2 y
    have en3 := (en2.grow sm).wipe vs
    have s3 : Sm β H1 H' := s2.trans (off_same sm)
    have hw : L2.wipe (L2.wipe σ vs) vs = L2.wipe σ vs := by
      have : ∀ {ws us : List Nat}, (∀ w ∈ ws, w ∈ us) → L2.wipe (L2.wipe σ ws) us = L2.wipe σ us := fun {ws us} hs => by
        induction ws with
        | nil => rfl
        | cons a ws ih =>
          show L2.wipe ((L2.wipe σ ws).set a none) us = _
          rw [wipe_set (hs a List.mem_cons_self)]
          exact ih fun w hw => hs w (List.mem_cons_of_mem _ hw)
      exact this fun w h => h
    refine step i d ds' G2 hd inv _ (p :: T) A _ H' x _ en3 (rp _ en2.live en2.base) fun σ4 G4 q4 en4 w4 => ⟨?_, ?_⟩
    · exact w4.trans hw
    refine q4 _ (p :: T) A σ4 H' _ en4 (w.mono en1.base) fun b H5 G5 ⟨qt, qf⟩ en5 s5 => ?_
    have w5 : L2.wipe σ4 vs = L2.wipe σ vs := w4.trans hw
    cases b with
    | true =>
      refine qt rfl _ (p :: T) A σ4 H5 _ en5 (w.mono en1.base) fun yd yv H6 G6 ⟨hl, q6⟩ en6 s6 r6 => ?_
      have pZ : p ∉ β.Z := fun z => hpA (List.mem_append_right _ (en1.sub p (en1.zs p z)))
      have st : ∀ {Ha Hb : Hp} {o : HO}, Sm β Ha Hb → Ha p = some o → Hb p = some o := fun g z => (off_some (g p _ (off_of pZ z))).2
      have e6 : H6 p = some (.lst acc) := st s6 (st s5 (sm _ _ hp2))
      have rr : RpA (Off ((p :: T) ++ A) H6) acc ds' := r2.mono (((off_same sm).trans (en4.vw s5)).trans (en5.vw s6))
      have hl2 := rr.length
      refine ⟨acc, e6, by rw [hl2, sizeLine_eq]; omega, ?_⟩
      have r6' : Rp (Off ((p :: T) ++ A) H6) yv yd := r6
      have en7 := (en6.retmp (o := .lst (acc ++ [yv])) (en1.fresh0 hp))
      have eo : Off ((p :: T) ++ A) (upd H6 p (.lst (acc ++ [yv]))) = Off ((p :: T) ++ A) H6 := off_upd List.mem_cons_self
      refine ⟨acc ++ [yv], ds' ++ [yd], _, q6, en7.unwipe w5, hz ((s3.trans s5).trans s6), upd_same, ?_⟩
      rw [eo]
      exact rr.append (.one r6')
    | false =>
      have pZ : p ∉ β.Z := fun z => hpA (List.mem_append_right _ (en1.sub p (en1.zs p z)))
      have st : ∀ {Ha Hb : Hp} {o : HO}, Sm β Ha Hb → Ha p = some o → Hb p = some o := fun g z => (off_some (g p _ (off_of pZ z))).2
      exact ⟨acc, ds', _, qf rfl, en5.unwipe w5, s3.trans s5, st s5 (sm _ _ hp2), r2.mono ((off_same sm).trans (en4.vw s5))⟩
  · have e : i = ds.length := by omega
    subst e
    exact .inl ⟨dw.stop H2 g2, k ds' p acc H2 G2 (fin ds' G2 inv) hpA (en1.fresh0 hp) (en2.rebase en1.base) (s1.trans s2) hp2 r2⟩
end
end Kr
/-! Kr4: operators, built-ins, calls on data. -/
namespace Kr
open PySem L2
/-! ### data as the library tells it, == -/
mutual
def D.toP : D → PyData
  | .non => .none
  | .bl b => .bool b
  | .int i => .int i
  | .str x => .str x
  | .lst l => .list (D.toPs l)
  | .tup l => .tuple (D.toPs l)
  | .dic _ _ => .none
  | .ins _ _ _ => .none
  | .is _ _ => .none
  | .fz _ _ => .none
def D.toPs : List D → List PyData
  | [] => []
  | d :: l => D.toP d :: D.toPs l
end
mutual
/-- none, truth values, numbers, texts, lists and tuples of them -/
def D.plain : D → Bool
  | .non => true
  | .bl _ => true
  | .int _ => true
  | .str x => PyData.strOk x
  | .lst l => D.plains l
  | .tup l => D.plains l
  | .dic _ _ => false
  | .ins _ _ _ => false
  | .is _ _ => false
  | .fz _ _ => false
def D.plains : List D → Bool
  | [] => true
  | d :: l => D.plain d && D.plains l
end
mutual
def D.deep : D → Nat
  | .lst l => D.deeps l + 1
  | .tup l => D.deeps l + 1
  | _ => 0
def D.deeps : List D → Nat
  | [] => 0
  | d :: l => max (D.deep d) (D.deeps l)
end
mutual
theorem dp_of {K : PySem.W.Frag} {F H : Hp} (g : Same F H) : ∀ {v : V} {d : D}, Rp F v d → d.plain = true → Dp K H v d.toP
  | _, _, .non, _ => .non
  | _, _, .bl b, _ => .bl b
  | _, _, .int i, _ => .int i
  | _, _, .str x, _ => .str x
  | _, _, .lst h r, p => .lst (.inl (.inl (g _ _ h))) (dps_of g r p)
  | _, _, .tup h r, p => .tup (.inl (.inl (g _ _ h))) (dps_of g r p)
  | _, _, .dic _ _ _ _, p => Bool.noConfusion p
  | _, _, .ins _ _ _ _, p => Bool.noConfusion p
  | _, _, .is _, p => Bool.noConfusion p
  | _, _, .fz _, p => Bool.noConfusion p
theorem dps_of {K : PySem.W.Frag} {F H : Hp} (g : Same F H) : ∀ {vs : List V} {ds : List D}, RpA F vs ds → D.plains ds = true → DpAll K H vs (D.toPs ds)
  | _, _, .nil, _ => .nil
  | _, _, @RpA.cons _ v vs d ds h r, p => by
    have p' : (D.plain d && D.plains ds) = true := p
    rw [Bool.and_eq_true] at p'
    exact .cons (dp_of g h p'.1) (dps_of g r p'.2)
end
mutual
theorem lay_of : ∀ d : D, d.plain = true → PyData.canLay0 d.toP = true
  | .non, _ => by simp only [D.toP, PyData.canLay0]
  | .bl _, _ => by simp only [D.toP, PyData.canLay0]
  | .int _, _ => by simp only [D.toP, PyData.canLay0]
  | .str x, h => by
    simp only [D.toP, PyData.canLay0]
    exact h
  | .lst l, h => by
    simp only [D.toP, PyData.canLay0]
    exact lays_of l h
  | .tup l, h => by
    simp only [D.toP, PyData.canLay0]
    exact lays_of l h
  | .dic _ _, h => Bool.noConfusion h
  | .ins _ _ _, h => Bool.noConfusion h
  | .is _ _, h => Bool.noConfusion h
  | .fz _ _, h => Bool.noConfusion h
theorem lays_of : ∀ l : List D, D.plains l = true → PyData.canLayAll0 (D.toPs l) = true
  | [], _ => by simp only [D.toPs, PyData.canLayAll0]
  | d :: l, h => by
    have h' : (D.plain d && D.plains l) = true := h
    rw [Bool.and_eq_true] at h'
    simp only [D.toPs, PyData.canLayAll0]
    rw [lay_of d h'.1, lays_of l h'.2]
    rfl
end
mutual
theorem deep_of : ∀ d : D, PyData.depth d.toP = d.deep ∨ True
  | _ => .inr trivial
end
mutual
theorem depth_of : ∀ d : D, PyData.depth d.toP ≤ d.deep
  | .non => by simp only [D.toP, PyData.depth]; exact Nat.zero_le _
  | .bl _ => by simp only [D.toP, PyData.depth]; exact Nat.zero_le _
  | .int _ => by simp only [D.toP, PyData.depth]; exact Nat.zero_le _
  | .str x => by simp only [D.toP, PyData.depth]; exact Nat.zero_le _
  | .lst l => by
    simp only [D.toP, PyData.depth, D.deep]
    exact Nat.succ_le_succ (depths_of l)
  | .tup l => by
    simp only [D.toP, PyData.depth, D.deep]
    exact Nat.succ_le_succ (depths_of l)
  | .dic _ _ => by simp only [D.toP, PyData.depth]; exact Nat.zero_le _
  | .ins _ _ _ => by simp only [D.toP, PyData.depth]; exact Nat.zero_le _
  | .is _ _ => by simp only [D.toP, PyData.depth]; exact Nat.zero_le _
  | .fz _ _ => by simp only [D.toP, PyData.depth]; exact Nat.zero_le _
theorem depths_of : ∀ l : List D, PyData.depthAll (D.toPs l) ≤ D.deeps l
  | [] => by simp only [D.toPs, PyData.depthAll]; exact Nat.zero_le _
  | d :: l => by
    simp only [D.toPs, PyData.depthAll, D.deeps]
    have h1 := depth_of d
    have h2 := depths_of l
    omega
end
/-- may be compared -/
def D.ok (d : D) : Bool := d.plain && decide (d.deep ≤ 60)
def D.eq (d e : D) : Bool := PyData.eqv d.toP e.toP
theorem shaped_of {d : D} (h : d.ok = true) : SeqAt.shaped d.toP = true := by
  unfold D.ok at h
  rw [Bool.and_eq_true, decide_eq_true_eq] at h
  unfold SeqAt.shaped
  rw [Bool.and_eq_true, decide_eq_true_eq]
  exact ⟨lay_of d h.1, Nat.le_trans (depth_of d) (Nat.le_trans h.2 (by decide))⟩
theorem ok_plain {d : D} (h : d.ok = true) : d.plain = true := by
  unfold D.ok at h
  rw [Bool.and_eq_true] at h
  exact h.1
section
variable {X : Cx}
/-! ### operators of all kinds in one -/
def rEqA (K : PySem.W.Frag) : R2 := fun x y H Q => rEq x y H Q ∨ rEqD K x y H Q
def rNeA (K : PySem.W.Frag) : R2 := fun x y H Q => rNe x y H Q ∨ rNeD K x y H Q
theorem op_eqA (hu : X.A.units + 64 < cLine) : OpR X (compareOp .Eq) (rEqA X.K) := op_eq.or (op_eqD hu)
theorem op_neA (hu : X.A.units + 64 < cLine) : OpR X (compareOp .NotEq) (rNeA X.K) := op_ne.or (op_neD hu)
def rStrCat : R2 := fun x y H Q => ∃ i j, x = .str i ∧ y = .str j ∧ i.length + j.length ≤ sizeLine ∧ Q (.str (i ++ j)) H
def rAddA (K : PySem.W.Frag) : R2 := fun x y H Q => rI0 (fun i j => .int (i + j)) x y H Q ∨ (rStrCat x y H Q ∨ (rCat x y H Q ∨ rCatT K x y H Q))
theorem op_addA : OpR X (binaryOp .Add) (rAddA X.K) := op_add.or ((show OpR X (binaryOp .Add) rStrCat from op_add_str).or (op_cat.or op_catT))
def rSubA : R2 := rI0 fun i j => .int (i - j)
theorem op_subA : OpR X (binaryOp .Sub) rSubA := op_sub
/-- a text so many times -/
def rRepS : R2 := fun x y H Q => ∃ z k, x = .str z ∧ y = .int k ∧ 0 ≤ k ∧ k ≤ 1000 ∧ z.length ≤ 1000 ∧ Q (.str ⟨(List.replicate k.toNat z.cps).foldl (· ++ ·) #[]⟩) H
theorem rep_one (z : Array Nat) : (List.replicate 1 z).foldl (· ++ ·) #[] = z := by simp
theorem rep_nil (n : Nat) : (List.replicate n (#[] : Array Nat)).foldl (· ++ ·) #[] = #[] := by
  induction n with
  | zero => rfl
  | succ n ih => rw [List.replicate_succ, List.foldl_cons]; simpa using ih
theorem rep_eq (z : Array Nat) (n : Nat) : (List.replicate n z).foldl (· ++ ·) #[] = ((List.replicate n z.toList).flatten).toArray := by
  have key : ∀ (n : Nat) (acc : Array Nat), (List.replicate n z).foldl (· ++ ·) acc = acc ++ ((List.replicate n z.toList).flatten).toArray := by
    intro n
    induction n with
    | zero => intro acc; simp
    | succ n ih =>
      intro acc
      rw [List.replicate_succ, List.foldl_cons, ih, List.replicate_succ, List.flatten_cons]
      apply Array.ext'
      simp
  rw [key]
  simp
theorem rep_size (z : Array Nat) (n : Nat) : ((List.replicate n z).foldl (· ++ ·) #[]).size = n * z.size := by
  rw [rep_eq]
  simp [List.sum_replicate_nat]
theorem op_repS : OpR X (binaryOp .Mult) rRepS := by
  intro pins s σ H x y v u Q I rx ry h
  obtain ⟨z, k, rfl, rfl, h0, h1, h2, q⟩ := h
  obtain ⟨t, rfl⟩ := rx
  obtain ⟨t', rfl⟩ := ry
  refine PySem.P.mul_str ?_ (fun _ _ => ?_) (fun _ _ => ?_) ?_
  · have e1 : ¬ k < -(2 ^ 63 : Int) := by omega
    have e2 : ¬ k ≥ 2 ^ 63 := by omega
    rw [decide_eq_false e1, decide_eq_false e2]; rfl
  · have : (z.length : Int) * k ≤ 1000 * 1000 := Int.mul_le_mul (by omega) (by omega) h0 (by omega)
    intro hc
    rename_i hk _
    have hk' : 1 ≤ k := by omega
    have := Int.le_ediv_of_mul_le (show (0 : Int) < k by omega) (show (z.length : Int) * k ≤ 2 ^ 63 - 1 by omega)
    omega
  · have : z.length * k.toNat ≤ 1000 * 1000 := Nat.mul_le_mul h2 (by omega)
    show decide (_ > _) = false
    exact decide_eq_false (by rw [sizeLine_eq]; omega)
  · by_cases hk : k < 1
    · rw [if_pos hk]
      have e : k = 0 := by omega
      subst e
      exact ⟨by decide, .str Str.empty, H, I.tok _, ⟨_, rfl⟩, q⟩
    · rw [if_neg hk]
      by_cases hb : (k == 1 || z.length == 0) = true
      · rw [if_pos hb]
        refine ⟨.str z, H, I, ⟨_, rfl⟩, ?_⟩
        have e : (⟨(List.replicate k.toNat z.cps).foldl (· ++ ·) #[]⟩ : Str) = z := by
          rw [Bool.or_eq_true] at hb
          rcases hb with hb | hb
          · have e : k = 1 := by simpa using hb
            subst e
            rw [show (1 : Int).toNat = 1 from rfl, rep_one]
          · have e : z.cps = #[] := by
              have e' : z.cps.size = 0 := by simpa [Str.length] using hb
              exact Array.eq_empty_of_size_eq_zero e'
            rw [e, rep_nil]
            cases z
            simp at e
            rw [e]
        rw [e] at q
        exact q
      · rw [if_neg hb]
        refine ⟨?_, .str _, H, I.tok _, ⟨_, rfl⟩, q⟩
        have h5 : k.toNat * z.length ≤ 1000 * 1000 := Nat.mul_le_mul (by omega) h2
        have h6 := rep_size z.cps k.toNat
        show (Array.size _) ≤ sizeLine
        rw [h6, sizeLine_eq]
        exact Nat.le_trans h5 (by decide)
def rMulA : R2 := fun x y H Q => rI CMul (fun i j => .int (i * j)) x y H Q ∨ (rRep x y H Q ∨ rRepS x y H Q)
theorem op_mulA : OpR X (binaryOp .Mult) rMulA := op_mul.or (op_rep.or op_repS)
def CPowW (i j : Int) : Prop := 0 ≤ j ∧ (Builtin.Int.intBits i : Int) * j ≤ 2 ^ 27
def rPowA : R2 := rI CPowW fun i j => .int (i ^ j.toNat)
theorem op_powA : OpR X (binaryOp .Pow) rPowA := opI fun _ _ _ _ _ _ _ hc q => PyProof.Rows.pow_int hc.1 hc.2 q
def rModA : R2 := rI (fun _ j => 0 < j) fun i j => .int (i % j)
theorem op_modA : OpR X (binaryOp .Mod) rModA := op_mod
def rDivA : R2 := rI CDiv fun i j => .int (i / j)
theorem op_divA : OpR X (binaryOp .FloorDiv) rDivA := op_fdiv
def rLtA : R2 := rI0 fun i j => .bl (decide (i < j))
theorem op_ltA : OpR X (compareOp .Lt) rLtA := op_lt
def rGtA : R2 := rI0 fun i j => .bl (decide (j < i))
theorem op_gtA : OpR X (compareOp .Gt) rGtA := op_gt
def rLeA : R2 := fun x y H Q => rI0 (fun i j => .bl (decide (i ≤ j))) x y H Q ∨ (∃ i j, x = .str i ∧ y = .str j ∧ Q (.bl (!decide (j.cps.toList < i.cps.toList))) H)
theorem op_leA : OpR X (compareOp .LtE) rLeA := op_le.or op_le_str
def rGeA : R2 := rI0 fun i j => .bl (decide (j ≤ i))
theorem op_geA : OpR X (compareOp .GtE) rGeA := op_ge
/-- in: a sign in a text; flat things in a list or tuple; data in a list -/
def rInA (K : PySem.W.Frag) : R2 := fun x y H Q => (∃ (c : Nat) (z : Str), x = .str ⟨#[c]⟩ ∧ y = .str z ∧ Q (.bl (decide (c ∈ z.cps.toList))) H) ∨ (rIn K false x y H Q ∨ rInD K x y H Q)
def rNotInA (K : PySem.W.Frag) : R2 := fun x y H Q => (∃ (c : Nat) (z : Str), x = .str ⟨#[c]⟩ ∧ y = .str z ∧ Q (.bl (!decide (c ∈ z.cps.toList))) H) ∨ (rIn K true x y H Q ∨ rNotInD K x y H Q)
theorem op_inA (hu : X.A.units + 65 < cLine) : OpR X (compareOp .In) (rInA X.K) := op_in_sign.or (op_in_seq.or (op_inD hu))
theorem op_notInA (hu : X.A.units + 65 < cLine) : OpR X (compareOp .NotIn) (rNotInA X.K) := op_notIn_sign.or (op_notIn_seq.or (op_notInD hu))
def rIsA : R2 := fun x y H Q => y = .non ∧ Q (.bl (decide (x = .non))) H
def rIsNotA : R2 := fun x y H Q => y = .non ∧ Q (.bl (!decide (x = .non))) H
theorem op_isA : OpR X (compareOp .Is) rIsA := op_isN
theorem op_isNotA : OpR X (compareOp .IsNot) rIsNotA := op_notN
def rSlA (K : PySem.W.Frag) : V → Option Int → Option Int → Hp → VK → Prop := fun x lo hi H Q => rSlS x lo hi H Q ∨ (rSlL K x lo hi H Q ∨ rSlT K x lo hi H Q)
theorem sl_A : SlR X (rSlA X.K) := sl_str.or (sl_list.or sl_tup)
end
/-! ### what they give of data -/
theorem rp_sq {K : PySem.W.Frag} {H F : Hp} {v : V} {ds : List D} (e : Same F H) (r : Rp F v (.lst ds)) : ∃ a xs, v = V.ref a ∧ SqL K H a xs ∧ RpA F xs ds ∧ F a = some (.lst xs) := by
  cases r with
  | lst h r => exact ⟨_, _, rfl, .inl (.inl (e _ _ h)), r, h⟩
theorem rp_tq {K : PySem.W.Frag} {H F : Hp} {v : V} {ds : List D} (e : Same F H) (r : Rp F v (.tup ds)) : ∃ a xs, v = V.ref a ∧ SqT K H a xs ∧ RpA F xs ds ∧ F a = some (.tup xs) := by
  cases r with
  | tup h r => exact ⟨_, _, rfl, .inl (.inl (e _ _ h)), r, h⟩
section
variable {K : PySem.W.Frag} {a b : Int} {x y : Str} {d e : D}
theorem od_add : OpD (rAddA K) (.int a) (.int b) (.int (a + b)) := fun H F u v k g r1 r2 q => by
  cases r1; cases r2
  exact .inl ⟨a, b, rfl, rfl, q _ fun _ => .int _⟩
theorem od_cat (h : x.length + y.length ≤ sizeLine) : OpD (rAddA K) (.str x) (.str y) (.str (x ++ y)) := fun H F u v k g r1 r2 q => by
  cases r1; cases r2
  exact .inr (.inl ⟨x, y, rfl, rfl, h, q _ fun _ => .str _⟩)
theorem od_sub : OpD rSubA (.int a) (.int b) (.int (a - b)) := fun H F u v k g r1 r2 q => by
  cases r1; cases r2
  exact ⟨a, b, rfl, rfl, q _ fun _ => .int _⟩
theorem od_mul (h : CMul a b) : OpD rMulA (.int a) (.int b) (.int (a * b)) := fun H F u v k g r1 r2 q => by
  cases r1; cases r2
  exact .inl ⟨a, b, rfl, rfl, h, q _ fun _ => .int _⟩
theorem od_rep (h0 : 0 ≤ a) (h1 : a ≤ 1000) (h2 : x.length ≤ 1000) : OpD rMulA (.str x) (.int a) (.str ⟨((List.replicate a.toNat x.cps.toList).flatten).toArray⟩) := fun H F u v k g r1 r2 q => by
  cases r1; cases r2
  refine .inr (.inr ⟨x, a, rfl, rfl, h0, h1, h2, ?_⟩)
  rw [rep_eq]
  exact q _ fun _ => .str _
theorem od_pow (h : CPowW a b) : OpD rPowA (.int a) (.int b) (.int (a ^ b.toNat)) := fun H F u v k g r1 r2 q => by
  cases r1; cases r2
  exact ⟨a, b, rfl, rfl, h, q _ fun _ => .int _⟩
theorem od_mod (h : 0 < b) : OpD rModA (.int a) (.int b) (.int (a % b)) := fun H F u v k g r1 r2 q => by
  cases r1; cases r2
  exact ⟨a, b, rfl, rfl, h, q _ fun _ => .int _⟩
theorem od_div (h : 0 < b ∧ b < 1073741824) : OpD rDivA (.int a) (.int b) (.int (a / b)) := fun H F u v k g r1 r2 q => by
  cases r1; cases r2
  exact ⟨a, b, rfl, rfl, h, q _ fun _ => .int _⟩
theorem od_lt : OpD rLtA (.int a) (.int b) (.bl (decide (a < b))) := fun H F u v k g r1 r2 q => by
  cases r1; cases r2
  exact ⟨a, b, rfl, rfl, q _ fun _ => .bl _⟩
theorem od_gt : OpD rGtA (.int a) (.int b) (.bl (decide (b < a))) := fun H F u v k g r1 r2 q => by
  cases r1; cases r2
  exact ⟨a, b, rfl, rfl, q _ fun _ => .bl _⟩
theorem od_le : OpD rLeA (.int a) (.int b) (.bl (decide (a ≤ b))) := fun H F u v k g r1 r2 q => by
  cases r1; cases r2
  exact .inl ⟨a, b, rfl, rfl, q _ fun _ => .bl _⟩
theorem od_leS : OpD rLeA (.str x) (.str y) (.bl (!decide (y.cps.toList < x.cps.toList))) := fun H F u v k g r1 r2 q => by
  cases r1; cases r2
  exact .inr ⟨x, y, rfl, rfl, q _ fun _ => .bl _⟩
theorem od_ge : OpD rGeA (.int a) (.int b) (.bl (decide (b ≤ a))) := fun H F u v k g r1 r2 q => by
  cases r1; cases r2
  exact ⟨a, b, rfl, rfl, q _ fun _ => .bl _⟩
theorem od_eqS : OpD (rEqA K) (.str x) (.str y) (.bl (decide (x = y))) := fun H F u v k g r1 r2 q => by
  cases r1; cases r2
  refine .inl ⟨rfl, ?_⟩
  rw [show decide (V.str x = V.str y) = decide (x = y) by rw [dec_str]; rfl]
  exact q _ fun _ => .bl _
theorem od_eqI : OpD (rEqA K) (.int a) (.int b) (.bl (decide (a = b))) := fun H F u v k g r1 r2 q => by
  cases r1; cases r2
  refine .inl ⟨rfl, ?_⟩
  rw [show decide (V.int a = V.int b) = decide (a = b) by rw [dec_int]; rfl]
  exact q _ fun _ => .bl _
theorem od_neS : OpD (rNeA K) (.str x) (.str y) (.bl (!decide (x = y))) := fun H F u v k g r1 r2 q => by
  cases r1; cases r2
  refine .inl ⟨rfl, ?_⟩
  rw [show decide (V.str x = V.str y) = decide (x = y) by rw [dec_str]; rfl]
  exact q _ fun _ => .bl _
theorem od_neI : OpD (rNeA K) (.int a) (.int b) (.bl (!decide (a = b))) := fun H F u v k g r1 r2 q => by
  cases r1; cases r2
  refine .inl ⟨rfl, ?_⟩
  rw [show decide (V.int a = V.int b) = decide (a = b) by rw [dec_int]; rfl]
  exact q _ fun _ => .bl _
theorem od_eq (hd : d.ok = true) (he : e.ok = true) : OpD (rEqA K) d e (.bl (D.eq d e)) := fun H F u v k g r1 r2 q =>
  .inr ⟨d.toP, e.toP, dp_of g r1 (ok_plain hd), dp_of g r2 (ok_plain he), shaped_of hd, shaped_of he, q _ fun _ => .bl _⟩
theorem od_ne (hd : d.ok = true) (he : e.ok = true) : OpD (rNeA K) d e (.bl (!D.eq d e)) := fun H F u v k g r1 r2 q =>
  .inr ⟨d.toP, e.toP, dp_of g r1 (ok_plain hd), dp_of g r2 (ok_plain he), shaped_of hd, shaped_of he, q _ fun _ => .bl _⟩
def D.isNon : D → Bool
  | .non => true
  | _ => false
theorem isNon_v {F : Hp} {v : V} (r : Rp F v d) : decide (v = .non) = d.isNon := by cases r <;> rfl
theorem od_is : OpD rIsA d .non (.bl d.isNon) := fun H F u v k g r1 r2 q => by
  cases r2
  exact ⟨rfl, by rw [isNon_v r1]; exact q _ fun _ => .bl _⟩
theorem od_isNot : OpD rIsNotA d .non (.bl (!d.isNon)) := fun H F u v k g r1 r2 q => by
  cases r2
  exact ⟨rfl, by rw [isNon_v r1]; exact q _ fun _ => .bl _⟩
/-- flat data, and == of them -/
def D.flat : D → Bool
  | .non => true | .bl _ => true | .int _ => true | .str _ => true
  | _ => false
def D.feq : D → D → Bool
  | .non, .non => true
  | .bl a, .bl b => a == b
  | .bl a, .int b => (if a then 1 else 0) == b
  | .int a, .bl b => a == (if b then 1 else 0)
  | .int a, .int b => a == b
  | .str a, .str b => a == b
  | _, _ => false
theorem flat_v {F : Hp} {v : V} (r : Rp F v d) (h : d.flat = true) : flatV v = true := by cases r <;> first | rfl | cases h
theorem flats_v {F : Hp} : ∀ {vs : List V} {ds : List D}, RpA F vs ds → ds.all D.flat = true → vs.all flatV = true
  | _, _, .nil, _ => rfl
  | _, _, .cons h r, p => by
    rw [List.all_cons, Bool.and_eq_true] at p
    rw [List.all_cons, flat_v h p.1, flats_v r p.2]
    rfl
theorem feq_v {F : Hp} {u v : V} (r1 : Rp F u d) (r2 : Rp F v e) : eqV u v = D.feq d e := by cases r1 <;> cases r2 <;> rfl
theorem fin_v {F : Hp} {u : V} (r1 : Rp F u d) : ∀ {vs : List V} {ds : List D}, RpA F vs ds → inV u vs = ds.any fun z => D.feq z d
  | _, _, .nil => rfl
  | _, _, .cons h r => by
    have ih := fin_v r1 r
    unfold inV at ih ⊢
    rw [List.any_cons, List.any_cons, ih, feq_v h r1]
theorem od_in (h1 : d.flat = true) {ds : List D} (h2 : ds.all D.flat = true) : OpD (rInA K) d (.tup ds) (.bl (ds.any fun z => D.feq z d)) := fun H F u v k g r1 r2 q => by
  obtain ⟨p, xs, rfl, hs, r, _⟩ := rp_tq (K := K) g r2
  refine .inr (.inl ⟨p, xs, rfl, .inr hs, flat_v r1 h1, flats_v r h2, ?_⟩)
  show k (.bl (inV u xs)) H
  rw [fin_v r1 r]
  exact q _ fun _ => .bl _
theorem od_inL (h1 : d.flat = true) {ds : List D} (h2 : ds.all D.flat = true) : OpD (rInA K) d (.lst ds) (.bl (ds.any fun z => D.feq z d)) := fun H F u v k g r1 r2 q => by
  obtain ⟨p, xs, rfl, hs, r, _⟩ := rp_sq (K := K) g r2
  refine .inr (.inl ⟨p, xs, rfl, .inl hs, flat_v r1 h1, flats_v r h2, ?_⟩)
  show k (.bl (inV u xs)) H
  rw [fin_v r1 r]
  exact q _ fun _ => .bl _
theorem od_ninT (h1 : d.flat = true) {ds : List D} (h2 : ds.all D.flat = true) : OpD (rNotInA K) d (.tup ds) (.bl (!ds.any fun z => D.feq z d)) := fun H F u v k g r1 r2 q => by
  obtain ⟨p, xs, rfl, hs, r, _⟩ := rp_tq (K := K) g r2
  refine .inr (.inl ⟨p, xs, rfl, .inr hs, flat_v r1 h1, flats_v r h2, ?_⟩)
  show k (.bl (!inV u xs)) H
  rw [fin_v r1 r]
  exact q _ fun _ => .bl _
theorem od_inS {c : Nat} : OpD (rInA K) (.str ⟨#[c]⟩) (.str y) (.bl (decide (c ∈ y.cps.toList))) := fun H F u v k g r1 r2 q => by
  cases r1; cases r2
  exact .inl ⟨c, y, rfl, rfl, q _ fun _ => .bl _⟩
theorem od_ninS {c : Nat} : OpD (rNotInA K) (.str ⟨#[c]⟩) (.str y) (.bl (!decide (c ∈ y.cps.toList))) := fun H F u v k g r1 r2 q => by
  cases r1; cases r2
  exact .inl ⟨c, y, rfl, rfl, q _ fun _ => .bl _⟩
/-- data in a list -/
theorem od_inD (hd : d.ok = true) {ds : List D} (he : (D.lst ds).ok = true) : OpD (rInA K) d (.lst ds) (.bl (ds.any fun z => D.eq z d)) := fun H F u v k g r1 r2 q => by
  have e : ((D.toPs ds).any fun z => PyData.eqv z d.toP) = ds.any fun z => D.eq z d := by
    have key : ∀ l : List D, ((D.toPs l).any fun z => PyData.eqv z d.toP) = l.any fun z => D.eq z d := fun l => by
      induction l with
      | nil => rfl
      | cons a l ih => rw [D.toPs, List.any_cons, List.any_cons, ih]; rfl
    exact key ds
  refine .inr (.inr ⟨d.toP, D.toPs ds, dp_of g r1 (ok_plain hd), dp_of g r2 (ok_plain he), shaped_of hd, shaped_of he, ?_⟩)
  rw [e]
  exact q _ fun _ => .bl _
end
/-! ### items, slices, new lists -/
section
variable {K : PySem.W.Frag} {E : XK} {ex : Addr → D → Prop} {f : Bool} {G : List Sl} {te ta tb : TE} {tl th : TO} {Q : D → List Sl → Prop} {QA : List D → List Sl → Prop} {QO : Option Int → List Sl → Prop} {tr : TA} {i : Nat}
/-- the script's cells: a list that nobody alters -/
def ScrD (K : PySem.W.Frag) (d : D) (ns : List Int) : Prop := ∃ (q : Option (Obj × List V)) (a : Addr), d = .fz q a ∧ ((∃ o, q = some (o, ns.map V.int)) ∨ ∀ H : Hp, SqL K H a (ns.map V.int))
theorem scr_sq {K : PySem.W.Frag} {F H : Hp} {v : V} {d : D} {ns : List Int} (h : ScrD K d ns) (g : Same F H) (r : Rp F v d) : ∃ a, v = V.ref a ∧ SqL K H a (ns.map V.int) := by
  obtain ⟨q, a, rfl, h⟩ := h
  cases r with
  | fz hq =>
    refine ⟨a, rfl, ?_⟩
    rcases h with ⟨o, e⟩ | h
    · exact .inl (.inr ⟨o, g _ _ (hq _ _ e)⟩)
    · exact h H
/-- the item that a subscript tells, as the seq in the view tells it -/
def ItD (x : D) (n : Int) (z : D) : Prop := (∃ ds, x = .lst ds ∧ atI ds n = some z) ∨ (∃ ds, x = .tup ds ∧ atI ds n = some z) ∨ ∃ (s : Str) (c : Nat), x = .str s ∧ s.length ≤ sizeLine ∧ atI s.cps.toList n = some c ∧ z = .str ⟨#[c]⟩
theorem at_get {ds : List D} {xs : List V} {F : Hp} (r : RpA F xs ds) {n : Int} {z : D} (h : atI ds n = some z) : ∃ v, atI xs n = some v ∧ Rp F v z := by
  unfold atI at h ⊢
  rw [r.length]
  cases e : ixN ds.length n with
  | none => rw [e] at h; cases h
  | some j =>
    rw [e] at h
    exact r.get h
theorem dE_ix (h : dE E ex f ta G fun x G1 => dE E ex false tb G1 fun y G2 => ∃ n z, y = .int n ∧ ItD x n z ∧ Q z G2) : dE E ex f (tOp (rIx K) ta tb) G Q := fun β T A σ H Qv en w k => by
  refine h β T A σ H _ en w fun x u H1 G1 h1 en1 s1 r1 => ?_
  refine h1 β T A σ H1 _ en1 w fun y v H2 G2 ⟨n, z, ey, it, q⟩ en2 s2 r2 => ?_
  subst ey
  cases r2
  have r1 := r1.mono (en1.vwf s2)
  rcases it with ⟨ds, rfl, hz⟩ | ⟨ds, rfl, hz⟩ | ⟨s, c, rfl, hl, hc, rfl⟩
  · obtain ⟨p, xs, rfl, hs, r, _⟩ := rp_sq (K := K) vw_in r1
    obtain ⟨v, hv, rv⟩ := at_get r hz
    exact .inl ⟨p, xs, n, v, rfl, rfl, hs, hv, k z v H2 G2 q en2 (s1.trans s2) rv⟩
  · obtain ⟨p, xs, rfl, hs, r, _⟩ := rp_tq (K := K) vw_in r1
    obtain ⟨v, hv, rv⟩ := at_get r hz
    exact .inr (.inl ⟨p, xs, n, v, rfl, rfl, hs, hv, k z v H2 G2 q en2 (s1.trans s2) rv⟩)
  · cases r1
    exact .inr (.inr ⟨s, n, c, rfl, rfl, hl, hc, k _ _ H2 G2 q en2 (s1.trans s2) (.str _)⟩)
theorem dO_none (q : QO none G) : dO E ex tNoPart G QO := fun β T A σ H Qv en w k => k none H G q en (Same.refl _)
theorem dO_some (h : dE E ex false te G fun d G' => ∃ n, d = .int n ∧ QO (some n) G') : dO E ex (tPart te) G QO := fun β T A σ H Qv en w k => by
  refine h β T A σ H _ en w fun x u H1 G1 ⟨n, e, q⟩ en1 s1 r1 => ?_
  subst e
  cases r1
  exact ⟨n, rfl, k _ H1 G1 q en1 s1⟩
def cutD (ds : List D) (lo hi : Option Int) : List D := (ds.drop (HT.sIx ds.length 0 lo)).take (HT.sIx ds.length ds.length hi - HT.sIx ds.length 0 lo)
theorem cut_r {F : Hp} {xs : List V} {ds : List D} (r : RpA F xs ds) (lo hi : Option Int) : RpA F (cutV xs lo hi) (cutD ds lo hi) := by
  unfold cutV cutD
  rw [r.length]
  exact (r.drop _).take _
/-- a slice of a text -/
theorem dE_slS (h : dE E ex false te G fun x G1 => dO E ex tl G1 fun lo G2 => dO E ex th G2 fun hi G3 => ∃ s, x = .str s ∧ s.length ≤ sizeLine ∧ Q (.str (cutS s lo hi)) G3) : dE E ex f (tSl (rSlA K) te tl th) G Q := fun β T A σ H Qv en w k => by
  refine h β T A σ H _ en w fun x u H1 G1 h1 en1 s1 r1 => ?_
  refine h1 β T A σ H1 _ en1 w fun lo H2 G2 h2 en2 s2 => ?_
  refine h2 β T A σ H2 _ en2 w fun hi H3 G3 ⟨s, e, hl, q⟩ en3 s3 => ?_
  subst e
  cases r1
  exact .inl ⟨s, rfl, hl, k _ _ H3 G3 q en3 ((s1.trans s2).trans s3) (.str _)⟩
/-- a slice of a list: a new one -/
theorem dL_sl (h : dE E ex true te G fun x G1 => dO E ex tl G1 fun lo G2 => dO E ex th G2 fun hi G3 => ∃ ds, x = .lst ds ∧ QA (cutD ds lo hi) G3) : dL E ex (tSl (rSlA K) te tl th) G QA := fun β T A σ H Qv en w k => by
  refine h β T A σ H _ en w fun x u H1 G1 h1 en1 s1 r1 => ?_
  refine h1 β T A σ H1 _ en1 w fun lo H2 G2 h2 en2 s2 => ?_
  refine h2 β T A σ H2 _ en2 w fun hi H3 G3 ⟨ds, e, q⟩ en3 s3 => ?_
  subst e
  have r3 := r1.mono (en1.vwf (s2.trans s3))
  obtain ⟨p, xs, rfl, hs, r, _⟩ := rp_sq (K := K) vw_in r3
  refine .inr (.inl ⟨p, xs, rfl, hs, fun o ho => ?_⟩)
  have hpA : o ∉ T ++ A := fun z => en3.live o z ho
  exact k _ o _ _ G3 q hpA (en3.fresh0 ho) (en3.tmp ho) (((s1.trans s2).trans s3).trans (off_new ho)) upd_same ((cut_r r lo hi).mono (off_hid ho))
/-- a slice of the script: a new list -/
theorem dL_slScr (h : dE E ex true te G fun x G1 => dO E ex tl G1 fun lo G2 => dO E ex th G2 fun hi G3 => ∃ ns, ScrD K x ns ∧ QA (cutD (ns.map D.int) lo hi) G3) : dL E ex (tSl (rSlA K) te tl th) G QA := fun β T A σ H Qv en w k => by
  refine h β T A σ H _ en w fun x u H1 G1 h1 en1 s1 r1 => ?_
  refine h1 β T A σ H1 _ en1 w fun lo H2 G2 h2 en2 s2 => ?_
  refine h2 β T A σ H2 _ en2 w fun hi H3 G3 ⟨ns, e, q⟩ en3 s3 => ?_
  have r3 := r1.mono (en1.vwf (s2.trans s3))
  obtain ⟨p, rfl, hs⟩ := scr_sq (K := K) e vw_in r3
  refine .inr (.inl ⟨p, _, rfl, hs, fun o ho => ?_⟩)
  have hpA : o ∉ T ++ A := fun z => en3.live o z ho
  exact k _ o _ _ G3 q hpA (en3.fresh0 ho) (en3.tmp ho) (((s1.trans s2).trans s3).trans (off_new ho)) upd_same ((cut_r (RpA.ofInts (xs := ns)) lo hi))
/-- xs + ys -/
theorem dL_cat (h : dE E ex true ta G fun x G1 => dE E ex true tb G1 fun y G2 => ∃ ds es, x = .lst ds ∧ y = .lst es ∧ ds.length + es.length ≤ 1000000 ∧ QA (ds ++ es) G2) : dL E ex (tOp (rAddA K) ta tb) G QA := fun β T A σ H Qv en w k => by
  refine h β T A σ H _ en w fun x u H1 G1 h1 en1 s1 r1 => ?_
  refine h1 β T A σ H1 _ en1 w fun y v H2 G2 ⟨ds, es, e1, e2, hl, q⟩ en2 s2 r2 => ?_
  subst e1 e2
  have r3 := r1.mono (en1.vwf s2)
  cases r3 with
  | @lst a xs _ ha ra =>
    cases r2 with
    | @lst b ys _ hb rb =>
      refine .inr (.inr (.inl ⟨a, b, xs, ys, rfl, rfl, vw_in _ _ ha, vw_in _ _ hb, by rw [ra.length, rb.length, sizeLine_eq]; omega, fun o ho => ?_⟩))
      have hpA : o ∉ T ++ A := fun z => en2.live o z ho
      exact k _ o _ _ G2 q hpA (en2.fresh0 ho) (en2.tmp ho) ((s1.trans s2).trans (off_new ho)) upd_same ((ra.append rb).mono (off_hid ho))
/-- xs * n -/
theorem dL_rep (h : dE E ex true ta G fun x G1 => dE E ex false tb G1 fun y G2 => ∃ ds n, x = .lst ds ∧ y = .int n ∧ 0 ≤ n ∧ n ≤ 1000 ∧ ds.length ≤ 1000 ∧ QA (List.replicate n.toNat ds).flatten G2) : dL E ex (tOp rMulA ta tb) G QA := fun β T A σ H Qv en w k => by
  refine h β T A σ H _ en w fun x u H1 G1 h1 en1 s1 r1 => ?_
  refine h1 β T A σ H1 _ en1 w fun y v H2 G2 ⟨ds, n, e1, e2, h0, hn, hl, q⟩ en2 s2 r2 => ?_
  subst e1 e2
  have r3 := r1.mono (en1.vwf s2)
  cases r2
  cases r3 with
  | @lst a xs _ ha ra =>
    have hz : xs.length * n.toNat ≤ 1000 * 1000 := Nat.mul_le_mul (by rw [ra.length]; exact hl) (by omega)
    refine .inr (.inl ⟨a, n, xs, rfl, rfl, vw_in _ _ ha, by omega, by omega, by rw [sizeLine_eq]; omega, fun o ho => ?_⟩)
    have hpA : o ∉ T ++ A := fun z => en2.live o z ho
    have rr : ∀ m : Nat, RpA (Vw true β T A H2) (List.replicate m xs).flatten (List.replicate m ds).flatten := fun m => by
      induction m with
      | zero => exact .nil
      | succ m ih =>
        rw [List.replicate_succ, List.replicate_succ, List.flatten_cons, List.flatten_cons]
        exact ra.append ih
    exact k _ o _ _ G2 q hpA (en2.fresh0 ho) (en2.tmp ho) ((s1.trans s2).trans (off_new ho)) upd_same ((rr n.toNat).mono (off_hid ho))
end
end Kr
/-! Kr5: built-ins, purses, calls of defs. -/
namespace Kr
open PySem L2
/-! ### built-ins -/
section
variable {X : Cx} {K : PySem.W.Frag}
def rLenA (K : PySem.W.Frag) : List V → Hp → VK → Prop := fun xs H Q => ∃ x n, xs = [x] ∧ LenV K x H n ∧ Q (.int n) H
theorem call_lenA : CallR X (.builtin "len") (rLenA X.K) := call_len
def LenD : D → Nat → Prop
  | .str y, n => y.length ≤ sizeLine ∧ n = y.length
  | .lst l, n => n = l.length
  | .tup l, n => n = l.length
  | _, _ => False
theorem ca_len {d : D} {n : Nat} (h : LenD d n) : CaD (rLenA K) [d] (.int n) := fun H F us k g r q => by
  cases r with
  | cons r rn =>
    cases rn
    refine ⟨_, n, rfl, ?_, q _ fun _ => .int _⟩
    cases r with
    | str x => exact h
    | @lst a xs ds ha ra => exact .inl ⟨xs, .inl (.inl (g _ _ ha)), by rw [ra.length]; exact h⟩
    | @tup a xs ds ha ra => exact .inr ⟨xs, .inl (.inl (g _ _ ha)), by rw [ra.length]; exact h⟩
    | _ => exact h.elim
theorem ca_lenScr {d : D} {ns : List Int} (h : ScrD K d ns) : CaD (rLenA K) [d] (.int (ns.length : Nat)) := fun H F us k g r q => by
  cases r with
  | cons r rn =>
    cases rn
    obtain ⟨a, rfl, hs⟩ := scr_sq (K := K) h g r
    exact ⟨_, ns.length, rfl, .inl ⟨_, hs, by rw [List.length_map]⟩, q _ fun _ => .int _⟩
def rIntA : List V → Hp → VK → Prop := fun xs H Q => (∃ i, xs = [.int i] ∧ Q (.int i) H) ∨ ∃ k, xs = [.bl k] ∧ Q (.int (if k then 1 else 0)) H
theorem call_intA : CallR X (.type "int") rIntA := call_int1
theorem ca_int {i : Int} : CaD rIntA [.int i] (.int i) := fun H F us k g r q => by
  cases r with
  | cons r rn => cases rn; cases r; exact .inl ⟨i, rfl, q _ fun _ => .int _⟩
theorem ca_intB {b : Bool} : CaD rIntA [.bl b] (.int (if b then 1 else 0)) := fun H F us k g r q => by
  cases r with
  | cons r rn => cases rn; cases r; exact .inr ⟨b, rfl, q _ fun _ => .int _⟩
theorem ca_all {bs : List Bool} : CaD (rAll K) [.lst (bs.map D.bl)] (.bl (bs.all id)) := fun H F us k g r q => by
  cases r with
  | cons r rn =>
    cases rn
    obtain ⟨a, xs, rfl, hs, ra, _⟩ := rp_sq (K := K) g r
    exact ⟨a, bs, rfl, by rw [← RpA.bls ra]; exact hs, q _ fun _ => .bl _⟩
theorem ca_any {bs : List Bool} : CaD (rAny K) [.lst (bs.map D.bl)] (.bl (bs.any id)) := fun H F us k g r q => by
  cases r with
  | cons r rn =>
    cases rn
    obtain ⟨a, xs, rfl, hs, ra, _⟩ := rp_sq (K := K) g r
    exact ⟨a, bs, rfl, by rw [← RpA.bls ra]; exact hs, q _ fun _ => .bl _⟩
theorem ca_sum {ns : List Int} : CaD (rSum K) [.lst (ns.map D.int)] (.int ns.sum) := fun H F us k g r q => by
  cases r with
  | cons r rn =>
    cases rn
    obtain ⟨a, xs, rfl, hs, ra, _⟩ := rp_sq (K := K) g r
    exact ⟨a, ns, rfl, by rw [← RpA.ints ra]; exact hs, q _ fun _ => .int _⟩
def rMax2 : List V → Hp → VK → Prop := fun xs H Q => ∃ i j, xs = [.int i, .int j] ∧ Q (.int (if j > i then j else i)) H
theorem call_maxA (hc : X.calm = true) : CallR X (.builtin "max") rMax2 := call_max2 hc
theorem ca_max {i j : Int} : CaD rMax2 [.int i, .int j] (.int (if j > i then j else i)) := fun H F us k g r q => by
  cases r with
  | cons r rn =>
    cases rn with
    | cons r' rn => cases rn; cases r; cases r'; exact ⟨i, j, rfl, q _ fun _ => .int _⟩
def rMin2 : List V → Hp → VK → Prop := fun xs H Q => ∃ i j, xs = [.int i, .int j] ∧ Q (.int (if j < i then j else i)) H
theorem call_minA (hc : X.calm = true) : CallR X (.builtin "min") rMin2 := call_min2 hc
theorem ca_min {i j : Int} : CaD rMin2 [.int i, .int j] (.int (if j < i then j else i)) := fun H F us k g r q => by
  cases r with
  | cons r rn =>
    cases rn with
    | cons r' rn => cases rn; cases r; cases r'; exact ⟨i, j, rfl, q _ fun _ => .int _⟩
/-- list(t), t a text: its signs -/
def rListS (w : Unit) : List V → Hp → VK → Prop := fun xs H Q => ∃ z : Str, xs = [.str z] ∧ z.cps.size ≤ sizeLine ∧ ∀ l, H l = none → Q (.ref l) (upd H l (.lst (z.cps.toList.map fun c => V.str ⟨#[c]⟩)))
end
/-! ### isinstance -/
def D.ty : D → String
  | .non => "NoneType" | .bl _ => "bool" | .int _ => "int" | .str _ => "str" | .lst _ => "list" | .tup _ => "tuple" | .dic _ _ => "dict" | .ins _ _ _ => "" | .is _ _ => "" | .fz _ _ => ""
def D.noIns : D → Bool
  | .ins _ _ _ => false
  | .is _ _ => false
  | .fz _ _ => false
  | _ => true
def D.isa (T : String) (d : D) : Bool := d.ty == T || (d.ty == "bool" && T == "int")
theorem kit_d {K : PySem.W.Frag} {T : String} (hT : T = "str" ∨ T = "int" ∨ T = "bool" ∨ T = "list" ∨ T = "tuple" ∨ T = "dict") : ∀ d : D, d.noIns = true → PySem.W.kitOne K (.type d.ty) (.type T) = some (d.isa T)
  | .ins _ _ _, h => Bool.noConfusion h
  | .is _ _, h => Bool.noConfusion h
  | .fz _ _, h => Bool.noConfusion h
  | .non, _ => kit_ty (by rcases hT with rfl | rfl | rfl | rfl | rfl | rfl <;> (show kitB "NoneType" _ = some _; decide +kernel))
  | .bl b, _ => kit_ty (by rcases hT with rfl | rfl | rfl | rfl | rfl | rfl <;> (show kitB "bool" _ = some (D.isa _ (.bl true)); decide +kernel))
  | .int b, _ => kit_ty (by rcases hT with rfl | rfl | rfl | rfl | rfl | rfl <;> (show kitB "int" _ = some (D.isa _ (.int 0)); decide +kernel))
  | .str b, _ => kit_ty (by rcases hT with rfl | rfl | rfl | rfl | rfl | rfl <;> (show kitB "str" _ = some (D.isa _ (.str Str.empty)); decide +kernel))
  | .lst b, _ => kit_ty (by rcases hT with rfl | rfl | rfl | rfl | rfl | rfl <;> (show kitB "list" _ = some (D.isa _ (.lst [])); decide +kernel))
  | .tup b, _ => kit_ty (by rcases hT with rfl | rfl | rfl | rfl | rfl | rfl <;> (show kitB "tuple" _ = some (D.isa _ (.tup [])); decide +kernel))
  | .dic k b, _ => kit_ty (by rcases hT with rfl | rfl | rfl | rfl | rfl | rfl <;> (show kitB "dict" _ = some (D.isa _ (.dic [] [])); decide +kernel))
theorem tyx_d {K : PySem.W.Frag} {F H : Hp} (g : Same F H) {v : V} {d : D} (r : Rp F v d) (h : d.noIns = true) : TyX K H v (.type d.ty) := by
  cases r with
  | non => exact .base .non
  | bl b => exact .base (.bl b)
  | int i => exact .base (.int i)
  | str x => exact .base (.str x)
  | lst ha ra => exact .base (.lst (g _ _ ha))
  | tup ha ra => exact .base (.tup (g _ _ ha))
  | dic ha k l ra => exact .base (.dK (g _ _ ha))
  | ins ha k l ra => exact Bool.noConfusion h
  | is r => exact Bool.noConfusion h
  | fz r => exact Bool.noConfusion h
def D.isStr : D → Bool
  | .str _ => true
  | _ => false
theorem isa_str (d : D) : d.isa "str" = d.isStr := by cases d <;> simp [D.isa, D.ty, D.isStr]
def D.isInt : D → Bool
  | .int _ => true
  | .bl _ => true
  | _ => false
theorem isa_int (d : D) : d.isa "int" = d.isInt := by cases d <;> simp [D.isa, D.ty, D.isInt]
def D.isBool : D → Bool
  | .bl _ => true
  | _ => false
theorem isa_bool (d : D) : d.isa "bool" = d.isBool := by cases d <;> simp [D.isa, D.ty, D.isBool]
def D.isList : D → Bool
  | .lst _ => true
  | _ => false
theorem isa_list (d : D) : d.isa "list" = d.isList := by cases d <;> simp [D.isa, D.ty, D.isList]
def D.isTup : D → Bool
  | .tup _ => true
  | _ => false
theorem isa_tuple (d : D) : d.isa "tuple" = d.isTup := by cases d <;> simp [D.isa, D.ty, D.isTup]
def D.isDict : D → Bool
  | .dic _ _ => true
  | _ => false
theorem isa_dict (d : D) : d.isa "dict" = d.isDict := by cases d <;> simp [D.isa, D.ty, D.isDict]
section
variable {K : PySem.W.Frag} {E : XK} {ex : Addr → D → Prop} {f : Bool} {G : List Sl} {te ta tb : TE} {Q : D → List Sl → Prop} {QA : List D → List Sl → Prop} {tr : TA} {i : Nat} {T : String}
theorem dE_isi (hT : T = "str" ∨ T = "int" ∨ T = "bool" ∨ T = "list" ∨ T = "tuple" ∨ T = "dict") (h : dE E ex false te G fun d G1 => d.noIns = true ∧ Q (.bl (d.isa T)) G1) : dE E ex f (tCB (rIsi K) (tCons te (tCons (tC (.ty T)) tNil))) G Q := fun β T0 A σ H Qv en w k => by
  refine h β T0 A σ H _ en w fun d u H1 G1 ⟨hn, q⟩ en1 s1 r1 => ?_
  exact ⟨u, .ty T, .type d.ty, .type T, d.isa T, rfl, .ty T, tyx_d vw_in r1 hn, kit_d hT d hn, k _ _ H1 G1 q en1 s1 (.bl _)⟩
theorem dE_isStr (h : dE E ex false te G fun d G1 => d.noIns = true ∧ Q (.bl d.isStr) G1) : dE E ex f (tCB (rIsi K) (tCons te (tCons (tC (.ty "str")) tNil))) G Q := dE_isi (.inl rfl) (h.imp fun d G1 ⟨a, b⟩ => ⟨a, by rw [isa_str]; exact b⟩)
theorem dE_isInt (h : dE E ex false te G fun d G1 => d.noIns = true ∧ Q (.bl d.isInt) G1) : dE E ex f (tCB (rIsi K) (tCons te (tCons (tC (.ty "int")) tNil))) G Q := dE_isi (.inr (.inl rfl)) (h.imp fun d G1 ⟨a, b⟩ => ⟨a, by rw [isa_int]; exact b⟩)
theorem dE_isBool (h : dE E ex false te G fun d G1 => d.noIns = true ∧ Q (.bl d.isBool) G1) : dE E ex f (tCB (rIsi K) (tCons te (tCons (tC (.ty "bool")) tNil))) G Q := dE_isi (.inr (.inr (.inl rfl))) (h.imp fun d G1 ⟨a, b⟩ => ⟨a, by rw [isa_bool]; exact b⟩)
theorem dE_isList (h : dE E ex false te G fun d G1 => d.noIns = true ∧ Q (.bl d.isList) G1) : dE E ex f (tCB (rIsi K) (tCons te (tCons (tC (.ty "list")) tNil))) G Q := dE_isi (.inr (.inr (.inr (.inl rfl)))) (h.imp fun d G1 ⟨a, b⟩ => ⟨a, by rw [isa_list]; exact b⟩)
theorem dE_isTup (h : dE E ex false te G fun d G1 => d.noIns = true ∧ Q (.bl d.isTup) G1) : dE E ex f (tCB (rIsi K) (tCons te (tCons (tC (.ty "tuple")) tNil))) G Q := dE_isi (.inr (.inr (.inr (.inr (.inl rfl))))) (h.imp fun d G1 ⟨a, b⟩ => ⟨a, by rw [isa_tuple]; exact b⟩)
theorem dE_isDict (h : dE E ex false te G fun d G1 => d.noIns = true ∧ Q (.bl d.isDict) G1) : dE E ex f (tCB (rIsi K) (tCons te (tCons (tC (.ty "dict")) tNil))) G Q := dE_isi (.inr (.inr (.inr (.inr (.inr rfl))))) (h.imp fun d G1 ⟨a, b⟩ => ⟨a, by rw [isa_dict]; exact b⟩)
/-- list(x), tuple(x) of a list or a tuple -/
def rListOf (K : PySem.W.Frag) : List V → Hp → VK → Prop := fun xs H Q => ∃ p ys, xs = [.ref p] ∧ (SqL K H p ys ∨ SqT K H p ys) ∧ ∀ l, H l = none → Q (.ref l) (upd H l (.lst ys))
def rListSt : List V → Hp → VK → Prop := fun xs H Q => ∃ z : Str, xs = [.str z] ∧ z.cps.size ≤ sizeLine ∧ ∀ l, H l = none → Q (.ref l) (upd H l (.lst (z.cps.toList.map fun c => V.str ⟨#[c]⟩)))
def rListA (K : PySem.W.Frag) : List V → Hp → VK → Prop := fun xs H Q => rListOf K xs H Q ∨ (rListSt xs H Q ∨ rListD xs H Q)
theorem vals_of {acc : Array Value} {z : Str} (h : ItemsOf (SignAt z) acc z.cps.size) : Vals (z.cps.toList.map fun c => V.str ⟨#[c]⟩) acc.toList := by
  have hl : acc.toList.length = (z.cps.toList.map fun c => V.str ⟨#[c]⟩).length := by
    rw [List.length_map, Array.length_toList, Array.length_toList]
    exact h.1
  have key : ∀ (xs : List V) (us : List Value), us.length = xs.length → (∀ (j : Nat) (v : Value), us[j]? = some v → ∃ x, xs[j]? = some x ∧ RelV x v) → Vals xs us := by
    intro xs
    induction xs with
    | nil =>
      intro us hl _
      cases us with
      | nil => exact .nil
      | cons u us => simp at hl
    | cons x xs ih =>
      intro us hl hr
      cases us with
      | nil => simp at hl
      | cons u us =>
        obtain ⟨x', e, r⟩ := hr 0 u rfl
        have e := Option.some.inj e
        subst e
        exact .cons r (ih us (by simpa using hl) fun j v hj => hr (j + 1) v hj)
  refine key _ _ hl fun j v hj => ?_
  obtain ⟨c, u, hc, rfl⟩ := h.2 j v (by simpa using hj)
  refine ⟨.str ⟨#[c]⟩, ?_, u, rfl⟩
  rw [List.getElem?_map, Array.getElem?_toList, hc]
  rfl
theorem call_listSt {X : Cx} (hc : X.calm = true) : CallR X (.type "list") rListSt := by
  intro pins s σ H xs us Q I r h
  obtain ⟨z, rfl, hz, q⟩ := h
  obtain ⟨u, rfl, t, rfl⟩ := vals1 r
  refine PySem.call_list_str (hn := hz) (I.ok.hd hc) z t fun h' tk acc' c' hk hS hacc => ?_
  have hf : H s.heap.objs.size = none := I.hok.fresh (Nat.le_refl _)
  have v := vals_of hacc
  refine ⟨.ref _, _, I.laid (t' := tk) (a := s.heap.objs.size) (o := .lst (z.cps.toList.map fun c => V.str ⟨#[c]⟩)) hk (Nat.le_refl _) ⟨?_, acc'.toList, c', v, hS⟩, rfl, q _ hf⟩
  rw [List.length_map, Array.length_toList]
  exact hz
theorem call_listA {X : Cx} (hc : X.calm = true) : CallR X (.type "list") (rListA X.K) := (show CallR X (.type "list") (rListOf X.K) from call_list_of).or ((call_listSt hc).or (call_list_dK hc))
theorem dL_list (h : dA E ex true tr G fun xs G1 => ∃ ds, (xs = [.lst ds] ∨ xs = [.tup ds]) ∧ QA ds G1) : dL E ex (tCB (rListA K) tr) G QA := fun β T A σ H Qv en w k => by
  refine h β T A σ H _ en w fun x u H1 G1 ⟨ds, e, q⟩ en1 s1 r1 => ?_
  obtain ⟨p, xs, rfl, hs, r⟩ : ∃ p xs, u = [V.ref p] ∧ (SqL K H1 p xs ∨ SqT K H1 p xs) ∧ RpA (Off (T ++ A) H1) xs ds := by
    rcases e with rfl | rfl
    · cases r1 with
      | cons r rn =>
        cases rn
        obtain ⟨p, xs, rfl, hs, r, _⟩ := rp_sq (K := K) vw_in r
        exact ⟨p, xs, rfl, .inl hs, r⟩
    · cases r1 with
      | cons r rn =>
        cases rn
        obtain ⟨p, xs, rfl, hs, r, _⟩ := rp_tq (K := K) vw_in r
        exact ⟨p, xs, rfl, .inr hs, r⟩
  refine .inl ⟨p, xs, rfl, hs, fun o ho => ?_⟩
  have hpA : o ∉ T ++ A := fun z => en1.live o z ho
  exact k _ o _ _ G1 q hpA (en1.fresh0 ho) (en1.tmp ho) (s1.trans (off_new ho)) upd_same (r.mono (off_hid ho))
theorem dL_listS (h : dA E ex true tr G fun xs G1 => ∃ z, xs = [.str z] ∧ z.cps.size ≤ sizeLine ∧ QA (signs z) G1) : dL E ex (tCB (rListA K) tr) G QA := fun β T A σ H Qv en w k => by
  refine h β T A σ H _ en w fun x u H1 G1 ⟨z, e, hz, q⟩ en1 s1 r1 => ?_
  subst e
  cases r1 with
  | cons r rn =>
    cases rn
    cases r
    refine .inr (.inl ⟨z, rfl, hz, fun o ho => ?_⟩)
    have hpA : o ∉ T ++ A := fun z => en1.live o z ho
    have rr : ∀ {F : Hp} (l : List Nat), RpA F (l.map fun c => V.str ⟨#[c]⟩) (l.map fun c => D.str ⟨#[c]⟩) := fun l => by
      induction l with
      | nil => exact .nil
      | cons c l ih => exact .cons (.str _) ih
    exact k _ o _ _ G1 q hpA (en1.fresh0 ho) (en1.tmp ho) (s1.trans (off_new ho)) upd_same (rr _)
/-- a key as data -/
def kD : Key → D
  | .inl i => .int i
  | .inr x => .str x
/-- list(d), d a dict: its keys -/
theorem dL_listK (h : dA E ex true tr G fun xs G1 => ∃ ks ds, xs = [.dic ks ds] ∧ QA (ks.map kD) G1) : dL E ex (tCB (rListA K) tr) G QA := fun β T A σ H Qv en w k => by
  refine h β T A σ H _ en w fun x u H1 G1 ⟨ks, ds, e, q⟩ en1 s1 r1 => ?_
  subst e
  cases r1 with
  | cons r rn =>
    cases rn
    cases r with
    | dic ha hk hl ra =>
      rename_i a kvs vs
      refine .inr (.inr ⟨a, kvs, rfl, vw_in _ _ ha, fun o ho => ?_⟩)
      have hpA : o ∉ T ++ A := fun z => en1.live o z ho
      have rr : ∀ {F : Hp} (l : List Key) (vs : List V), l.length = vs.length → RpA F ((l.zip vs).map fun kv => kV kv.1) (l.map kD) := fun {F} l => by
        induction l with
        | nil => exact fun _ _ => .nil
        | cons c l ih =>
          intro vs hv
          cases vs with
          | nil => cases hv
          | cons v vs =>
            refine .cons ?_ (ih vs (by simpa using hv))
            cases c with
            | inl i => exact .int _
            | inr i => exact .str _
      exact k _ o _ _ G1 q hpA (en1.fresh0 ho) (en1.tmp ho) (s1.trans (off_new ho)) upd_same (by rw [hk]; exact rr ks vs hl)
/-- sep.join(xs) -/
def rJoinA (K : PySem.W.Frag) : V → List V → Hp → VK → Prop := fun x xs H Q => ∃ a p, ∃ ys : List Str, x = .str a ∧ xs = [.ref p] ∧ (SqL K H p (ys.map V.str) ∨ SqT K H p (ys.map V.str)) ∧
      (ys.map (·.length)).sum + ys.length * a.length ≤ 16777216 ∧ Q (.str (Txt.join a ys)) H
theorem dE_join (h : dE E ex false ta G fun x G1 => ∃ a, x = .str a ∧ dE E ex false tb G1 fun y G2 => ∃ ys, y = .lst (ys.map D.str) ∧ (ys.map (·.length)).sum + ys.length * a.length ≤ 16777216 ∧ Q (.str (Txt.join a ys)) G2) : dE E ex f (tM1 (rJoinA K) ta tb) G Q := fun β T A σ H Qv en w k => by
  refine h β T A σ H _ en w fun x u H1 G1 ⟨a, e, h1⟩ en1 s1 r1 => ?_
  subst e
  cases r1
  refine ⟨⟨a, rfl⟩, ?_⟩
  refine h1 β T A σ H1 _ en1 w fun y v H2 G2 ⟨ys, e2, hl, q⟩ en2 s2 r2 => ?_
  subst e2
  obtain ⟨p, xs, rfl, hs, r, _⟩ := rp_sq (K := K) vw_in r2
  rw [RpA.strs r] at hs
  exact ⟨a, p, ys, rfl, rfl, .inl hs, hl, k _ _ H2 G2 q en2 (s1.trans s2) (.str _)⟩
/-- n.bit_length() -/
theorem dE_bits (h : dE E ex false te G fun x G1 => ∃ n, x = .int n ∧ Q (.int (Builtin.Int.intBits n : Nat)) G1) : dE E ex f (tBits te) G Q := fun β T A σ H Qv en w k => by
  refine h β T A σ H _ en w fun x u H1 G1 ⟨n, e, q⟩ en1 s1 r1 => ?_
  subst e
  cases r1
  exact ⟨n, rfl, k _ _ H1 G1 q en1 s1 (.int _)⟩
end
/-! ### defs on data -/
/-- a def on data -/
def spD (pre : List D → Prop) (R : List D → D → Prop) : Sp := fun vs H Q _ => ∃ (Z : List Addr) (ds : List D), (∀ a ∈ Z, H a ≠ none) ∧ RpA (Off Z H) vs ds ∧ pre ds ∧ ∀ v d H', R ds d → Same H H' → Rp (Off Z H') v d → Q v H'
/-- a def whose first argument is a purse -/
def spP (pre : List D → Prop) (R : List D → D → Prop) (m : Nat) : Sp := fun vs H Q _ => ∃ (p : Addr) (us : List V) (Z : List Addr) (ds : List D) (n : Nat), vs = .ref p :: us ∧ p ∈ Z ∧ (∀ a ∈ Z, H a ≠ none) ∧ Pur H p n ∧ n + m ≤ 1000000000 ∧ RpA (Off Z H) us ds ∧ pre ds ∧
  ∀ v d H', R ds d → (∀ b x, b ≠ p → H b = some x → H' b = some x) → Pur H' p (n + m) → Rp (Off Z H') v d → Q v H'
def Po.of (R : D → Prop) : Po := { nx := fun _ => R .non, bk := fun _ => False, ct := fun _ => False, rt := fun d _ => R d }
/-- the slots at the entry -/
def slots (N : List Str) (ds : List D) : List Sl := ds.map Sl.imm ++ List.replicate (N.length - ds.length) .any
theorem slots_ok {β : Bs} {T A : List Addr} {H : Hp} : ∀ {vs : List V} {ds : List D}, RpA (Off (T ++ A) H) vs ds → ∀ (m i : Nat) (s : Sl), (ds.map Sl.imm ++ List.replicate m .any)[i]? = some s →
    ∃ o, (vs.map some ++ List.replicate m none)[i]? = some o ∧ SlOk β T A H o s ∧ s.isOwn = false
  | _, _, .nil, m, i, s, h => by
    have h' : (List.replicate m Sl.any)[i]? = some s := h
    rw [List.getElem?_replicate] at h'
    split at h'
    · rename_i hi
      cases h'
      exact ⟨none, by show (List.replicate m none)[i]? = _; rw [List.getElem?_replicate, if_pos hi], trivial, rfl⟩
    · cases h'
  | _, _, .cons r rs, m, 0, s, h => by
    have h' := Option.some.inj h
    subst h'
    exact ⟨_, rfl, ⟨_, rfl, r⟩, rfl⟩
  | _, _, .cons r rs, m, i + 1, s, h => slots_ok rs m i s h
section
variable {P : Program} {w : World} {K : PySem.W.Frag} {mg : Str → Option Value} {base : Heap}
/-- at a def's entry -/
theorem entry {N : List Str} {vs : List V} {ds : List D} {H : Hp} {Z A0 : List Addr} (hz : ∀ a ∈ Z, a ∈ A0) (live : ∀ a ∈ A0, H a ≠ none) (r : RpA (Off A0 H) vs ds) : Env ⟨Z, A0, Off A0 H, H⟩ [] A0 (L2.start N vs) H (slots N ds) := by
  have hl := r.length
  have key := slots_ok (β := ⟨Z, A0, Off A0 H, H⟩) (T := []) (A := A0) (H := H) (show RpA (Off ([] ++ A0) H) vs ds from r) (N.length - ds.length)
  refine ⟨?_, fun i s h => ?_, fun i j s s' a h1 h2 o1 o2 _ _ => ?_, Same.refl _, fun a h => h, hz, fun a h => live a h, fun a _ z => (by cases z), Same.refl _⟩
  · unfold L2.start slots
    rw [List.length_append, List.length_append, List.length_map, List.length_map, List.length_replicate, List.length_replicate, hl]
  · obtain ⟨o, h1, h2, _⟩ := key i s h
    exact ⟨o, by unfold L2.start; rw [hl]; exact h1, h2⟩
  · obtain ⟨_, _, _, e⟩ := key i s h1
    rw [e] at o1
    cases o1
theorem fnD {x qual : Str} {st : Stmt} {f : Addr} {fd : FuncData} {N ps : List Str} {k : Nat} {pre : List D → Prop} {R : List D → D → Prop} (F : Fun K x qual st f fd) (S : FnScope N ps (defScope st)) (len : ∀ ds, pre ds → ds.length = ps.length)
    (hbody : ∀ (cdv : Value) (A : Around) (outer : List PySem.Env) (s : Shared) (H : Hp) (E : XK), Room k (A.deeper (PyProof.Rows.envOfC qual (defScope st) s.heap.objs.size f cdv)) →
      ∃ t, PSs (cxOf CX0 P w K mg base N qual (defScope st) f cdv A outer s H E).nox (defBody st) t ∧ ∀ ds, pre ds → dS E0 (fun _ _ => False) t (slots N ds) (Po.of (R ds))) : FnOk P w K mg base CX0 (k + 1) f fd ps (spD pre R) := by
  refine F.ok S (fun vs H Q E h => ?_) (fun cdv A outer s H vs Q E hr h => ?_)
  · obtain ⟨Z, ds, _, r, hp, _⟩ := h
    rw [r.length]
    exact len ds hp
  · obtain ⟨Z, ds, live, r, hp, q⟩ := h
    obtain ⟨t, ht, hd⟩ := hbody cdv A outer s H E hr
    refine ⟨t, ht, ?_⟩
    have en := entry (N := N) (Z := []) (A0 := Z) (fun a h => by cases h) live r
    have fin : ∀ {A' : List Addr} {σ' : L2.St} {H' : Hp} {G' : List Sl}, Env ⟨[], Z, Off Z H, H⟩ [] A' σ' H' G' → Same H H' := fun {A' σ' H' G'} e => by
      have a := e.all
      rw [off_nil, off_nil] at a
      exact a
    exact hd ds hp ⟨[], Z, Off Z H, H⟩ Z _ H _ en (fun _ _ _ _ _ z => z.elim) (fun A' σ' H' G' z e => q _ .non H' z (fin e) .non) (fun _ _ _ _ z _ => z.elim) (fun _ _ _ _ z _ => z.elim) fun d v A' σ' H' G' z e r => q v d H' z (fin e) r
/-- a def with a purse in slot 0 -/
theorem fnP {x qual : Str} {st : Stmt} {f : Addr} {fd : FuncData} {N ps : List Str} {k m : Nat} {pre : List D → Prop} {R : List D → D → Prop} (F : Fun K x qual st f fd) (S : FnScope N ps (defScope st)) (len : ∀ ds, pre ds → ds.length + 1 = ps.length)
    (hbody : ∀ (cdv : Value) (A : Around) (outer : List PySem.Env) (s : Shared) (H : Hp) (E : XK), Room k (A.deeper (PyProof.Rows.envOfC qual (defScope st) s.heap.objs.size f cdv)) →
      ∃ t, PSs (cxOf CX0 P w K mg base N qual (defScope st) f cdv A outer s H E).nox (defBody st) t ∧ ∀ ds p n, pre ds → n + m ≤ 1000000000 → dS E0 (fun _ _ => False) t (.pur p n :: slots N.tail ds)
        { nx := fun G => R ds .non ∧ ∃ n', n' ≤ n + m ∧ G[0]? = some (.pur p n'), bk := fun _ => False, ct := fun _ => False, rt := fun d G => R ds d ∧ ∃ n', n' ≤ n + m ∧ G[0]? = some (.pur p n') }) : FnOk P w K mg base CX0 (k + 1) f fd ps (spP pre R m) := by
  refine F.ok S (fun vs H Q E h => ?_) (fun cdv A outer s H vs Q E hr h => ?_)
  · obtain ⟨p, us, Z, ds, n, rfl, _, _, _, _, r, hp, _⟩ := h
    rw [List.length_cons, r.length]
    exact len ds hp
  · obtain ⟨p, us, Z, ds, n, rfl, hpZ, live, pu, hn, r, hp, q⟩ := h
    obtain ⟨t, ht, hd⟩ := hbody cdv A outer s H E hr
    refine ⟨t, ht, ?_⟩
    have e0 := entry (N := N.tail) (Z := [p]) (A0 := Z) (fun a h => by rw [List.mem_singleton.mp h]; exact hpZ) live r
    have hN : L2.start N (.ref p :: us) = some (V.ref p) :: L2.start N.tail us := by
      unfold L2.start
      rw [List.map_cons, List.cons_append, List.length_cons, List.length_tail]
      congr 3
      omega
    have en : Env ⟨[p], Z, Off Z H, H⟩ [] Z (L2.start N (.ref p :: us)) H (.pur p n :: slots N.tail ds) := by
      rw [hN]
      refine ⟨by rw [List.length_cons, List.length_cons, e0.len], fun i s h => ?_, fun i j s s' a h1 h2 o1 o2 g1 g2 => ?_, e0.base, e0.sub, e0.zs, e0.live, e0.dj, e0.all⟩
      · cases i with
        | zero =>
          have h' := Option.some.inj h
          subst h'
          exact ⟨_, rfl, rfl, List.mem_singleton.mpr rfl, pu⟩
        | succ i => exact e0.ok i s h
      · have no : ∀ {i : Nat} {s : Sl}, (slots N.tail ds)[i]? = some s → s.isOwn = true → False := fun {i s} h o => by
          obtain ⟨_, _, _, e⟩ := slots_ok (β := ⟨[p], Z, Off Z H, H⟩) (T := []) (A := Z) (H := H) (show RpA (Off ([] ++ Z) H) us ds from r) (N.tail.length - ds.length) i s h
          rw [e] at o
          cases o
        cases i with
        | zero =>
          cases j with
          | zero => rfl
          | succ j => exact (no h2 o2).elim
        | succ i => exact (no h1 o1).elim
    have fin : ∀ {A' : List Addr} {σ' : L2.St} {H' : Hp} {G' : List Sl} {n' : Nat}, Env ⟨[p], Z, Off Z H, H⟩ [] A' σ' H' G' → n' ≤ n + m → G'[0]? = some (.pur p n') → (∀ b x, b ≠ p → H b = some x → H' b = some x) ∧ Pur H' p (n + m) := fun {A' σ' H' G' n'} e hn' hg => by
      refine ⟨fun b x hb hx => (off_some (e.all b x (off_of (fun z => hb (List.mem_singleton.mp z)) hx))).2, ?_⟩
      obtain ⟨o, _, _, _, x, y, z, t, h1, h2, h3, h4, h5, h6, h7, h8⟩ := e.ok 0 _ hg
      exact ⟨x, y, z, t, h1, h2, h3, h4, h5, h6, by omega, h8⟩
    exact hd ds p n hp hn ⟨[p], Z, Off Z H, H⟩ Z _ H _ en (fun _ _ _ _ _ z => z.elim) (fun A' σ' H' G' ⟨z, n', l, g⟩ e => q _ .non H' z (fin e l g).1 (fin e l g).2 .non) (fun _ _ _ _ z _ => z.elim) (fun _ _ _ _ z _ => z.elim)
      fun d v A' σ' H' G' ⟨z, n', l, g⟩ e r => q v d H' z (fin e l g).1 (fin e l g).2 r
end
section
variable {E E' : XK} {ex : Addr → D → Prop} {f : Bool} {G : List Sl} {te ta tb : TE} {Q : D → List Sl → Prop} {tr : TA} {i m : Nat} {pre : List D → Prop} {R : List D → D → Prop}
theorem dE_call (h : dA E ex f tr G fun ds G1 => pre ds ∧ ∀ d, R ds d → Q d G1) : dE E ex f (tCall (spD pre R) [] E' tr) G Q := fun β T A σ H Qv en w k => by
  refine h β T A σ H _ en w fun ds us H1 G1 ⟨hp, q⟩ en1 s1 r1 => ?_
  rw [List.append_nil]
  cases f with
  | true => exact ⟨T ++ A, ds, en1.live, r1, hp, fun v d H2 hR g r => k d v H2 G1 (q d hR) (en1.grow g) (s1.trans (off_same g)) r⟩
  | false => exact ⟨β.A0, ds, fun a ha => en1.live a (en1.a0A a ha), r1, hp, fun v d H2 hR g r => k d v H2 G1 (q d hR) (en1.grow g) (s1.trans (off_same g)) r⟩
/-- a call with the purse of slot i -/
theorem dE_callP {p : Addr} {n : Nat} (hi : G[i]? = some (.pur p n)) (h : dA E ex true tr G fun ds G1 => ∃ n', G1[i]? = some (.pur p n') ∧ pre ds ∧ n' + m ≤ 1000000000 ∧ ∀ d, R ds d → Q d (G1.set i (.pur p (n' + m)))) : dE E ex f (tCall (spP pre R m) [] E' (tCons (tVar i) tr)) G Q := fun β T A σ H Qv en w k => by
  obtain ⟨o, h1, rfl, hz, _⟩ := en.ok i _ hi
  refine ⟨_, h1, ?_⟩
  refine h β T A σ H _ en w fun ds us H1 G1 ⟨n', hi', hp, hn, q⟩ en1 s1 r1 => ?_
  show spP pre R m ((V.ref p :: us) ++ []) H1 Qv E'
  rw [List.append_nil]
  obtain ⟨o, h1', rfl, hz', pu⟩ := en1.ok i _ hi'
  refine ⟨p, us, T ++ A, ds, n', rfl, en1.zA p hz', en1.live, pu, hn, r1, hp, fun v d H2 hR g pu2 r => ?_⟩
  obtain ⟨en2, s2⟩ := en1.bump hi' g pu2
  exact k d v H2 _ (q d hR) en2 (s1.trans s2) (r.mono en2.upf)
/-- a number of a purse -/
def PurAt (n : Nat) : Nat → Int → Prop
  | 0, x => 0 ≤ x ∧ x < 10 ^ 480
  | 1, x => 0 ≤ x ∧ x < 2147483648
  | 2, x => 0 ≤ x ∧ x ≤ n
  | 3, x => 0 ≤ x ∧ x < 1000
  | _, _ => False
theorem dE_pur {K : PySem.W.Frag} {p : Addr} {n j : Nat} (hi : G[i]? = some (.pur p n)) (hj : j < 4) (q : ∀ x, PurAt n j x → Q (.int x) G) : dE E ex f (tOp (rIx K) (tVar i) (tC (.int (j : Int)))) G Q := fun β T A σ H Qv en w k => by
  obtain ⟨o, h1, rfl, hz, x, y, z, t, h5, a1, a2, a3, a4, a5, a6, a7, a8⟩ := en.ok i _ hi
  refine ⟨_, h1, ?_⟩
  have fin : ∀ v : Int, PurAt n j v → Qv (.int v) H := fun v hv => k _ _ H G (q v hv) en (Same.refl _) (.int v)
  have key : ∀ v : Int, [x, y, z, t][j]? = some v → PurAt n j v → rIx K (.ref p) (.int (j : Int)) H Qv := fun v hv hp => by
    refine .inl ⟨p, _, (j : Int), .int v, rfl, rfl, .inl (.inl h5), ?_, fin v hp⟩
    refine atI_nat ?_
    show ([x, y, z, t].map V.int)[j]? = _
    rw [List.getElem?_map, hv]
    rfl
  match j, hj with
  | 0, _ => exact key x rfl ⟨a1, a2⟩
  | 1, _ => exact key y rfl ⟨a3, a4⟩
  | 2, _ => exact key z rfl ⟨a5, a6⟩
  | 3, _ => exact key t rfl ⟨a7, a8⟩
theorem dS_pur {P : Po} {p : Addr} {j : Nat} (hi : ∃ n, G[i]? = some (.pur p n)) (hj : j < 4) (h : dE E ex true te G fun d G1 => ∃ x n n', d = .int x ∧ G1[i]? = some (.pur p n) ∧ n ≤ n' ∧ PurAt n' j x ∧ P.nx (G1.set i (.pur p n'))) : dS E ex (tAsg te (gSub (tVar i) (tC (.int (j : Int))) rSetL)) G P := fun β A σ H Dn en w k1 _ _ _ => by
  refine h β [] A σ H _ en w fun d v H1 G1 ⟨x, n, n', e0, hi', hn, hp, q⟩ en1 s1 r1 => ?_
  subst e0
  cases r1
  obtain ⟨o, h1, rfl, hz, a, b, c, e, h5, a1, a2, a3, a4, a5, a6, a7, a8⟩ := en1.ok i _ hi'
  refine ⟨_, h1, ?_⟩
  have key : ∀ a' b' c' e' : Int, [a, b, c, e].set j x = [a', b', c', e'] → Pur (upd H1 p (.lst ([a', b', c', e'].map V.int))) p n' → ixN 4 (j : Int) = some j → rSetL (.ref p) (.int (j : Int)) (.int x) H1 fun H3 => Dn.nx σ H3 := fun a' b' c' e' he pu hx => by
    refine ⟨p, _, (j : Int), j, rfl, rfl, h5, hx, ?_⟩
    have e1 : ([V.int a, V.int b, V.int c, V.int e].set j (V.int x)) = [a', b', c', e'].map V.int := by
      rw [← he, List.map_set]
      rfl
    show Dn.nx σ (upd H1 p (.lst ([V.int a, V.int b, V.int c, V.int e].set j (V.int x))))
    rw [e1]
    exact k1 A σ _ _ q (en1.bump hi' (fun b x hb hx => by rw [upd_ne hb]; exact hx) pu).1
  match j, hj with
  | 0, _ => exact key x b c e rfl ⟨x, b, c, e, upd_same, hp.1, hp.2, a3, a4, a5, by omega, a7, a8⟩ (by decide)
  | 1, _ => exact key a x c e rfl ⟨a, x, c, e, upd_same, a1, a2, hp.1, hp.2, a5, by omega, a7, a8⟩ (by decide)
  | 2, _ => exact key a b x e rfl ⟨a, b, x, e, upd_same, a1, a2, a3, a4, hp.1, hp.2, a7, a8⟩ (by decide)
  | 3, _ => exact key a b c x rfl ⟨a, b, c, x, upd_same, a1, a2, a3, a4, a5, by omega, hp.1, hp.2⟩ (by decide)
end
end Kr
/-! Kr6: a def of the top, what it promises. -/
namespace Kr
open PySem L2
theorem units65 {k : Nat} {A : Around} (r : Room k A) : A.units + 65 < cLine := by
  have := r.un
  omega
/-- a def of the top, as it stands -/
structure DefAt (K : PySem.W.Frag) (mg : Str → Option Value) (x : Str) (st : Stmt) (ps : List Str) : Prop where
  ex : ∃ (f : Addr) (fd : FuncData), Fun K x x st f fd ∧ mg x = some (.ref f) ∧ Binds K fd ps []
/-- a def of the top and its promise -/
structure Con (P : Program) (w : World) (K : PySem.W.Frag) (mg : Str → Option Value) (base : Heap) (x : Str) (ps : List Str) (k : Nat) (sp : Sp) : Prop where
  ex : ∃ (f : Addr) (fd : FuncData), mg x = some (.ref f) ∧ PySem.W.keepIn K (.ref f) = true ∧ Binds K fd ps [] ∧ FnOk P w K mg base CX0 k f fd ps sp
section
variable {X : Cx} {x : Str} {ps : List Str} {k : Nat} {sp : Sp} {p pos : Pos} {e : Expr} {es : List Expr} {t : TA}
theorem pe_con (c : Con X.prog X.w X.K X.mg X.base x ps k sp) (hr : Room k X.A) (hg : Gl X x) (ha : PA X (e :: es) t) (hdb : (x == ("__debug__" : Str)) = false := by decide)
    (he : starEach (e :: es) X.env = (false, eval e X.env) :: starEach es X.env := by rfl) (hpl : (backTo pos (starEach es X.env)).any (·.1) = false := by rfl) : PE X (.Call (.Name x p) (e :: es) [] pos) (tCall sp [] E0 t) := by
  obtain ⟨f, fd, g, kp, b, F⟩ := c.ex
  exact pe_call F hr hg g kp b .nil pass0 ha hdb he hpl
theorem pe_con0 (c : Con X.prog X.w X.K X.mg X.base x ps k sp) (hr : Room k X.A) (hg : Gl X x) (hdb : (x == ("__debug__" : Str)) = false := by decide) : PE X (.Call (.Name x p) [] [] pos) (tCall sp [] E0 tNil) := by
  obtain ⟨f, fd, g, kp, b, F⟩ := c.ex
  exact pe_call0 F hr hg g kp b .nil pass0 hdb
end
section
variable {P : Program} {w : World} {K : PySem.W.Frag} {mg : Str → Option Value} {base : Heap} {x : Str} {st : Stmt} {N ps : List Str} {k m : Nat} {pre : List D → Prop} {R : List D → D → Prop}
theorem conD (h : DefAt K mg x st ps) (S : FnScope N ps (defScope st)) (len : ∀ ds, pre ds → ds.length = ps.length)
    (hbody : ∀ (f : Addr) (cdv : Value) (A : Around) (outer : List PySem.Env) (s : Shared) (H : Hp) (E : XK), Room k (A.deeper (PyProof.Rows.envOfC x (defScope st) s.heap.objs.size f cdv)) →
      ∃ t, PSs (cxOf CX0 P w K mg base N x (defScope st) f cdv A outer s H E).nox (defBody st) t ∧ ∀ ds, pre ds → dS E0 (fun _ _ => False) t (slots N ds) (Po.of (R ds))) : Con P w K mg base x ps (k + 1) (spD pre R) := by
  obtain ⟨f, fd, F, g, b⟩ := h.ex
  exact ⟨f, fd, g, F.kp, b, fnD F S len fun cdv A outer s H E hr => hbody f cdv A outer s H E hr⟩
theorem conP (h : DefAt K mg x st ps) (S : FnScope N ps (defScope st)) (len : ∀ ds, pre ds → ds.length + 1 = ps.length)
    (hbody : ∀ (f : Addr) (cdv : Value) (A : Around) (outer : List PySem.Env) (s : Shared) (H : Hp) (E : XK), Room k (A.deeper (PyProof.Rows.envOfC x (defScope st) s.heap.objs.size f cdv)) →
      ∃ t, PSs (cxOf CX0 P w K mg base N x (defScope st) f cdv A outer s H E).nox (defBody st) t ∧ ∀ ds p n, pre ds → n + m ≤ 1000000000 → dS E0 (fun _ _ => False) t (.pur p n :: slots N.tail ds)
        { nx := fun G => R ds .non ∧ ∃ n', n' ≤ n + m ∧ G[0]? = some (.pur p n'), bk := fun _ => False, ct := fun _ => False, rt := fun d G => R ds d ∧ ∃ n', n' ≤ n + m ∧ G[0]? = some (.pur p n') }) : Con P w K mg base x ps (k + 1) (spP pre R m) := by
  obtain ⟨f, fd, F, g, b⟩ := h.ex
  exact ⟨f, fd, g, F.kp, b, fnP F S len fun cdv A outer s H E hr => hbody f cdv A outer s H E hr⟩
end
end Kr
/-! Kr7: usual loops and comprehensions. -/
namespace Kr
open PySem L2
/-- a def that is a function of data -/
def spF (pre : List D → Prop) (g : List D → D) : Sp := spD pre fun ds d => d = g ds
section
variable {P : Program} {w : World} {K : PySem.W.Frag} {mg : Str → Option Value} {base : Heap} {x : Str} {st : Stmt} {N ps : List Str} {k m : Nat} {pre : List D → Prop} {g : List D → D}
def Po.is (d : D) : Po := { nx := fun _ => D.non = d, bk := fun _ => False, ct := fun _ => False, rt := fun e _ => e = d }
theorem conF (h : DefAt K mg x st ps) (S : FnScope N ps (defScope st)) (len : ∀ ds, pre ds → ds.length = ps.length)
    (hbody : ∀ (f : Addr) (cdv : Value) (A : Around) (outer : List PySem.Env) (s : Shared) (H : Hp) (E : XK), Room k (A.deeper (PyProof.Rows.envOfC x (defScope st) s.heap.objs.size f cdv)) →
      ∃ t, PSs (cxOf CX0 P w K mg base N x (defScope st) f cdv A outer s H E).nox (defBody st) t ∧ ∀ ds, pre ds → dS E0 (fun _ _ => False) t (slots N ds) (Po.is (g ds))) : Con P w K mg base x ps (k + 1) (spF pre g) :=
  conD h S len fun f cdv A outer s H E hr => by
    obtain ⟨t, h1, h2⟩ := hbody f cdv A outer s H E hr
    exact ⟨t, h1, fun ds hd => (h2 ds hd).imp (fun _ z => z) (fun _ z => z) (fun _ z => z) fun _ _ z => z⟩
end
section
variable {E E' : XK} {ex : Addr → D → Prop} {f : Bool} {G : List Sl} {te ta tb : TE} {Q : D → List Sl → Prop} {QA : List D → List Sl → Prop} {tr : TA} {i m : Nat} {pre : List D → Prop} {g : List D → D} {ts : TS} {wi : TI} {P : Po} {tt : TT}
theorem dE_callF (h : dA E ex f tr G fun ds G1 => pre ds ∧ Q (g ds) G1) : dE E ex f (tCall (spF pre g) [] E' tr) G Q :=
  dE_call (h.imp fun ds G1 ⟨hp, q⟩ => ⟨hp, fun d e => e ▸ q⟩)
theorem dE_varE (h : ∃ d, G[i]? = some (.imm d) ∧ Q d G) : dE E ex f (tVar i) G Q := by
  obtain ⟨d, h1, h2⟩ := h
  exact dE_var h1 h2
theorem dE_ownE (h : ∃ ds, G[i]? = some (.own ds) ∧ Q (.lst ds) G) : dE E ex false (tVar i) G Q := by
  obtain ⟨d, h1, h2⟩ := h
  exact dE_own h1 h2
theorem dE_lc {wi : TI} {g : TG} {tt : TT} {vs : List Nat} (h : dL E ex (tLc wi g tt te vs) G fun ds G1 => Q (.lst ds) G1) : dE E ex f (tLc wi g tt te vs) G Q := dE_L h
theorem dE_lstF (h : dA E ex f tr G fun ds G1 => ds.length ≤ 1000 ∧ Q (.lst ds) G1) : dE E ex f (tLst tr) G Q := dE_lst h
theorem dS_augI {gg : Int → Int → Int} (h : ∃ a, G[i]? = some (.imm (.int a)) ∧ dE E ex false te G fun d G1 => ∃ b, d = .int b ∧ P.nx (G1.set i (.imm (.int (gg a b))))) : dS E ex (tAug i te (ipI gg)) G P := fun β A σ H Dn en w k1 _ _ _ => by
  obtain ⟨a, hi, h⟩ := h
  obtain ⟨v, h1, r⟩ := en.get hi
  cases r
  refine ⟨_, h1, ?_⟩
  refine h β [] A σ H _ en w fun d u H1 G1 ⟨b, e, q⟩ en1 s1 r1 => ?_
  subst e
  cases r1
  exact ⟨a, b, rfl, rfl, k1 A _ H1 _ q (en1.set (.int _))⟩
theorem dS_nextE (q : P.nx G) : dS E ex Ends.nx G P := dS_next q
theorem dS_brkE (q : P.bk G) : dS E ex Ends.bk G P := dS_brk q
theorem dS_ctE (q : P.ct G) : dS E ex Ends.ct G P := dS_ct q
/-- x, y = [..], e -/
theorem dS_parL {j : Nat} (hij : i ≠ j) (h : dA E ex true tr G fun ds G1 => ds.length ≤ 1000 ∧ dE E ex true te G1 fun d G2 => P.nx ((G2.set i (.own ds)).set j (.imm d))) : dS E ex (tPar i j (tCons (tLst tr) (tCons te tNil))) G P := fun β A σ H Dn en w k1 _ _ _ => by
  unfold tPar tCons tNil
  refine dL_lst (QA := fun ds G1 => dE E ex true te G1 fun d G2 => P.nx ((G2.set i (.own ds)).set j (.imm d))) h β [] A σ H _ en w fun ds p xs H1 G1 q hp h0 en1 s1 e1 r1 => ?_
  refine q β [p] A σ H1 _ en1 w fun d v H2 G2 q2 en2 s2 r2 => ?_
  refine ⟨_, _, rfl, ?_⟩
  have pZ : p ∉ β.Z := fun z => hp (List.mem_append_right _ (en1.sub p (en1.zs p z)))
  have e2 : H2 p = some (.lst xs) := (off_some (s2 p _ (off_of pZ e1))).2
  have en3 := en2.own (i := i) e2 hp h0 (r1.mono (en1.vw s2))
  have go : Same (Off ([p] ++ A) H2) (Off ([] ++ (p :: A)) H2) := Same.refl _
  exact k1 (p :: A) _ H2 _ q2 (en3.set (i := j) (Rp.mono go r2))
/-- x, y = d, e -/
theorem dS_par {j : Nat} (h : dE E ex true ta G fun d G1 => dE E ex true tb G1 fun e G2 => P.nx ((G2.set i (.imm d)).set j (.imm e))) : dS E ex (tPar i j (tCons ta (tCons tb tNil))) G P := fun β A σ H Dn en w k1 _ _ _ => by
  unfold tPar tCons tNil
  refine h β [] A σ H _ en w fun d v H1 G1 q en1 s1 r1 => ?_
  refine q β [] A σ H1 _ en1 w fun e u H2 G2 q2 en2 s2 r2 => ?_
  exact ⟨_, _, rfl, k1 A _ H2 _ q2 ((en2.set (i := i) (Rp.mono (en1.vw s2) r1)).set (i := j) r2)⟩
/-- a slot is forgotten at the end -/
theorem dS_nxany (i : Nat) (h : dS E ex ts G { P with nx := fun G' => P.nx (G'.set i .any), ct := fun G' => P.ct (G'.set i .any) }) : dS E ex ts G P := fun β A σ H D en w k1 k2 k3 k4 =>
  h β A σ H D en w (fun A' σ' H' G' z e => k1 A' σ' H' _ z e.any) k2 (fun A' σ' H' G' z e => k3 A' σ' H' _ z e.any) k4
theorem dI_any (i : Nat) (h : dI E ex wi G fun ds G1 => QA ds (G1.set i .any)) : dI E ex wi G QA := fun β T A σ H R en w k =>
  h β T A σ H R en w fun ds J H1 G1 q en1 s1 dw => k ds J H1 _ q en1.any s1 dw
/-- a for that stores nothing for the next turn -/
theorem dS_scan (h : dI E ex wi G fun ds G1 => ∃ Pj : Nat → Prop, Pj 0 ∧ (∀ j d, ds[j]? = some d → Pj j → dS E ex ts (G1.set i (.imm d)) { nx := fun G' => Pj (j + 1) ∧ G'.set i .any = G1.set i .any, ct := fun G' => Pj (j + 1) ∧ G'.set i .any = G1.set i .any, bk := P.nx, rt := P.rt }) ∧ (Pj ds.length → P.nx (G1.set i .any))) : dS E ex (tFor wi (gName i) ts) G P := by
  refine dS_for (vs := [i]) (dI_any i (dI.imp ?_ h))
  intro ds G1 ⟨Pj, p0, step, fin⟩
  refine ⟨fun j G' => Pj j ∧ G' = G1.set i .any, ⟨p0, rfl⟩, fun j d G' hd ⟨pj, e⟩ => ?_, fun G' ⟨pj, e⟩ => ?_⟩
  · subst e
    refine dG_name (List.mem_singleton.mpr rfl) ?_
    rw [List.set_set]
    exact dS_nxany i (step j d hd pj)
  · subst e
    exact fin pj
where
  dI.imp {E : XK} {ex : Addr → D → Prop} {wi : TI} {G : List Sl} {QA QB : List D → List Sl → Prop} (q : ∀ ds G', QA ds G' → QB ds G') (h : dI E ex wi G QA) : dI E ex wi G QB := fun β T A σ H R en w k =>
    h β T A σ H R en w fun ds J H1 G1 z en1 s1 dw => k ds J H1 G1 (q _ _ z) en1 s1 dw
theorem dI.imp {QB : List D → List Sl → Prop} (q : ∀ ds G', QA ds G' → QB ds G') (h : dI E ex wi G QA) : dI E ex wi G QB := fun β T A σ H R en w k =>
  h β T A σ H R en w fun ds J H1 G1 z en1 s1 dw => k ds J H1 G1 (q _ _ z) en1 s1 dw
theorem dE_any (i : Nat) (h : dE E ex f te G fun d G1 => Q d (G1.set i .any)) : dE E ex f te G Q := fun β T A σ H Qv en w k =>
  h β T A σ H Qv en w fun d v H1 G1 q en1 s1 r1 => k d v H1 _ q en1.any s1 r1
/-- [e for x in ds], e a function of x -/
theorem dL_map (h : dI E ex wi G fun ds G1 => ∃ g : D → D, ds.length ≤ 1000000 ∧ (∀ d ∈ ds, dE E ex true te (G1.set i (.imm d)) fun y G2 => y = g d ∧ G2.set i .any = G1.set i .any) ∧ QA (ds.map g) (G1.set i .any)) : dL E ex (tLc wi (gName i) tYes te [i]) G QA := by
  refine dL_lc (dI_any i (dI.imp (fun ds G1 z => ?_) h))
  obtain ⟨g, hl, step, fin⟩ := z
  refine ⟨fun j acc G' => acc = (ds.take j).map g ∧ G' = G1.set i .any, ⟨rfl, rfl⟩, fun j d acc G' hd ⟨ea, eg⟩ => ?_, fun acc G' ⟨ea, eg⟩ => ?_⟩
  · subst eg
    refine dG_name (List.mem_singleton.mpr rfl) (dT_yes ⟨fun _ => ?_, fun z => Bool.noConfusion z⟩)
    show dE E ex true te (((G1.set i .any).set i .any).set i (.imm d)) _
    rw [List.set_set, List.set_set]
    refine (step d (List.mem_of_getElem? hd)).imp fun y G2 ⟨e1, e2⟩ => ⟨?_, ?_, ?_⟩
    · have h3 := (List.getElem?_eq_some_iff.mp hd).1
      rw [ea, List.length_map, List.length_take]; omega
    · rw [ea, e1, List.take_add_one, hd, List.map_append]; rfl
    · exact e2
  · rw [List.take_length] at ea
    rw [ea, eg]
    exact fin
/-- [e for x in ds if t] -/
theorem dL_filter (h : dI E ex wi G fun ds G1 => ∃ (t : D → Bool) (g : D → D), ds.length ≤ 1000000 ∧ (∀ d ∈ ds, dT E ex tt (G1.set i (.imm d)) fun b G2 => b = t d ∧ G2.set i .any = G1.set i .any ∧ (b = true → dE E ex true te G2 fun y G3 => y = g d ∧ G3.set i .any = G1.set i .any)) ∧ QA ((ds.filter t).map g) (G1.set i .any)) : dL E ex (tLc wi (gName i) tt te [i]) G QA := by
  refine dL_lc (dI_any i (dI.imp (fun ds G1 z => ?_) h))
  obtain ⟨t, g, hl, step, fin⟩ := z
  refine ⟨fun j acc G' => acc = ((ds.take j).filter t).map g ∧ G' = G1.set i .any, ⟨rfl, rfl⟩, fun j d acc G' hd ⟨ea, eg⟩ => ?_, fun acc G' ⟨ea, eg⟩ => ?_⟩
  · subst eg
    refine dG_name (List.mem_singleton.mpr rfl) ?_
    show dT E ex tt (((G1.set i .any).set i .any).set i (.imm d)) _
    rw [List.set_set, List.set_set]
    have et : ds.take (j + 1) = ds.take j ++ [d] := by rw [List.take_add_one, hd]; rfl
    refine (step d (List.mem_of_getElem? hd)).imp fun b G2 ⟨e1, e2, e3⟩ => ⟨fun hb => (e3 hb).imp fun y G3 ⟨e4, e5⟩ => ⟨?_, ?_, e5⟩, fun hb => ⟨?_, e2⟩⟩
    · have h1 := List.length_filter_le t (ds.take j)
      have h2 : (ds.take j).length ≤ ds.length := by rw [List.length_take]; omega
      have h3 := (List.getElem?_eq_some_iff.mp hd).1
      have h4 : (ds.take j).length = j := by rw [List.length_take]; omega
      rw [ea, List.length_map]; omega
    · rw [hb] at e1
      rw [ea, e4, et, List.filter_append, List.map_append]
      simp [← e1]
    · rw [hb] at e1
      rw [ea, et, List.filter_append]
      simp [← e1]
  · rw [List.take_length] at ea
    rw [ea, eg]
    exact fin
/-- [e for x in ds], e draws from the purse of slot 0 -/
theorem dL_gen {p : Addr} (h : dI E ex wi G fun ds G1 => ∃ (n m : Nat) (R : Nat → D → Prop), G1[0]? = some (.pur p n) ∧ i ≠ 0 ∧ ds.length ≤ 1000000 ∧
      (∀ j d, ds[j]? = some d → dE E ex true te ((G1.set 0 (.pur p (n + m * j))).set i (.imm d)) fun y G2 => R j y ∧ G2.set i .any = (G1.set 0 (.pur p (n + m * (j + 1)))).set i .any) ∧
      ∀ es, es.length = ds.length → (∀ j e, es[j]? = some e → R j e) → QA es ((G1.set 0 (.pur p (n + m * ds.length))).set i .any)) : dL E ex (tLc wi (gName i) tYes te [i]) G QA := by
  refine dL_lc (dI_any i (dI.imp (fun ds G1 z => ?_) h))
  obtain ⟨n, m, R, h0, hi, hl, step, fin⟩ := z
  refine ⟨fun j acc G' => acc.length = j ∧ (∀ k e, acc[k]? = some e → R k e) ∧ G' = (G1.set 0 (.pur p (n + m * j))).set i .any, ⟨rfl, fun k e z => by simp at z, ?_⟩, fun j d acc G' hd ⟨ea, er, eg⟩ => ?_, fun acc G' ⟨ea, er, eg⟩ => ?_⟩
  · have e : G1.set 0 (.pur p (n + m * 0)) = G1 := by
      rw [Nat.mul_zero, Nat.add_zero]
      refine List.ext_getElem? fun j => ?_
      by_cases hj : j = 0
      · subst hj
        rw [List.getElem?_set_self (List.getElem?_eq_some_iff.mp h0).1, h0]
      · rw [List.getElem?_set_ne (fun z => hj z.symm)]
    rw [e]
  · subst eg
    refine dG_name (List.mem_singleton.mpr rfl) (dT_yes ⟨fun _ => ?_, fun z => Bool.noConfusion z⟩)
    show dE E ex true te ((((G1.set 0 (.pur p (n + m * j))).set i .any).set i .any).set i (.imm d)) _
    rw [List.set_set, List.set_set]
    refine (step j d hd).imp fun y G2 ⟨e1, e2⟩ => ⟨?_, ?_, fun k e z => ?_, e2⟩
    · have h3 := (List.getElem?_eq_some_iff.mp hd).1
      omega
    · rw [List.length_append, ea]; rfl
    · by_cases hk : k < acc.length
      · rw [List.getElem?_append_left hk] at z
        exact er k e z
      · rw [List.getElem?_append_right (by omega)] at z
        have hk' : k = acc.length := by
          have h4 := (List.getElem?_eq_some_iff.mp z).1
          simp at h4
          omega
        subst hk'
        simp at z
        subst z
        rw [ea]
        exact e1
  · rw [eg]
    exact fin acc ea er
/-- a for with the purse in slot 0, nothing else stored -/
theorem dS_scanP {p : Addr} (h : dI E ex wi G fun ds G1 => ∃ (n m : Nat), G1[0]? = some (.pur p n) ∧ i ≠ 0 ∧
      (∀ j d, ds[j]? = some d → dS E ex ts ((G1.set 0 (.pur p (n + m * j))).set i (.imm d)) { nx := fun G' => G'.set i .any = (G1.set 0 (.pur p (n + m * (j + 1)))).set i .any, ct := fun G' => G'.set i .any = (G1.set 0 (.pur p (n + m * (j + 1)))).set i .any, bk := P.nx, rt := P.rt }) ∧
      P.nx ((G1.set 0 (.pur p (n + m * ds.length))).set i .any)) : dS E ex (tFor wi (gName i) ts) G P := by
  refine dS_for (vs := [i]) (dI_any i (dI.imp ?_ h))
  intro ds G1 ⟨n, m, h0, hi, step, fin⟩
  refine ⟨fun j G' => G' = (G1.set 0 (.pur p (n + m * j))).set i .any, ?_, fun j d G' hd e => ?_, fun G' e => ?_⟩
  · have e : G1.set 0 (.pur p (n + m * 0)) = G1 := by
      rw [Nat.mul_zero, Nat.add_zero]
      refine List.ext_getElem? fun j => ?_
      by_cases hj : j = 0
      · subst hj
        rw [List.getElem?_set_self (List.getElem?_eq_some_iff.mp h0).1, h0]
      · rw [List.getElem?_set_ne (fun z => hj z.symm)]
    show _ = _
    rw [e]
  · subst e
    refine dG_name (List.mem_singleton.mpr rfl) ?_
    rw [List.set_set]
    exact dS_nxany i (step j d hd)
  · subst e
    exact fin
/-- fewer draws told as more -/
theorem dE_more {p : Addr} {n n' : Nat} (hn : n ≤ n') (h : dE E ex f te G fun d G1 => G1[0]? = some (.pur p n) ∧ Q d (G1.set 0 (.pur p n'))) : dE E ex f te G Q := fun β T A σ H Qv en w k =>
  h β T A σ H Qv en w fun d v H1 G1 ⟨hi, q⟩ en1 s1 r1 => by
    obtain ⟨o, _, _, _, x, y, z, t, h1, h2, h3, h4, h5, h6, h7, h8⟩ := en1.ok 0 _ hi
    exact k d v H1 _ q (en1.bump hi (fun _ _ _ z => z) ⟨x, y, z, t, h1, h2, h3, h4, h5, h6, by omega, h8⟩).1 s1 r1
end
end Kr
/-! # Own errors over a class over ValueError: def __init__(self, value=None): super().__init__(); self.value = value -/
namespace PySem
namespace Kex
open PySem.W PySem.Calls PyProof.Rows PySem.HandSPX
/-! ### the text of __init__ -/
def iA (p1 p2 p3 : Pos) (n : Nat) : Arguments := { posonlyargs := [], args := [{ arg := "self", annotation := none, pos := p1 }, { arg := "value", annotation := none, pos := p2 }], vararg := none, kwonlyargs := [], kw_defaults := [], kwarg := none, defaults := [.Constant .none n p3] }
def iB (q1 q2 q3 q4 q5 q6 q7 q8 q9 : Pos) : List Stmt := [.Expr (.Call (.Attribute (.Call (.Name "super" q1) [] [] q2) "__init__" q3) [] [] q4) q5, .Assign [.Attribute (.Name "self" q6) "value" q7] (.Name "value" q8) q9]
def iS : Scope := { kind := .function, names := [(PySem.Str.ofString "self", .local), (PySem.Str.ofString "value", .local), (PySem.Str.ofString "__class__", .free), (PySem.Str.ofString "super", .globalImplicit)], isGenerator := false, isCoroutine := false, more := [] }
/-- what the written part says of the class cn, at C, and of its __init__, at fI -/
structure ValTxt (P : Program) (K : Frag) (mg : Str → Option Value) (cn : Str) (C fI : Addr) : Prop where
  gC : mg cn = some (.ref C)
  cls : ∃ nm q N bs bm sn sub ab col dd k0 k1 k2 k3 k5, K.lookup C = some (excClassObj nm q C N bs bm true sn sub ab col dd k0 k1 k2 k3 k5 "ValueError.__new__") ∧ refsVE bm = true ∧ alongIn K "__init__" bm = some (some (.builtin "ValueError.__init__"))
  sa : findIn K (.ref C) "__setattr__" = some (some (.builtin "object.__setattr__"))
  ga : findIn K (.ref C) "__getattribute__" = some (some (.builtin "BaseException.__getattribute__"))
  gg : findIn K (.ref C) "__getattr__" = some none
  noN : findIn K (.ref C) "value" = some none
  iC : findIn K (.ref C) "__init__" = some (some (.ref fI))
  tC : typeIn K (.ref fI) = some (.type "function")
  kC : keepIn K (.ref C) = true
  exC : subIn K (.ref C) (.type "BaseException") = some true
  veC : subIn K (.ref C) (.type "ValueError") = some true
  tyC : typeIn K (.ref C) = some (.type "type")
  hdC : hasDictIn K C = true
  te : exmOne K (.ref C) (.ref C) = some true
  mroC : mroIn K C (.ref C) = some true
  opq : nsIn K cStatics "thirdparty.any" = some none
  sup : nsIn K mainGlobals "super" = some none
  top : (P.main.scope.names.lookup ("super" : Str)).isSome = false
  fn : ∃ (oc : Value) (od : Option Addr) (dt : Addr) (doc pm : Value) (an : Option Addr) (cda cc : Addr) (ct : Value) (osl : Array (Option Value)) (qn : Str) (p1 p2 p3 q1 q2 q3 q4 q5 q6 q7 q8 q9 : Pos) (n : Nat),
    K.lookup fI = some ⟨oc, od, .func (ksFn "__init__" qn (iA p1 p2 p3 n) (iB q1 q2 q3 q4 q5 q6 q7 q8 q9) iS (.ref dt) .none doc pm an (.ref cda) ct cc), osl⟩ ∧ codeIn K (.ref cda) qn = true ∧
    (∃ ccl cdd vs ccs file tf, K.lookup cda = some ⟨ccl, cdd, .fields vs, ccs⟩ ∧ vs[2]? = some (.str file tf) ∧ ((P.main.file : Str) == file) = true) ∧
    (∃ cl cld csl, K.lookup cc = some ⟨cl, cld, .cell (some (.ref C)), csl⟩) ∧ (∃ od n, K.lookup dt = some od ∧ od.data = .seq #[.none] n) ∧ (q3.endLine == q4.line) = true
theorem methodCall_line {o : Expr} {name : Str} {apos pos : Pos} {env : Env} {ov : Value} (hline : (apos.endLine == pos.line) = true) :
    methodCall o name apos pos env ov 0 (backTo pos (starEach [] env)) [] = (do
      let (f, first) ← holding [ov] (getMethod ov name (do return (← importBound o env).getD true))
      callWith pos f first (backTo pos (starEach [] env)) []) := by
  have hpos : methodCallPos true o env apos pos = pure pos := by unfold methodCallPos; simp [hline]
  have hform : methodCallForm 0 (backTo pos (starEach [] env)) [] = true := rfl
  unfold methodCall
  rw [hform, hpos]
  unfold calleeOf
  rfl
theorem eval_super {o : Expr} {name : Str} {apos pos : Pos} {env : Env} (hline : (apos.endLine == pos.line) = true) :
    eval (.Call (.Attribute o name apos) [] [] pos) env = (do
      let ov ← attributeBase o name env (eval o env)
      standAt apos.atName
      let (f, first) ← holding [ov] (getMethod ov name (do return (← importBound o env).getD true))
      callWith pos f first (backTo pos (starEach [] env)) []) := by
  have e : eval (.Call (.Attribute o name apos) [] [] pos) env = (do
      let ov ← attributeBase o name env (eval o env)
      standAt apos.atName
      methodCall o name apos pos env ov 0 (backTo pos (starEach [] env)) []) := by rfl
  rw [e]
  have : (fun ov => methodCall o name apos pos env ov 0 (backTo pos (starEach [] env)) []) = fun ov => (do
      let (f, first) ← holding [ov] (getMethod ov name (do return (← importBound o env).getD true))
      callWith pos f first (backTo pos (starEach [] env)) []) := funext fun ov => methodCall_line hline
  have h2 : (fun ov => do standAt apos.atName; methodCall o name apos pos env ov 0 (backTo pos (starEach [] env)) []) = fun ov => (do
      standAt apos.atName
      let (f, first) ← holding [ov] (getMethod ov name (do return (← importBound o env).getD true))
      callWith pos f first (backTo pos (starEach [] env)) []) := funext fun ov => by rw [methodCall_line hline]
  exact congrArg (fun k => attributeBase o name env (eval o env) >>= k) h2
/-- what __init__ leaves of a fresh exception at x -/
structure InitEnd (h h' : Heap) (x C dx t1 : Addr) (v : Value) : Prop where
  keep : ∀ b o, b ≠ x → h.get? b = some o → h'.get? b = some o
  obj : h'.get? x = some { cls := .ref C, dict := some dx, data := .fields #[.ref t1, .none, .none, .none, .bool false, .none] }
  dbig : h.objs.size ≤ dx
  dne : dx ≠ x
  ns : h'.Ns1 dx (fun y => if y = "value" then some v else none)
/-- a made one -/
structure OwnMade (h h' : Heap) (e C d : Addr) (v : Value) : Prop where
  keep : ∀ b o, h.get? b = some o → h'.get? b = some o
  new : h.objs.size ≤ e
  obj : ∃ oe vs, h'.get? e = some oe ∧ oe.cls = .ref C ∧ oe.dict = some d ∧ oe.data = .fields vs ∧ vs[1]? = some .none
  dbig : h.objs.size ≤ d
  dne : d ≠ e
  ns : h'.Ns1 d (fun y => if y = "value" then some v else none)
theorem ldC {M : Model} {s : Shared} {env : Env} {m : Str → Option Value} {x : Str} {pos : Pos} {v : Value} {Q : Value → Shared → Prop} {A : Around} {E : Value → Shared → Prop} (hn : s.heap.Ns env.locals m) (hv : m x = some v) (h : Q v s)
    (hk : env.scope.kind = .function := by rfl) (hl : env.kindOf x = some .local := by rfl) (hd : (x == ("__debug__" : Str)) = false := by decide) :
    wpAny M A (eval (.Name x pos) env) Q E s := wpAny_Name (wpAny_loadName_local hk hl hn hv h) hd
theorem drop_own (C : Addr) (l : List Value) : ((Value.ref C :: l).dropWhile (· != .ref C)).drop 1 = l := by
  simp [List.dropWhile_cons]
section
variable {prog : Program} {w : World} {A : Around} {E : Value → Shared → Prop} {h : Heap} {g : Array GenState} {d : Drawn} {t : Nat} {os : OsState}
variable {nm q : Str} {C N : Addr} {bs bm : List Value} {hdct : Bool} {sn : List Str} {sub : List Value} {ab : Bool} {col : Option Bool} {dd : Option Addr} {k0 k1 k2 k3 k5 : Option Value}
/-- the bound ValueError.__init__, called with nothing -/
theorem call_mw {u e t0 : Addr} {rest : List Value} {Q : Value → Shared → Prop}
    (hC : h.get? C = some (excClassObj nm q C N bs bm hdct sn sub ab col dd k0 k1 k2 k3 k5 "ValueError.__new__")) (he : h.get? e = some (HandSPX.excO C t0)) (hu : h.get? u = some (kxs_mw "ValueError.__init__" e)) (hrest : rest.length ≤ sizeLine)
    (hq : ∀ h' t1, (∀ b o, b ≠ e → h.get? b = some o → h'.get? b = some o) → h'.get? e = some (HandSPX.excO C t1) → Q .none ⟨h', g, d, t, os⟩) :
    wpAny (model prog w) A (call (.ref u) rest) Q E ⟨h, g, d, t, os⟩ := by
  refine wpAny_call (codeAny_of_tree ?_)
  show wpAny _ A.in1 (callAny (.ref u) ⟨rest, []⟩) _ _ _
  simp only [callAny]
  refine wpAny_bind (wpAny_load hu ?_)
  simp only [kxs_mw, show (Value.type "method-wrapper" == Value.type "method" || Value.type "method-wrapper" == Value.type "builtin_function_or_method" || Value.type "method-wrapper" == Value.type "method-wrapper") = true by decide, if_true]
  refine W.KFB.if_so (by decide) ?_
  refine wpAny_bind (check_bound_init F.excBase_ValueError.toExcCallFacts hC he rfl ?_)
  refine wpAny_bind (wpAny_pure (wpAny_pure ?_))
  refine ⟨Code.quiet_builtin _ (by decide +kernel), codeAny_builtin F.excBase_ValueError.initEntry ?_⟩
  rw [Around.under_plainId F.excBase_ValueError.init.plain _]
  wp_walk
  refine hq _ h.objs.size (fun b o hb ho => ?_) ?_
  · rw [Heap.get?_update_other _ _ (Ne.symm hb)]
    exact Heap.get?_push_of_some _ ho
  · rw [Heap.get?_update_self _ (Heap.get?_push_of_some _ he) rfl]
    rfl
end
section
variable {prog : Program} {w : World} {A : Around} {E : Value → Shared → Prop} {R : Result → Shared → Prop} {s : Shared} {K : Frag} {mg : Str → Option Value} {cn : Str} {C fI : Addr}
theorem val_init (T : ValTxt prog K mg cn C fI) {x t0 : Addr} {v : Value} {mg' mb : Str → Option Value} (X : K.In s.heap) (hG : s.heap.Ns mainGlobals mg') (hB : s.heap.Ns builtinsNs mb) (hBs : mb "super" = some (.type "super")) (hlim : s.heap.NoLimit) (hx : s.heap.get? x = some (excO C t0)) (hnx : K.lookup x = none) (hroom : A.depth < recursionLimit)
    (hq : ∀ h' tk dx t1, InitEnd s.heap h' x C dx t1 v → R (.ok (.ret .none)) { s with heap := h', toks := tk }) :
    codeAny (model prog w) A (.call (.ref fI) ⟨[.ref x, v], []⟩) R s := by
  obtain ⟨oc, od, dt, doc, pm, an, cda, cc, ct, osl, qn, p1, p2, p3, q1, q2, q3, q4, q5, q6, q7, q8, q9, n, ho, hcd, ⟨ccl, cdd, vs, ccs, file, tf, hcode, hvs, hfile⟩, ⟨cl, cld, csl, hcell⟩, ⟨odd, nd, hdt, hds⟩, hline⟩ := T.fn
  obtain ⟨nm, q, N, bs, bm, sn, sub, ab, col, dd, k0, k1, k2, k3, k5, hC, hbm, hal⟩ := T.cls
  have hcl : clsIn K C = some { name := nm, bases := bs, mro := .ref C :: bm, ns := N, qualname := q, hasDict := true, slotNames := sn, subclasses := sub, abstract := ab, collection := col, hasDel := false } := by unfold clsIn; rw [hC] <;> rfl
  refine ks_codeAny_call_defAt (fd := ksFn "__init__" qn (iA p1 p2 p3 n) (iB q1 q2 q3 q4 q5 q6 q7 q8 q9) iS (.ref dt) .none doc pm an (.ref cda) ct cc) (body := iB q1 q2 q3 q4 q5 q6 q7 q8 q9) (binds := [("self", .ref x), ("value", v)])
    hroom (X _ _ ho) rfl hlim (codeRec_of X hcd) rfl (BindsTo.of_defaults (T := dt) rfl (X _ _ hdt) hds rfl rfl) (show ∀ y ∈ iS.names, y.2 ≠ .cell by decide) (by first | decide | (intro y hy; simp only [List.mem_cons, List.not_mem_nil, or_false] at hy; rcases hy with rfl | rfl <;> rfl)) (fun h₁ hn k => ?_)
  have hs0 : s.heap.objs.size ≠ x := Nat.ne_of_gt (Heap.lt_size hx)
  have hxC : x ≠ C := fun z => by
    rw [z, X _ _ hC] at hx
    cases hx
  have X₁ : K.In h₁ := X.keeps k
  have hx₁ := k _ _ hx
  have hG₁ := hG.keeps k
  have hB₁ := hB.keeps k
  show _root_.PySem.wpAt _ _ (.func _ (ksEnv qn iS s.heap.objs.size fI (.ref cda) cc)) (execs _ (ksEnv qn iS s.heap.objs.size fI (.ref cda) cc)) _ _ _
  refine ks_wpAt_execs_cons (ks_wpAt_Expr_any (ks_wpAt_MethodCall ?_ (eval_super hline)))
  refine ks_wpAt_super_base (f := fI) (cc := cda) rfl rfl (by decide) rfl (X₁ _ _ ho) rfl rfl rfl (X₁ _ _ hcode) rfl hvs hfile T.top ?_
  refine ks_loadName_global rfl rfl (loadGlobal_builtin hG₁ (mg_none_of X hG T.sup) hB₁ hBs ⟨rfl, ?_⟩)
  refine wpAny_loadName_free rfl rfl rfl ⟨_, X₁ _ _ hcell, rfl⟩ ?_
  refine wpAny_loadName_local (v := .ref x) rfl rfl hn (by first | rfl | with_unfolding_all rfl | kernel_rfl) ?_
  refine ks_wpAny_isType_cls (X₁ _ _ hC) rfl ⟨rfl, ?_⟩
  refine ks_wpAny_call_super (X₁ _ _ hC) rfl hx₁ rfl (fun c e => by cases e) (looks_mroIn X₁ T.mroC) (fun h₂ e2 k2 => ?_)
  have X₂ : K.In h₂ := X₁.keeps k2
  have hx₂ := k2 _ _ hx₁
  have hn₂ := hn.keeps k2
  have hI : Looks (model prog w) h₂ (isInstance (.ref x) (.type "ValueError")) true := (show InstAt h₂ x (excO C t0) C none from ⟨hx₂, rfl, rfl, trivial⟩).type.andThen (looks_subIn X₂ T.veC)
  refine kxs_getMethod kxs_ValueError e2 (looks_opaque X₂ T.opq) (l₀ := .ref C :: bm) ?_ (drop_own C bm) X₂ hal hI hxC (by decide) ?_
  · exact fun A Q E s k q => wpAny_bind ((looks_clsIn X₂ hcl) A _ E s k (wpAny_pure q))
  have k3 : ∀ b o, h₂.get? b = some o → (h₂.push (kxs_mw "ValueError.__init__" x)).get? b = some o := fun b o e => Heap.get?_push_of_some _ e
  have hu : (h₂.push (kxs_mw "ValueError.__init__" x)).get? h₂.objs.size = some (kxs_mw "ValueError.__init__" x) := Heap.get?_push_at rfl rfl
  refine kxs_callWith (i := "ValueError.__init__") (x := x) rfl (evalArgs_empty ⟨hu, ?_⟩)
  refine call_mw (C := C) (e := x) (t0 := t0) ((X₂.keeps k3) _ _ hC) (k3 _ _ hx₂) hu (Nat.zero_le _) (fun h₄ t1 k4 hx₄ => ?_)
  have kk : ∀ b o, b ≠ x → s.heap.get? b = some o → h₄.get? b = some o := fun b o hb e => k4 b o hb (k3 b o (k2 b o (k b o e)))
  have X₄ : K.In h₄ := fun a o e => kk a o (fun z => by rw [z, hnx] at e; cases e) (X a o e)
  have hxL : s.heap.objs.size ≠ x := Nat.ne_of_gt (Heap.lt_size hx)
  have hn₄ : h₄.Ns s.heap.objs.size _ := (hn₂.keeps k3).at fun o e => k4 _ _ hxL e
  refine ks_wpAt_execs_cons (wpAt_of_wpAny ?_)
  refine plainObj_wpAny_Assign_Attribute ?_
  refine ldC (v := v) hn₄ (by first | rfl | with_unfolding_all rfl | kernel_rfl) (ldC (v := .ref x) hn₄ (by first | rfl | with_unfolding_all rfl | kernel_rfl) ?_)
  refine set_plain X₄ (ox := excO C t1) (od := none) ⟨hx₄, rfl, rfl, trivial⟩ T.sa ?_
  refine exc_osa X₄ hx₄ hcl (show refsVE (.ref C :: bm) = true from hbm) rfl T.noN (fun h₅ tk₅ dx k₅ dn dne hx₅ hn₅ => ?_)
  have z1 : s.heap.objs.size < h₄.objs.size := hn₄.lt
  show _root_.PySem.wpAt _ _ _ (execs [] _) _ _ _
  refine wpAt_of_wpAny (wpAny_execs_nil ?_)
  exact hq h₅ tk₅ dx t1 ⟨fun b o hb e => k₅ b o hb (kk b o hb e), hx₅, Nat.le_of_lt (Nat.lt_of_lt_of_le z1 dn), dne, hn₅⟩
theorem one_size (v : Value) : [v].length ≤ sizeLine := by
  rw [sizeLine_eq]
  exact (by decide : 1 ≤ 16777216)
theorem val_made (T : ValTxt prog K mg cn C fI) {v : Value} {mg' mb : Str → Option Value} (X : K.In s.heap) (hG : s.heap.Ns mainGlobals mg') (hB : s.heap.Ns builtinsNs mb) (hBs : mb "super" = some (.type "super")) (hlim : s.heap.NoLimit) (hroom : A.depth + 1 < recursionLimit)
    (hq : ∀ h' tk e d, OwnMade s.heap h' e C d v → R (.ok (.ret (.ref e))) { s with heap := h', toks := tk }) :
    codeAny (model prog w) A (.call (.ref C) ⟨[v], []⟩) R s := by
  obtain ⟨nm, q, N, bs, bm, sn, sub, ab, col, dd, k0, k1, k2, k3, k5, hC, hbm, hal⟩ := T.cls
  obtain ⟨hp, g, dr, tk, os⟩ := s
  have k : ∀ b o, hp.get? b = some o → ((hp.push (kdv_tup [v])).push (excO C hp.objs.size)).get? b = some o := fun b o e => Heap.get?_push_of_some _ (Heap.get?_push_of_some _ e)
  have hget : ((hp.push (kdv_tup [v])).push (excO C hp.objs.size)).get? (hp.objs.size + 1) = some (excO C hp.objs.size) := by heap_get
  have hnx : K.lookup (hp.objs.size + 1) = none := by
    cases e : K.lookup (hp.objs.size + 1) with
    | none => rfl
    | some o =>
      have z : hp.get? (hp.objs.size + 1) = some o := X _ _ e
      exact absurd (Nat.lt_of_succ_lt (Heap.lt_size z)) (Nat.lt_irrefl _)
  refine call_own F.excBase_ValueError (fun X => refsVE_contains X bm hbm) (X _ _ hC) (looks_findIn X T.iC) (fun self => bind_fn X self T.tC) (one_size v) ?_
  refine val_init (s := ⟨(hp.push (kdv_tup [v])).push (excO C hp.objs.size), g, dr, tk, os⟩) T (X.keeps k) (hG.keeps k) (hB.keeps k) hBs (hlim.keeps k) hget hnx ?_ fun h' tk' dx t1 ⟨k', hx, dn, dne, hns⟩ => ?_
  · show A.depth + 1 < recursionLimit
    exact hroom
  · have old : ∀ b o, hp.get? b = some o → h'.get? b = some o := fun b o e => k' b o (Nat.ne_of_lt (Nat.lt_succ_of_lt (Heap.lt_size e))) (k b o e)
    have z : hp.objs.size + 1 + 1 ≤ dx := by
      first
        | (simpa only [Heap.size_push] using dn)
        | exact dn
        | (have q := dn; rw [Heap.size_push, Heap.size_push] at q; exact q)
    exact ⟨rfl, hq h' tk' (hp.objs.size + 1) dx ⟨old, Nat.le_succ _, ⟨_, _, hx, rfl, rfl, rfl, rfl⟩, Nat.le_trans (Nat.le_trans (Nat.le_succ _) (Nat.le_succ _)) z, dne, hns⟩⟩
end
end Kex
end PySem
namespace L2
open PySem PySem.Spec PyProof.Rows
theorem relO_val {v : V} {v' : Value} (r : RelV v v') (f : Str) : RelO (List.lookup f [(("value" : Str), v)]) (if f = "value" then some v' else none) := by
  by_cases hw : f = "value"
  · subst hw
    rw [if_pos rfl]
    have q : List.lookup ("value" : Str) [(("value" : Str), v)] = some v := by simp [List.lookup]
    rw [q]
    exact r
  · rw [if_neg hw]
    have qw : (f == ("value" : Str)) = false := by simpa using hw
    have q2 : List.lookup f [(("value" : Str), v)] = none := by simp [List.lookup, qw]
    rw [q2]
    trivial
section
variable {X : Cx} {cn : Str} {C fI : Addr}
/-- Cn(e) -/
def tMkV (C : Addr) (ta : TA) : St → Hp → XK → Prop := fun σ H Q => ta σ H fun vs H1 => ∃ v, vs = [v] ∧ ∀ d, H1 d = none → Q (.ref C) (some d) (upd H1 d (.xd [(("value" : Str), v)]))
theorem pmk_val {a : Expr} {ta : TA} {p pos : Pos} {k : Nat} (T : PySem.Kex.ValTxt X.prog X.K X.mg cn C fI) (hr : Room k X.A) (ha : PA X [a] ta) (hg : Gl X cn)
    (hd : (cn == ("__debug__" : Str)) = false) (he : starEach (a :: []) X.env = (false, eval a X.env) :: starEach [] X.env := by rfl) (hpl : (backTo pos (starEach [] X.env)).any (·.1) = false := by rfl) :
    PMk X (.Call (.Name cn p) [a] [] pos) (tMkV C ta) := by
  intro pins s σ H Q I h
  refine wpAny_Call_Name_kw (ld_glob I hg T.gC ?_ hd)
  refine PySem.W.callWith_K (h₀ := X.base) I.ok.mod.kin T.kC (thn (ha.run pos pins s σ H _ I h) fun us s1 hh => ?_) he hpl
  obtain ⟨vs, H1, I1, r1, v, ev, q1⟩ := hh
  subst ev
  refine ⟨I1.kIn, ?_⟩
  cases r1 with
  | cons rv rn =>
    rename_i v' us'
    cases rn
    show wpAny _ _ (call (.ref C) [v']) _ _ _
    have hlim := I1.nolimit
    obtain ⟨mb, hb1, hb2⟩ := I1.mod.blt
    have hG := I1.mod.glob.keeps I1.bk
    have hB := hb1.keeps I1.bk
    obtain ⟨hp, g, dr, tk, os⟩ := s1
    refine wpAny_call (PySem.Kex.val_made T I1.kIn hG hB ((hb2 _ (by decide)).trans (by rfl)) hlim (by have := hr.dp; omega) fun h' tk' e d M => ?_)
    show MkP X pins σ Q (.ref e) ⟨h', g, dr, tk', os⟩
    obtain ⟨oe, fv, hoe, hc, hd, hdat, h1⟩ := M.obj
    have hns := M.ns
    obtain ⟨G', g1, g2⟩ := restrict h' fun b => decide (b ≠ e)
    have gk : ∀ b, b ≠ e → G'.get? b = h'.get? b := fun b hb => g1 b (decide_eq_true hb)
    have ge : G'.get? e = none := g2 e (by simp)
    have old : ∀ b o, hp.get? b = some o → G'.get? b = some o := fun b o q => (gk b (Nat.ne_of_lt (Nat.lt_of_lt_of_le (Heap.lt_size q) M.new))).trans (M.keep b o q)
    have ob : ObjOk X.prog X.w (upd H1 d (.xd [(("value" : Str), v)])) G' d (.xd [(("value" : Str), v)]) :=
      ⟨_, hns.at (fun o q => (gk d M.dne).trans q), fun f => relO_val rv f⟩
    have J : Inv X pins σ (upd H1 d (.xd [(("value" : Str), v)])) ⟨G', g, dr, tk', os⟩ := I1.laid (t' := tk') old M.dbig ob
    refine ⟨e, oe, fv, ⟨G', g, dr, tk', os⟩, _, .ref C, some d, rfl, J, fun b o q => ?_, ge, hoe, ⟨hc, hd⟩, hdat, h1, ?_, rfl, I1.bare, raises_own T.exC T.tyC, q1 d (I1.hok.fresh M.dbig)⟩
    · by_cases hb : b = e
      · have q' : G'.get? b = some o := q
        rw [hb, ge] at q'; cases q'
      · exact (gk b hb).symm.trans q
    · rw [upd_ne (Ne.symm M.dne)]
      exact I1.hok.fresh M.new
/-- raise Cn(e) -/
def tRaiseV (C : Addr) (W : WX) (ta : TA) : TS := fun _ σ H => tMkV C ta σ H fun cls d H' => W cls d σ H'
theorem ps_raiseV {a : Expr} {ta : TA} {W : WX} {p pos pos2 : Pos} {k : Nat} (hc : X.calm = true) (T : PySem.Kex.ValTxt X.prog X.K X.mg cn C fI) (hr : Room k X.A) (tk : Takes X W) (ha : PA X [a] ta) (hg : Gl X cn)
    (hd : (cn == ("__debug__" : Str)) = false) (he : starEach (a :: []) X.env = (false, eval a X.env) :: starEach [] X.env := by rfl) (hpl : (backTo pos (starEach [] X.env)).any (·.1) = false := by rfl) :
    PS X (.Raise (some (.Call (.Name cn p) [a] [] pos)) none pos2) (tRaiseV C W ta) := ps_raise hc tk (pmk_val T hr ha hg hd he hpl)
/-- e.value, e the exception that the suite holds (at a; its class cls, its dict d) -/
def tByV (C : Addr) (a : Addr) (cls : Value) (d : Option Addr) (te : TE) : TE := fun σ H Q => te σ H fun x H1 => x = .ref a ∧ cls = .ref C ∧ ∃ (dd : Addr) (v : V), d = some dd ∧ H1 dd = some (.xd [(("value" : Str), v)]) ∧ Q v H1
theorem pe_byV {a : Addr} {oe : Obj} {cls : Value} {d : Option Addr} {pn : List (Addr × Obj)} {e : Expr} {te : TE} {pos : Pos} (T : PySem.Kex.ValTxt X.prog X.K X.mg cn C fI) (hz : Zc cls d oe) (hf : ∃ vs, oe.data = .fields vs) (he : PE (X.suite a ((a, oe) :: pn)) e te)
    (hb : attributeBase e "value" X.env (eval e X.env) = eval e X.env := by rfl) :
    PE (X.suite a ((a, oe) :: pn)) (.Attribute e "value" pos) (tByV C a cls d te) := by
  refine ⟨fun pins s σ H Q I h => ?_⟩
  refine attr_of hb (thn (he.run pins s σ H _ I h) fun u s1 hh => ?_)
  obtain ⟨x, H1, I1, rx, ex, ec, dd, v, ed, ea, q⟩ := hh
  subst ex
  obtain rfl : u = Value.ref a := rx
  subst ec
  subst ed
  obtain ⟨ha, _⟩ := I1.pin (a, oe) (List.mem_append_left _ List.mem_cons_self)
  obtain ⟨vs, hd⟩ := hf
  have hx : ObjOk X.prog X.w H1 s1.heap dd (.xd [(("value" : Str), v)]) := I1.hok dd _ ea
  obtain ⟨mA, hns, hr⟩ := hx
  obtain ⟨od, ho, hl⟩ := lookIn_ns hns
  have l : List.lookup ("value" : Str) [(("value" : Str), v)] = some v := by simp [List.lookup]
  obtain ⟨u, hu, ru⟩ := RelO.some_of (v := v) (o := mA "value") (by rw [← l]; exact hr "value")
  have J : PySem.W.InstAt s1.heap a oe C (some od) := ⟨ha, hz.1, by unfold PySem.W.notCls; rw [hd] <;> rfl, by rw [hz.2]; exact ho⟩
  exact HandSPX.exc_get I1.kIn J T.ga T.gg T.exC (PySem.W.findObj_own T.hdC T.noN rfl (by rw [hl, hu])) (handed_of ru) ⟨v, H1, I1.tok _, ru, q⟩
end
end L2
/-! Kr8: defs that raise, calls of them, try .. except .. as. -/
namespace Kr
open PySem L2
/-- a def that may raise an own error: of the class at C, its value d -/
def spX (pre : List D → Prop) (R : List D → D → Prop) (ex : List D → Addr → D → Prop) : Sp := fun vs H Q E => ∃ (Z : List Addr) (ds : List D), (∀ a ∈ Z, H a ≠ none) ∧ RpA (Off Z H) vs ds ∧ pre ds ∧ (∀ v d H', R ds d → Same H H' → Rp (Off Z H') v d → Q v H') ∧
  ∀ (C : Addr) (d : D) (dd : Addr) (v : V) (H' : Hp), ex ds C d → Same H H' → Off Z H' dd = some (.xd [(("value" : Str), v)]) → Rp (Off Z H') v d → E (.ref C) (some dd) H'
structure ConX (P : Program) (w : World) (K : PySem.W.Frag) (mg : Str → Option Value) (base : Heap) (x : Str) (ps : List Str) (k : Nat) (sp : Sp) : Prop where
  ex : ∃ (f : Addr) (fd : FuncData), mg x = some (.ref f) ∧ PySem.W.keepIn K (.ref f) = true ∧ Binds K fd ps [] ∧ FnOk P w K mg base (L2.CX P w) k f fd ps sp
section
variable {X : Cx} {x : Str} {ps : List Str} {k : Nat} {sp : Sp} {p pos : Pos} {e : Expr} {es : List Expr} {t : TA} {W : WX} {E : XK}
theorem pe_conW (c : ConX X.prog X.w X.K X.mg X.base x ps k sp) (hr : Room k X.A) (tk : Takes X W) (hg : Gl X x) (ha : PA X (e :: es) t) (hdb : (x == ("__debug__" : Str)) = false := by decide)
    (he : starEach (e :: es) X.env = (false, eval e X.env) :: starEach es X.env := by rfl) (hpl : (backTo pos (starEach es X.env)).any (·.1) = false := by rfl) : PE X (.Call (.Name x p) (e :: es) [] pos) (tCallSD sp [] (WE W) t) := by
  obtain ⟨f, fd, g, kp, b, F⟩ := c.ex
  have : tCallSD sp [] (WE W) t = tCallS sp (WE W) t := by
    funext σ H Q
    unfold tCallSD tCallS
    congr 1
    funext vs H1
    rw [List.append_nil]
  rw [this]
  exact pe_callS F hr hg g kp b (fun σ => passAt tk σ) ha hdb he hpl
theorem pe_conX (c : ConX X.prog X.w X.K X.mg X.base x ps k sp) (hr : Room k X.A) (tk : Takes X fun cls d _ H => E cls d H) (hg : Gl X x) (ha : PA X (e :: es) t) (hdb : (x == ("__debug__" : Str)) = false := by decide)
    (he : starEach (e :: es) X.env = (false, eval e X.env) :: starEach es X.env := by rfl) (hpl : (backTo pos (starEach es X.env)).any (·.1) = false := by rfl) : PE X (.Call (.Name x p) (e :: es) [] pos) (tCall sp [] E t) :=
  pe_conW (W := fun cls d _ H => E cls d H) c hr tk hg ha hdb he hpl
end
section
variable {P : Program} {w : World} {K : PySem.W.Frag} {mg : Str → Option Value} {base : Heap} {x : Str} {st : Stmt} {N ps : List Str} {k : Nat} {pre : List D → Prop} {R : List D → D → Prop} {ex : List D → Addr → D → Prop}
theorem conX (h : DefAt K mg x st ps) (S : FnScope N ps (defScope st)) (len : ∀ ds, pre ds → ds.length = ps.length)
    (hbody : ∀ (f : Addr) (cdv : Value) (A : Around) (outer : List PySem.Env) (s : Shared) (H : Hp) (E : XK), Room k (A.deeper (PyProof.Rows.envOfC x (defScope st) s.heap.objs.size f cdv)) →
      ∃ t, PSs (cxOf (L2.CX P w) P w K mg base N x (defScope st) f cdv A outer s H E) (defBody st) t ∧ ∀ ds, pre ds → dS E (ex ds) t (slots N ds) (Po.of (R ds))) : ConX P w K mg base x ps (k + 1) (spX pre R ex) := by
  obtain ⟨f, fd, F, g, b⟩ := h.ex
  refine ⟨f, fd, g, F.kp, b, ?_⟩
  refine F.okX S (fun vs H Q E h => ?_) (fun cdv A outer s H vs Q E hr h => ?_)
  · obtain ⟨Z, ds, _, r, hp, _⟩ := h
    rw [r.length]
    exact len ds hp
  · obtain ⟨Z, ds, live, r, hp, q, qx⟩ := h
    obtain ⟨t, ht, hd⟩ := hbody f cdv A outer s H E hr
    refine ⟨t, ht, ?_⟩
    have en := entry (N := N) (Z := []) (A0 := Z) (fun a h => by cases h) live r
    have fin : ∀ {A' : List Addr} {σ' : L2.St} {H' : Hp} {G' : List Sl}, Env ⟨[], Z, Off Z H, H⟩ [] A' σ' H' G' → Same H H' := fun {A' σ' H' G'} e => by
      have a := e.all
      rw [off_nil, off_nil] at a
      exact a
    have wish : Wish ⟨[], Z, Off Z H, H⟩ E (ex ds) := fun C d dd v H' he _ hz _ hd hr => qx C d dd v H' he (by
      have a : Same (Off [] H) (Off [] H') := hz
      rw [off_nil, off_nil] at a
      exact a) hd hr
    exact hd ds hp ⟨[], Z, Off Z H, H⟩ Z _ H _ en wish (fun A' σ' H' G' z e => q _ .non H' z (fin e) .non) (fun _ _ _ _ z _ => z.elim) (fun _ _ _ _ z _ => z.elim) fun d v A' σ' H' G' z e r => q v d H' z (fin e) r
end
section
variable {E : XK} {ex : Addr → D → Prop} {f : Bool} {G : List Sl} {te : TE} {Q : D → List Sl → Prop} {tr : TA} {i : Nat} {pre : List D → Prop} {R : List D → D → Prop} {ex0 : List D → Addr → D → Prop} {P : Po} {d : D}
theorem dE_callX (h : dA E ex f tr G fun ds G1 => pre ds ∧ (∀ d, R ds d → Q d G1) ∧ ∀ C d, ex0 ds C d → ex C d) : dE E ex f (tCall (spX pre R ex0) [] E tr) G Q := fun β T A σ H Qv en w k => by
  refine h β T A σ H _ en w fun ds us H1 G1 ⟨hp, q, qx⟩ en1 s1 r1 => ?_
  rw [List.append_nil]
  have live : ∀ {H2 : Hp}, Same H1 H2 → ∀ a ∈ β.A0, H2 a ≠ none := fun {H2} g a ha z => by
    cases e : H1 a with
    | none => exact en1.live a (en1.a0A a ha) e
    | some o => rw [g _ _ e] at z; cases z
  cases f with
  | true => exact ⟨T ++ A, ds, en1.live, r1, hp, fun v d H2 hR g r => k d v H2 G1 (q d hR) (en1.grow g) (s1.trans (off_same g)) r,
      fun C d dd v H2 he g hd r => w C d dd v H2 (qx C d he) ((en1.base.trans en1.up).trans (off_same g)) (en1.all.trans (off_same g)) (live g) ((off_le en1.a0A) _ _ hd) (r.mono (off_le en1.a0A))⟩
  | false => exact ⟨β.A0, ds, fun a ha => en1.live a (en1.a0A a ha), r1, hp, fun v d H2 hR g r => k d v H2 G1 (q d hR) (en1.grow g) (s1.trans (off_same g)) r,
      fun C d dd v H2 he g hd r => w C d dd v H2 (qx C d he) ((en1.base.trans en1.up).trans (off_same g)) (en1.all.trans (off_same g)) (live g) hd r⟩
theorem dS_raise {C : Addr} (h : dA E ex false tr G fun ds _ => ∃ d, ds = [d] ∧ ex C d) : dS E ex (tRaiseV C (fun cls d _ H => E cls d H) tr) G P := fun β A σ H Dn en w _ _ _ _ => by
  refine h β [] A σ H _ en w fun ds vs H1 G1 ⟨d, e, hx⟩ en1 s1 r1 => ?_
  subst e
  cases r1 with
  | cons r rs =>
    cases rs
    rename_i v
    refine ⟨v, rfl, fun dd hn => ?_⟩
    have g : Same H1 (upd H1 dd (.xd [(("value" : Str), v)])) := fun b x z => by rw [upd_ne (ne_of_none z hn)]; exact z
    have hA : dd ∉ β.A0 := fun z => en1.live dd (en1.a0A dd z) hn
    refine w C d dd v _ hx ((en1.base.trans en1.up).trans (off_same g)) (en1.all.trans (off_same g)) (fun a ha z => ?_) (off_of hA upd_same) (Rp.mono (off_same g) (show Rp (Off β.A0 H1) v d from r))
    cases e : H1 a with
    | none => exact en1.live a (en1.a0A a ha) e
    | some o => rw [g _ _ e] at z; cases z
/-- what the error that is held carries -/
theorem dE_byV {C a dd : Addr} (h : G[i]? = some (.exc a dd d)) (q : Q d G) : dE E ex f (tByV C a (.ref C) (some dd) (tVar i)) G Q := fun β T A σ H Qv en w k => by
  obtain ⟨o, h1, rfl, v, h2, h3⟩ := en.ok i _ h
  exact ⟨_, h1, rfl, rfl, dd, v, rfl, (off_some h2).2, k d v H G q en (Same.refl _) (h3.mono en.upf)⟩
/-- behind an error that was caught, what one owned is lost sight of -/
def Sl.rest : Sl → Sl
  | .own _ => .any
  | .pur _ _ => .any
  | s => s
theorem dS_try {K : PySem.W.Frag} {C0 : Addr} {ts : Addr → Value → Option Addr → TS} {Wout : WX} {tb : WX → TS} {tb' : XK → TS} {ex1 : Addr → D → Prop} (htb : ∀ W D σ H, tb W D σ H = tb' (WE W σ) D σ H)
    (hcl : ∀ C d, ex1 C d → PySem.W.exmOne K (.ref C) (.ref C0) = some true) (h : ∀ E, dS E ex1 (tb' E) G P)
    (hs : ∀ (C : Addr) (d : D) (a dd : Addr), ex1 C d → dS E ex (ts a (.ref C) (some dd)) ((G.map Sl.rest).set i (.exc a dd d)) { nx := fun G' => P.nx (G'.set i .any), bk := fun G' => P.bk (G'.set i .any), ct := fun G' => P.ct (G'.set i .any), rt := P.rt }) :
    dS E ex (fun D σ H => tb (wAs K (.ref C0) i ts Wout D) D σ H) G P := fun β A σ H Dn en w k1 k2 k3 k4 => by
  show tb _ Dn σ H
  rw [htb]
  refine h _ { β with B := Off ([] ++ A) H } A σ H Dn en.tobase ?_ (fun A' σ' H' G' z e => k1 A' σ' H' G' z (e.rebase en.base)) (fun A' σ' H' G' z e => k2 A' σ' H' G' z (e.rebase en.base)) (fun A' σ' H' G' z e => k3 A' σ' H' G' z (e.rebase en.base))
    fun d v A' σ' H' G' z e r => k4 d v A' σ' H' G' z (e.rebase en.base) r
  intro C d dd v H' he hb hz hl hd hr
  refine ⟨true, hcl C d he, fun _ a _ => ?_, fun z => Bool.noConfusion z⟩
  have hb' : Same (Off ([] ++ A) H) (Off β.A0 H') := hb
  have hl' : ∀ a ∈ β.A0, H' a ≠ none := hl
  have e2 : Env β [] β.A0 (σ.set i (some (.ref a))) H' ((G.map Sl.rest).set i (.exc a dd d)) := by
    refine ⟨by rw [List.length_set, List.length_set, List.length_map]; exact en.len, fun j s hj => ?_, fun j k s s' b h1 h2 o1 o2 _ _ => ?_, en.base.trans hb', fun a h => h, en.zs, fun a ha => hl' a ha, fun a _ z => (by cases z), hz⟩
    · rcases set_get hj with ⟨rfl, rfl, hl2⟩ | ⟨hji, hj⟩
      · refine ⟨some (.ref a), ?_, rfl, v, hd, hr⟩
        rw [List.getElem?_set_self]
        rw [en.len]
        rw [List.length_map] at hl2
        exact hl2
      · rw [List.getElem?_map] at hj
        cases e : G[j]? with
        | none => rw [e] at hj; cases hj
        | some s0 =>
          rw [e] at hj
          have hj := Option.some.inj hj
          obtain ⟨o, q1, q2⟩ := en.ok j s0 e
          refine ⟨o, by rw [List.getElem?_set_ne (Ne.symm hji)]; exact q1, ?_⟩
          subst hj
          cases s0 with
          | any => trivial
          | imm d => obtain ⟨v, h3, h4⟩ := q2; exact ⟨v, h3, h4.mono hb'⟩
          | own ds => trivial
          | pur b n => trivial
          | exc b dd d => obtain ⟨h3, v, h4', h5'⟩ := q2; exact ⟨h3, v, hb' _ _ h4', h5'.mono hb'⟩
    · have no : ∀ {j : Nat} {s : Sl}, ((G.map Sl.rest).set i (.exc a dd d))[j]? = some s → s.isOwn = true → False := fun {j s} hj ho => by
        rcases set_get hj with ⟨rfl, rfl, _⟩ | ⟨_, hj⟩
        · cases ho
        · rw [List.getElem?_map] at hj
          cases e : G[j]? with
          | none => rw [e] at hj; cases hj
          | some s0 =>
            rw [e] at hj
            have hj := Option.some.inj hj
            subst hj
            cases s0 <;> cases ho
      exact (no h1 o1).elim
  exact hs C d a dd he β β.A0 _ H' _ e2 w (fun A' σ' H2 G' z e => k1 A' _ H2 _ z (e.forget none)) (fun A' σ' H2 G' z e => k2 A' _ H2 _ z (e.forget none)) (fun A' σ' H2 G' z e => k3 A' _ H2 _ z (e.forget none))
    fun d v A' σ' H2 G' z e r => k4 d v A' σ' H2 G' z e r
end
end Kr
/-! Kr9: new lists out of defs, identity, borrowed lists, zip, dict walks. -/
namespace Kr
open PySem L2
section
variable {β : Bs} {T A : List Addr} {σ : L2.St} {H H' : Hp} {G : List Sl} {p : Addr} {i : Nat}
/-- a new object among what has come, hidden as a thing in the making -/
theorem Env.tmpS (e : Env β T A σ H G) (g : Same H H') (hp : H p = none) (hn : H' p ≠ none) : Env β (p :: T) A σ H' G := by
  have go : Same (Off (T ++ A) H) (Off ((p :: T) ++ A) H') := fun b x z => by
    obtain ⟨z1, z2⟩ := off_some z
    refine off_of (fun y => ?_) (g _ _ z2)
    rcases List.mem_cons.mp (show b ∈ p :: (T ++ A) from y) with y | y
    · rw [y, hp] at z2; cases z2
    · exact z1 y
  refine ⟨e.len, fun i s h => ?_, e.dis, fun b x z => go _ _ (e.base _ _ z), e.sub, e.zs, fun a ha z => ?_, fun a ha z => ?_, e.all.trans (off_same g)⟩
  · obtain ⟨o, h1, h2⟩ := e.ok i s h
    exact ⟨o, h1, h2.mono (fun _ h => h) (p :: T) go (fun a x _ _ q => g _ _ q) fun a _ x q => g _ _ q⟩
  · rcases List.mem_cons.mp (show a ∈ p :: (T ++ A) from ha) with q | q
    · exact hn (q ▸ z)
    · cases w : H a with
      | none => exact e.live a q w
      | some u => rw [g _ _ w] at z; cases z
  · rcases List.mem_cons.mp z with q | q
    · exact e.live a (List.mem_append_right _ ha) (q ▸ hp)
    · exact e.dj a ha q
/-- the same slots once more, behind what has come -/
theorem Env.again (e : Env β T A σ H G) {A2 : List Addr} {G2 : List Sl} (e2 : Env β T A2 σ H' G2) (g : Sm β H H') (hs : ∀ (j : Nat) (a : Addr) (n : Nat), G[j]? = some (.pur a n) → G2[j]? = some (.pur a n)) : Env β T A σ H' G := by
  refine ⟨e.len, fun j s h => ?_, e.dis, fun b x z => e.vw g _ _ (e.base _ _ z), e.sub, e.zs, fun a ha z => ?_, e.dj, e.all.trans g⟩
  · obtain ⟨o, h1, h2⟩ := e.ok j s h
    refine ⟨o, h1, ?_⟩
    cases s with
    | any => trivial
    | imm d => obtain ⟨v, h3, h4⟩ := h2; exact ⟨v, h3, h4.mono (e.vw g)⟩
    | own ds =>
      obtain ⟨a, xs, h3, h4, h5, h6⟩ := h2
      exact ⟨a, xs, h3, h4, (off_some (g a _ (off_of (fun z => h4.2.1 (e.zs a z)) h5))).2, h6.mono (e.vw g)⟩
    | pur a n =>
      obtain ⟨o', h1', h2'⟩ := e2.ok j _ (hs j a n h)
      rw [h1] at h1'
      cases h1'
      exact h2'
    | exc a dd d => obtain ⟨h3, v, h4, h5⟩ := h2; exact ⟨h3, v, e.vw g _ _ h4, h5.mono (e.vw g)⟩
  · by_cases hz : a ∈ β.Z
    · exact e2.live a (e2.zA a hz) z
    · cases w : H a with
      | none => exact e.live a ha w
      | some u => rw [(off_some (g a _ (off_of hz w))).2] at z; cases z
end
section
variable {E E' : XK} {ex : Addr → D → Prop} {f : Bool} {G : List Sl} {te ta tb : TE} {Q : D → List Sl → Prop} {QB : Bool → List Sl → Prop} {QA : List D → List Sl → Prop} {P : Po} {i j : Nat} {d : D} {tt : TT} {ts tu : TS} {tr : TA} {N : List D → Prop}
/-! ### a def that gives a new list -/
def dSN (E : XK) (ex : Addr → D → Prop) (t : TS) (G : List Sl) (P : Po) (N : List D → Prop) : Prop :=
  ∀ (β : Bs) (A : List Addr) (σ : L2.St) (H : Hp) (D : Ends), Env β [] A σ H G → Wish β E ex →
    (∀ A' σ' H' G', P.nx G' → Env β [] A' σ' H' G' → D.nx σ' H') → (∀ A' σ' H' G', P.bk G' → Env β [] A' σ' H' G' → D.bk σ' H') → (∀ A' σ' H' G', P.ct G' → Env β [] A' σ' H' G' → D.ct σ' H') →
    (∀ d v A' σ' H' G', P.rt d G' → Env β [] A' σ' H' G' → Rp (Off β.A0 H') v d → D.rt v H') →
    (∀ ds p xs A' σ' H' G', N ds → Env β [] A' σ' H' G' → p ∉ β.A0 → β.H0 p = none → H' p = some (.lst xs) → RpA (Off (p :: β.A0) H') xs ds → D.rt (.ref p) H') → t D σ H
theorem dSN_of (h : dS E ex ts G P) : dSN E ex ts G P N := fun β A σ H D en w k1 k2 k3 k4 _ => h β A σ H D en w k1 k2 k3 k4
theorem dSN_seq (h : dS E ex ts G { P with nx := fun G' => dSN E ex tu G' P N }) : dSN E ex (tSeq ts tu) G P N := fun β A σ H D en w k1 k2 k3 k4 k5 =>
  h β A σ H { D with nx := tu D } en w (fun A' σ' H' G' q en' => q β A' σ' H' D en' w k1 k2 k3 k4 k5) k2 k3 k4
theorem dSN_retO {ds : List D} (i : Nat) (hi : G[i]? = some (.own ds)) (n : N ds) : dSN E ex (tRet (tVar i)) G P N := fun β A σ H D en w k1 k2 k3 k4 k5 => by
  obtain ⟨p, xs, h1, hA, h0, hp, r⟩ := en.at hi
  refine ⟨_, h1, k5 ds p xs A σ H G n en h0.1 h0.2 hp (r.mono (off_le fun a ha => ?_))⟩
  rcases List.mem_cons.mp ha with z | z
  · exact List.mem_append_right _ (z ▸ hA)
  · exact List.mem_append_right _ (en.sub a z)
theorem dSN_retL (h : dL E ex te G fun ds _ => N ds) : dSN E ex (tRet te) G P N := fun β A σ H D en w k1 k2 k3 k4 k5 =>
  h β [] A σ H _ en w fun ds p xs H1 G1 n hp h0 en1 s1 e1 r1 => k5 ds p xs A σ H1 G1 n en1.untmp (fun z => hp (en.sub p z)) h0 e1 (r1.mono (off_le fun a ha => by
    rcases List.mem_cons.mp ha with z | z
    · rw [z]; exact List.mem_cons_self
    · exact List.mem_cons_of_mem _ (en.sub a z)))
def spL (pre : List D → Prop) (R : List D → List D → Prop) : Sp := fun vs H Q _ => ∃ (Z : List Addr) (ds : List D), (∀ a ∈ Z, H a ≠ none) ∧ RpA (Off Z H) vs ds ∧ pre ds ∧ ∀ es p xs H', R ds es → Same H H' → H p = none → H' p = some (.lst xs) → RpA (Off (p :: Z) H') xs es → Q (.ref p) H'
def poNo : Po := { nx := fun _ => False, bk := fun _ => False, ct := fun _ => False, rt := fun _ _ => False }
/-- a def, what it promises, and its text -/
structure ConE (P : Program) (w : World) (K : PySem.W.Frag) (mg : Str → Option Value) (base : Heap) (x : Str) (st : Stmt) (ps : List Str) (k : Nat) (sp : Sp) : Prop where
  ex : ∃ (f : Addr) (fd : FuncData), Fun K x x st f fd ∧ mg x = some (.ref f) ∧ Binds K fd ps [] ∧ FnOk P w K mg base CX0 k f fd ps sp
theorem ConE.con {P : Program} {w : World} {K : PySem.W.Frag} {mg : Str → Option Value} {base : Heap} {x : Str} {st : Stmt} {ps : List Str} {k : Nat} {sp : Sp} (c : ConE P w K mg base x st ps k sp) : Con P w K mg base x ps k sp := by
  obtain ⟨f, fd, F, g, b, h⟩ := c.ex
  exact ⟨f, fd, g, F.kp, b, h⟩
theorem conLE {P : Program} {w : World} {K : PySem.W.Frag} {mg : Str → Option Value} {base : Heap} {x : Str} {st : Stmt} {N ps : List Str} {k : Nat} {pre : List D → Prop} {R : List D → List D → Prop} (h : DefAt K mg x st ps) (S : FnScope N ps (defScope st)) (len : ∀ ds, pre ds → ds.length = ps.length)
    (hbody : ∀ (f : Addr) (cdv : Value) (A : Around) (outer : List PySem.Env) (s : Shared) (H : Hp) (E : XK), Room k (A.deeper (PyProof.Rows.envOfC x (defScope st) s.heap.objs.size f cdv)) →
      ∃ t, PSs (cxOf CX0 P w K mg base N x (defScope st) f cdv A outer s H E).nox (defBody st) t ∧ ∀ ds, pre ds → dSN E0 (fun _ _ => False) t (slots N ds) poNo (R ds)) : ConE P w K mg base x st ps (k + 1) (spL pre R) := by
  obtain ⟨f, fd, F, g, b⟩ := h.ex
  refine ⟨f, fd, F, g, b, ?_⟩
  refine F.ok S (fun vs H Q E h => ?_) (fun cdv A outer s H vs Q E hr h => ?_)
  · obtain ⟨Z, ds, _, r, hp, _⟩ := h
    rw [r.length]
    exact len ds hp
  · obtain ⟨Z, ds, live, r, hp, q⟩ := h
    obtain ⟨t, ht, hd⟩ := hbody f cdv A outer s H E hr
    refine ⟨t, ht, ?_⟩
    have en := entry (N := N) (Z := []) (A0 := Z) (fun a h => by cases h) live r
    have fin : ∀ {A' : List Addr} {σ' : L2.St} {H' : Hp} {G' : List Sl}, Env ⟨[], Z, Off Z H, H⟩ [] A' σ' H' G' → Same H H' := fun {A' σ' H' G'} e => by
      have a := e.all
      rw [off_nil, off_nil] at a
      exact a
    exact hd ds hp ⟨[], Z, Off Z H, H⟩ Z _ H _ en (fun _ _ _ _ _ z => z.elim) (fun _ _ _ _ z _ => z.elim) (fun _ _ _ _ z _ => z.elim) (fun _ _ _ _ z _ => z.elim) (fun _ _ _ _ _ _ z _ _ => z.elim)
      fun es p xs A' σ' H' G' n e hz h0 hp' r' => q es p xs H' n (fin e) h0 hp' r'
theorem conL {P : Program} {w : World} {K : PySem.W.Frag} {mg : Str → Option Value} {base : Heap} {x : Str} {st : Stmt} {N ps : List Str} {k : Nat} {pre : List D → Prop} {R : List D → List D → Prop} (h : DefAt K mg x st ps) (S : FnScope N ps (defScope st)) (len : ∀ ds, pre ds → ds.length = ps.length)
    (hbody : ∀ (f : Addr) (cdv : Value) (A : Around) (outer : List PySem.Env) (s : Shared) (H : Hp) (E : XK), Room k (A.deeper (PyProof.Rows.envOfC x (defScope st) s.heap.objs.size f cdv)) →
      ∃ t, PSs (cxOf CX0 P w K mg base N x (defScope st) f cdv A outer s H E).nox (defBody st) t ∧ ∀ ds, pre ds → dSN E0 (fun _ _ => False) t (slots N ds) poNo (R ds)) : Con P w K mg base x ps (k + 1) (spL pre R) := (conLE h S len hbody).con
theorem dL_callL {pre : List D → Prop} {R : List D → List D → Prop} (h : dA E ex true tr G fun ds G1 => pre ds ∧ ∀ es, R ds es → QA es G1) : dL E ex (tCall (spL pre R) [] E' tr) G QA := fun β T A σ H Qv en w k => by
  refine h β T A σ H _ en w fun ds us H1 G1 ⟨hp, q⟩ en1 s1 r1 => ?_
  rw [List.append_nil]
  refine ⟨T ++ A, ds, en1.live, r1, hp, fun es p xs H2 hR g hn hx r => ?_⟩
  exact k es p xs H2 G1 (q es hR) (fun z => en1.live p z hn) (en1.fresh0 hn) (en1.tmpS g hn (by rw [hx]; simp)) (s1.trans (off_same g)) hx r
/-! ### borrowed, forgotten, told apart -/
/-- a list of one's own, looked at by a test that changes nothing -/
theorem dT_borrow {ds : List D} (i : Nat) (hi : G[i]? = some (.own ds)) (h : dT E ex tt (G.set i (.imm (.lst ds))) fun b G' => G' = G.set i (.imm (.lst ds)) ∧ QB b G) : dT E ex tt G QB := fun β T A σ H Qv en w k => by
  obtain ⟨A', en', _⟩ := en.freeze hi
  refine h β T A' σ H _ en' w fun b H' G' ⟨e, q⟩ en2 s2 => k b H' G q (en.again en2 s2 fun j a n hj => ?_) s2
  rw [e, List.getElem?_set_ne (fun z => ?_)]
  · exact hj
  · rw [← z, hi] at hj; cases hj
/-- told without its place, for a test that changes nothing -/
theorem dT_un {a : Addr} (i : Nat) (hi : G[i]? = some (.imm (.is a d))) (h : dT E ex tt (G.set i (.imm d)) fun b G' => G' = G.set i (.imm d) ∧ QB b G) : dT E ex tt G QB := fun β T A σ H Qv en w k => by
  obtain ⟨v, h1, r⟩ := en.get hi
  cases r with
  | is r =>
    have en' : Env β T A σ H (G.set i (.imm d)) := by
      have := en.set (i := i) r
      have hs : σ.set i (some (V.ref a)) = σ := by
        refine List.ext_getElem? fun j => ?_
        by_cases hj : i = j
        · subst hj
          rw [List.getElem?_set_self (List.getElem?_eq_some_iff.mp h1).1, h1]
        · rw [List.getElem?_set_ne hj]
      rw [hs] at this
      exact this
    refine h β T A σ H _ en' w fun b H' G' ⟨e, q⟩ en2 s2 => k b H' G q (en.again en2 s2 fun j a n hj => ?_) s2
    rw [e, List.getElem?_set_ne (fun z => ?_)]
    · exact hj
    · rw [← z, hi] at hj; cases hj
/-- told as something weaker, for a test that changes nothing -/
theorem dT_as {d' : D} (i : Nat) (hi : G[i]? = some (.imm d)) (hw : ∀ F v, Rp F v d → Rp F v d') (h : dT E ex tt (G.set i (.imm d')) fun b G' => G' = G.set i (.imm d') ∧ QB b G) : dT E ex tt G QB := fun β T A σ H Qv en w k => by
  obtain ⟨v, h1, r⟩ := en.get hi
  have en' : Env β T A σ H (G.set i (.imm d')) := by
    have := en.set (i := i) (hw _ _ r)
    have hs : σ.set i (some v) = σ := by
      refine List.ext_getElem? fun j => ?_
      by_cases hj : i = j
      · subst hj
        rw [List.getElem?_set_self (List.getElem?_eq_some_iff.mp h1).1, h1]
      · rw [List.getElem?_set_ne hj]
    rw [hs] at this
    exact this
  refine h β T A σ H _ en' w fun b H' G' ⟨e, q⟩ en2 s2 => k b H' G q (en.again en2 s2 fun j a n hj => ?_) s2
  rw [e, List.getElem?_set_ne (fun z => ?_)]
  · exact hj
  · rw [← z, hi] at hj; cases hj
def D.boxed : D → Bool
  | .lst _ => true
  | .tup _ => true
  | .dic _ _ => true
  | .ins _ _ _ => true
  | _ => false
/-- told by its place, too -/
theorem dS_is (i : Nat) (hi : G[i]? = some (.imm d)) (hb : d.boxed = true) (h : ∀ a, dS E ex ts (G.set i (.imm (.is a d))) P) : dS E ex ts G P := fun β A σ H D en w k1 k2 k3 k4 => by
  obtain ⟨v, h1, r⟩ := en.get hi
  have key : ∃ a, v = V.ref a := by cases r <;> first | exact ⟨_, rfl⟩ | cases hb
  obtain ⟨a, rfl⟩ := key
  have en' := en.set (i := i) (Rp.is r)
  have hs : σ.set i (some (V.ref a)) = σ := by
    refine List.ext_getElem? fun j => ?_
    by_cases hj : i = j
    · subst hj
      rw [List.getElem?_set_self (List.getElem?_eq_some_iff.mp h1).1, h1]
    · rw [List.getElem?_set_ne hj]
  rw [hs] at en'
  exact h a β A σ H D en' w k1 k2 k3 k4
/-- x, y = a new list, e -/
theorem dS_parO (hij : i ≠ j) (h : dL E ex ta G fun ds G1 => dE E ex true tb G1 fun d G2 => P.nx ((G2.set i (.own ds)).set j (.imm d))) : dS E ex (tPar i j (tCons ta (tCons tb tNil))) G P := fun β A σ H Dn en w k1 _ _ _ => by
  unfold tPar tCons tNil
  refine h β [] A σ H _ en w fun ds p xs H1 G1 q hp h0 en1 s1 e1 r1 => ?_
  refine q β [p] A σ H1 _ en1 w fun d v H2 G2 q2 en2 s2 r2 => ?_
  refine ⟨_, _, rfl, ?_⟩
  have pZ : p ∉ β.Z := fun z => hp (List.mem_append_right _ (en1.sub p (en1.zs p z)))
  have e2 : H2 p = some (.lst xs) := (off_some (s2 p _ (off_of pZ e1))).2
  have en3 := en2.own (i := i) e2 hp h0 (r1.mono (en1.vw s2))
  have go : Same (Off ([p] ++ A) H2) (Off ([] ++ (p :: A)) H2) := Same.refl _
  exact k1 (p :: A) _ H2 _ q2 (en3.set (i := j) (Rp.mono go r2))
/-! ### a list of one's own changes -/
def rInsertA : V → List V → Hp → VK → Prop := fun x vs H Q => ∃ (l : Addr) (xs : List V) (i : Int) (y : V), x = .ref l ∧ vs = [.int i, y] ∧ H l = some (.lst xs) ∧ xs.length < sizeLine ∧ 0 ≤ i ∧ i < 2 ^ 63 ∧
    Q .non (upd H l (.lst (xs.take i.toNat ++ [y] ++ xs.drop i.toNat)))
theorem mt_insertA {X : Cx} : MtR X "list.insert" rInsertA := mt_insert
theorem dS_insert {K : PySem.W.Frag} (h0 : ∃ ds, G[i]? = some (.own ds)) (h : dA E ex true tr G fun es G' => ∃ (n : Nat) (d : D) (ds : List D), es = [.int (n : Int), d] ∧ G'[i]? = some (.own ds) ∧ n ≤ 1000000 ∧ ds.length < 1000000 ∧ P.nx (G'.set i (.own (ds.take n ++ [d] ++ ds.drop n)))) :
    dS E ex (tDrop (tBM K "list" rInsertA (tVar i) tr)) G P := fun β A σ H Dn en w k1 _ _ _ => by
  obtain ⟨ds0, h0⟩ := h0
  obtain ⟨p, xs, h1, hA, hn, hp, r⟩ := en.at h0
  refine ⟨_, h1, .inl ⟨rfl, xs, .inl (.inl hp)⟩, ?_⟩
  refine h β [] A σ H _ en w fun es vs H1 G1 ⟨n, d, ds, ee, hi, hn2, hl, q⟩ en1 s1 r1 => ?_
  subst ee
  cases r1 with
  | cons rn r1 =>
    cases rn
    cases r1 with
    | cons rv rn =>
      cases rn
      obtain ⟨p', xs', h1', hA', hn', hp', r'⟩ := en1.at hi
      rw [h1] at h1'
      cases h1'
      refine ⟨p, xs', (n : Int), _, rfl, rfl, hp', ?_, by omega, by omega, ?_⟩
      · rw [r'.length, sizeLine_eq]; omega
      · exact k1 A σ _ _ q (en1.put hi h1 hA' hn' (((r'.take n).append (.one rv)).append (r'.drop n)))
/-- xs[k] = e -/
theorem dS_setAt {ti : TE} (h0 : ∃ ds, G[i]? = some (.own ds)) (h : dE E ex true te G fun d G1 => (∃ ds, G1[i]? = some (.own ds)) ∧ dE E ex false ti G1 fun y G2 => ∃ (n : Int) (k : Nat) (ds : List D), y = .int n ∧ G2[i]? = some (.own ds) ∧ ixN ds.length n = some k ∧ P.nx (G2.set i (.own (ds.set k d)))) : dS E ex (tAsg te (gSub (tVar i) ti rSetL)) G P := fun β A σ H Dn en w k1 _ _ _ => by
  refine h β [] A σ H _ en w fun d v H1 G1 ⟨⟨ds1, hi1⟩, q⟩ en1 s1 r1 => ?_
  obtain ⟨p, xs, h1, hA, hn, hp, r⟩ := en1.at hi1
  refine ⟨_, h1, ?_⟩
  refine q β [] A σ H1 _ en1 w fun y u H2 G2 ⟨n, k, ds, ey, hi, hk, q2⟩ en2 s2 r2 => ?_
  subst ey
  cases r2
  obtain ⟨p', xs', h1', hA', hn', hp', r'⟩ := en2.at hi
  rw [h1] at h1'
  cases h1'
  refine ⟨p, xs', n, k, rfl, rfl, hp', by rw [r'.length]; exact hk, ?_⟩
  exact k1 A σ _ _ q2 (en2.put hi h1 hA' hn' (r'.set (Rp.mono (en1.vw s2) r1) k))
theorem od_neg {n : Int} : UnD (rU fun i => .int (-i)) (.int n) (.int (-n)) := fun H F u k g r q => by
  cases r
  exact ⟨n, rfl, q _ fun _ => .int _⟩
/-! ### zip -/
theorem dI_zip {K : PySem.W.Frag} (h : dA E ex true tr G fun xs G' => ∃ ds es, ((xs = [.lst ds, .lst es]) ∨ xs = [.tup ds, .tup es]) ∧ ds.length = es.length ∧ QA ((ds.zip es).map fun z => .tup [z.1, z.2]) G') : dI E ex (RZ.iZipA K tr) G QA := fun β T A σ H R en w k => by
  refine h β T A σ H _ en w fun xs us H1 G1 ⟨ds, es, e, hl, q⟩ en1 s1 r1 => ?_
  have mk : ∀ {F : Hp} {a b : Addr} {xs ys : List V} (J : It), RpA F xs ds → RpA F ys es → (∀ i H, i < ds.length → Same F H → J.go i H) → (∀ H, Same F H → J.stop ds.length H) →
      (∀ i H v H', i < ds.length → Same F H → J.yld i H v H' → ∃ T x y, v = .ref T ∧ H T = none ∧ H' = upd H T (.tup [x, y]) ∧ xs[i]? = some x ∧ ys[i]? = some y) → DW F J ((ds.zip es).map fun z => .tup [z.1, z.2]) := fun {F a b xs ys} J ra rb g1 g2 g3 => by
    have hlen : ((ds.zip es).map fun z => D.tup [z.1, z.2]).length = ds.length := by rw [List.length_map, List.length_zip]; omega
    refine ⟨fun i H hi g => g1 i H (by rw [hlen] at hi; exact hi) g, fun H g => by rw [hlen]; exact g2 H g, fun i H v H' hi g y => ?_⟩
    rw [hlen] at hi
    obtain ⟨T, x, u, rfl, hT, rfl, hx, hy⟩ := g3 i H v H' hi g y
    obtain ⟨d, hd, rd⟩ := ra.getV hx
    obtain ⟨e, he, re⟩ := rb.getV hy
    refine ⟨.tup [d, e], ?_, same_new hT, fun Z hz gz => ?_⟩
    · rw [List.getElem?_map, List.getElem?_zip_eq_some.mpr (show ds[i]? = some (d, e).1 ∧ es[i]? = some (d, e).2 from ⟨hd, he⟩)]
      rfl
    · have go : Same F (Off Z (upd H T (.tup [x, u]))) := gz.trans (off_new hT)
      exact .tup (off_of (fun z => hz T z hT) upd_same) (.cons (rd.mono go) (.cons (re.mono go) .nil))
  rcases e with rfl | rfl
  · cases r1 with
    | cons ra rn =>
      cases rn with
      | cons rb rn =>
        cases rn
        cases ra with
        | @lst a xs _ ha ra =>
          cases rb with
          | @lst b ys _ hb rb =>
            have sq : ∀ {H}, Same (Off (T ++ A) H1) H → SqL K H a xs := fun g => .inl (.inl (g _ _ ha))
            have sq' : ∀ {H}, Same (Off (T ++ A) H1) H → SqL K H b ys := fun g => .inl (.inl (g _ _ hb))
            refine ⟨a, b, xs, ys, rfl, .inl ⟨sq off_in, sq' off_in, k _ _ H1 G1 q en1 s1 (mk (a := a) (b := b) _ ra rb (fun i H hi g => ?_) (fun H g => ⟨xs, ys, sq g, sq' g, .inl (by rw [ra.length]; exact Nat.le_refl _)⟩) (fun i H v H' hi g y => ?_))⟩⟩
            · obtain ⟨x, hx, _⟩ := ra.get (List.getElem?_eq_getElem hi)
              obtain ⟨y, hy, _⟩ := rb.get (List.getElem?_eq_getElem (show i < es.length by omega))
              exact ⟨xs, ys, x, y, sq g, sq' g, hx, hy⟩
            · obtain ⟨T, x, y, e1, e2, e3, h1, h2⟩ := y
              exact ⟨T, x, y, e1, e2, e3, h1 xs (sq g), h2 ys (sq' g)⟩
  · cases r1 with
    | cons ra rn =>
      cases rn with
      | cons rb rn =>
        cases rn
        cases ra with
        | @tup a xs _ ha ra =>
          cases rb with
          | @tup b ys _ hb rb =>
            have sq : ∀ {H}, Same (Off (T ++ A) H1) H → SqT K H a xs := fun g => .inl (.inl (g _ _ ha))
            have sq' : ∀ {H}, Same (Off (T ++ A) H1) H → SqT K H b ys := fun g => .inl (.inl (g _ _ hb))
            refine ⟨a, b, xs, ys, rfl, .inr ⟨sq off_in, sq' off_in, k _ _ H1 G1 q en1 s1 (mk (a := a) (b := b) _ ra rb (fun i H hi g => ?_) (fun H g => ⟨xs, ys, sq g, sq' g, .inl (by rw [ra.length]; exact Nat.le_refl _)⟩) (fun i H v H' hi g y => ?_))⟩⟩
            · obtain ⟨x, hx, _⟩ := ra.get (List.getElem?_eq_getElem hi)
              obtain ⟨y, hy, _⟩ := rb.get (List.getElem?_eq_getElem (show i < es.length by omega))
              exact ⟨xs, ys, x, y, sq g, sq' g, hx, hy⟩
            · obtain ⟨T, x, y, e1, e2, e3, h1, h2⟩ := y
              exact ⟨T, x, y, e1, e2, e3, h1 xs (sq g), h2 ys (sq' g)⟩
end
section
variable {X : Cx} {x : Str} {st : Stmt} {ps ks : List Str} {k : Nat} {sp : Sp} {p pos : Pos} {kws : List Keyword} {tk : TA}
/-- f(k = v, ..) -/
theorem pe_conK0 (c : ConE X.prog X.w X.K X.mg X.base x st ps k sp) (ks : List Str) (hb : ∀ (kV doc pm : Value) (an : Option Addr) (cdv ct : Value) (ws : List Value), ws.length = ks.length → bindArgs (PySem.W.fnOf x x (defArgs st) (defBody st) (defScope st) .none kV doc pm an cdv ct) ⟨[], ks.zip ws⟩ = pure (ps.zip ws))
    (hr : Room k X.A) (hg : Gl X x) (hkw : PK X kws tk)
    (hall : (backToKw pos (keywordEach kws X.env)).all (·.1.isSome) = true := by rfl) (hks : (backToKw pos (keywordEach kws X.env)).filterMap (·.1) = ks := by rfl) (hdb : (x == ("__debug__" : Str)) = false := by decide)
    (hpl : ((backTo pos (starEach [] X.env)).any (·.1) || (backToKw pos (keywordEach kws X.env)).any (·.1.isNone)) = false := by rfl) :
    PE X (.Call (.Name x p) [] kws pos) (tCallN 0 ks.length sp (fun vs zs => vs ++ zs) E0 tNil tk) := by
  obtain ⟨f, fd, F, g, b, h⟩ := c.ex
  obtain ⟨oc, od, kV, doc, pm, an, cdv, ct, osl, rfl, lk, hcd⟩ := F.ex
  have hkb : KBn X.K (PySem.W.fnOf x x (defArgs st) (defBody st) (defScope st) .none kV doc pm an cdv ct) ps 0 ks (fun us ws => us ++ ws) (fun vs zs => vs ++ zs) := by
    refine ⟨fun s us ws X0 l1 l2 => ?_, fun r1 r2 => r1.append r2⟩
    cases us with
    | nil => exact .of_eq (hb kV doc pm an cdv ct ws l2)
    | cons u us => cases l1
  refine ⟨fun pins s σ H Q I h' => ?_⟩
  refine wpAny_Call_Name_kw (ld_glob I hg g ?_ hdb)
  refine PySem.W.callWith_KW0 (h₀ := X.base) I.ok.mod.kin F.kp hall ?_ hpl
  refine thn (hkw.run pos pins s σ H _ I h') fun ws s2 ⟨zs, H2, I2, rz, l1, l2, q2⟩ => ⟨I2.kIn, ?_⟩
  rw [hks]
  exact run_fnN (us := []) (vs := []) h hr hkb pass0 I2 .nil rz rfl l2 q2
end
section
variable {E E' : XK} {ex : Addr → D → Prop} {f : Bool} {G : List Sl} {QA : List D → List Sl → Prop} {tr : TA}
theorem dL_callK0 {n : Nat} {pre : List D → Prop} {R : List D → List D → Prop} (h : dA E ex true tr G fun ds G1 => ds.length = n ∧ pre ds ∧ ∀ es, R ds es → QA es G1) : dL E ex (tCallN 0 n (spL pre R) (fun vs zs => vs ++ zs) E' tNil tr) G QA := fun β T A σ H Qv en w k => by
  refine h β T A σ H _ en w fun ds us H1 G1 ⟨hl, hp, q⟩ en1 s1 r1 => ?_
  refine ⟨rfl, by rw [r1.length]; exact hl, T ++ A, ds, en1.live, r1, hp, fun es p xs H2 hR g hn hx r => ?_⟩
  exact k es p xs H2 G1 (q es hR) (fun z => en1.live p z hn) (en1.fresh0 hn) (en1.tmpS g hn (by rw [hx]; simp)) (s1.trans (off_same g)) hx r
end
end Kr
/-! Kr10: dicts, classes in a tuple, purses in a list. -/
namespace Kr
open PySem L2
section
variable {K : PySem.W.Frag} {E E' : XK} {ex : Addr → D → Prop} {f : Bool} {G : List Sl} {te ta tb : TE} {Q : D → List Sl → Prop} {QA : List D → List Sl → Prop} {P : Po} {i j : Nat} {d : D} {tr : TA} {ts : TS}
theorem units1 {k : Nat} {A : Around} (r : Room k A) : A.units + 1 < cLine := by
  have := r.un
  omega
/-- isinstance(x, (A, B)) -/
theorem dE_isiT2 {T1 T2 : String} (h1 : T1 = "str" ∨ T1 = "int" ∨ T1 = "bool" ∨ T1 = "list" ∨ T1 = "tuple" ∨ T1 = "dict") (h2 : T2 = "str" ∨ T2 = "int" ∨ T2 = "bool" ∨ T2 = "list" ∨ T2 = "tuple" ∨ T2 = "dict") (h : dE E ex false te G fun d G1 => d.noIns = true ∧ Q (.bl (d.isa T1 || d.isa T2)) G1) :
    dE E ex f (tCB (rIsiT K) (tCons te (tCons (tTup (tCons (tC (.ty T1)) (tCons (tC (.ty T2)) tNil))) tNil))) G Q := fun β T0 A σ H Qv en w k => by
  refine h β T0 A σ H _ en w fun d u H1 G1 ⟨hn, q⟩ en1 s1 r1 => ?_
  refine ⟨by rw [sizeLine_eq]; exact (by decide : 2 ≤ 16777216), fun p hp => ?_⟩
  have g : Same H1 (upd H1 p (.tup [.ty T1, .ty T2])) := same_new hp
  refine ⟨u, p, [.ty T1, .ty T2], .type d.ty, [.type T1, .type T2], d.isa T1 || d.isa T2, rfl, upd_same, .cons (.ty T1) (.cons (.ty T2) .nil), tyx_d (vw_in.trans g) r1 hn, ?_, k _ _ _ G1 q (en1.grow g) (s1.trans (off_same g)) (.bl _)⟩
  unfold PySem.W.kitAny
  rw [kit_d h1 d hn]
  cases d.isa T1 with
  | true => rfl
  | false =>
    show PySem.W.kitAny K (.type d.ty) [.type T2] = _
    unfold PySem.W.kitAny
    rw [kit_d h2 d hn]
    cases d.isa T2 <;> rfl
/-- flat data are equal to themselves -/
theorem od_eqR (h : d.flat = true) : OpD (rEqA K) d d (.bl true) := fun H F u v k g r1 r2 q => by
  cases r1 with
  | non => cases r2; exact .inl ⟨rfl, by rw [decide_eq_true rfl]; exact q _ fun _ => .bl _⟩
  | bl b => cases r2; exact .inl ⟨rfl, by rw [decide_eq_true rfl]; exact q _ fun _ => .bl _⟩
  | int b => cases r2; exact .inl ⟨rfl, by rw [decide_eq_true rfl]; exact q _ fun _ => .bl _⟩
  | str b => cases r2; exact .inl ⟨rfl, by rw [decide_eq_true rfl]; exact q _ fun _ => .bl _⟩
  | _ => cases h
/-- one pair in a dict -/
theorem dE_disp1 {x : Str} {n : Int} (q : Q (.dic [.inr x] [.int n]) G) : dE E ex f (tDisp [(tC (.str x), tC (.int n))]) G Q := fun β T A σ H Qv en w k p hp => by
  refine ⟨upd_same, [(.inr x, .int n)], rfl, (by decide : 1 ≤ 15), ?_⟩
  have e : upd (upd H p (.dK [])) p (.dK (mergeK [] [(.inr x, V.int n)])) = upd H p (.dK [(.inr x, V.int n)]) := by
    funext b
    by_cases hb : b = p
    · rw [hb, upd_same, upd_same]; rfl
    · rw [upd_ne hb, upd_ne hb, upd_ne hb]
  show Qv (.ref p) (upd (upd H p (.dK [])) p (.dK (mergeK [] [(.inr x, V.int n)])))
  rw [e]
  exact k _ _ _ G q (en.grow (same_new hp)) (off_new hp) (.dic (vs := [.int n]) (en.newf hp) rfl rfl (.one (.int n)))
def rDictP (K : PySem.W.Frag) : List V → Hp → VK → Prop := fun xs H Q => ∃ (a : Addr) (ps : List Addr) (kvs : List (Key × V)), xs = [.ref a] ∧ SqL K H a (ps.map V.ref) ∧ Paired (fun p kv => SqT K H p [kV kv.1, kv.2]) ps kvs ∧
    ∀ p, H p = none → Q (.ref p) (upd H p (.dK (mergeK [] kvs)))
theorem call_dictPA {X : Cx} (hc : X.calm = true) : CallR X (.type "dict") (rDictP X.K) := call_dictP hc
theorem zip_back {α γ : Type} : ∀ l : List (α × γ), l = (l.map (·.1)).zip (l.map (·.2))
  | [] => rfl
  | x :: l => by
    rw [List.map_cons, List.map_cons, List.zip_cons_cons, ← zip_back l]
theorem put_val {P1 : V → Prop} {v : V} (hv : P1 v) {k : Key} {l : List (Key × V)} (h : ∀ x ∈ l, P1 x.2) : ∀ x ∈ putK l k v, P1 x.2 := by
  intro x hx
  unfold putK at hx
  split at hx
  · obtain ⟨y, hy, rfl⟩ := List.mem_map.mp hx
    split
    · exact hv
    · exact h y hy
  · rcases List.mem_append.mp hx with z | z
    · exact h x z
    · rw [List.mem_singleton.mp z]; exact hv
theorem merge_val {P1 : V → Prop} : ∀ (m l : List (Key × V)), (∀ x ∈ m, P1 x.2) → (∀ x ∈ l, P1 x.2) → ∀ x ∈ mergeK l m, P1 x.2
  | [], l, _, h => h
  | y :: m, l, hm, h => merge_val m (putK l y.1 y.2) (fun x hx => hm x (List.mem_cons_of_mem _ hx)) (put_val (hm y List.mem_cons_self) h)
/-- dict(xs), xs pairs of a key and a one -/
theorem dE_dictP (h : dA E ex true tr G fun xs G1 => ∃ ks : List Key, xs = [.lst (ks.map fun k => .tup [kD k, .int 1])] ∧ ∀ ks' ds', ds'.all D.flat = true → ks'.length ≤ ks.length → Q (.dic ks' ds') G1) : dE E ex f (tCB (rDictP K) tr) G Q := fun β T A σ H Qv en w k => by
  refine h β T A σ H _ en w fun xs us H1 G1 ⟨ks, e, q⟩ en1 s1 r1 => ?_
  subst e
  cases r1 with
  | cons r rn =>
    cases rn
    cases r with
    | @lst a xs _ ha ra =>
      have ha' : H1 a = some (.lst xs) := vw_in (f := true) (β := β) (T := T) (A := A) _ _ ha
      have key : ∀ (ks : List Key) (xs : List V), RpA (Vw true β T A H1) xs (ks.map fun k => .tup [kD k, .int 1]) → ∃ ps : List Addr, xs = ps.map V.ref ∧ Paired (fun p kv => SqT K H1 p [kV kv.1, kv.2]) ps (ks.map fun k => (k, V.int 1)) := by
        intro ks
        induction ks with
        | nil => intro xs r; cases r; exact ⟨[], rfl, .nil⟩
        | cons c ks ih =>
          intro xs r
          cases r with
          | cons r rs =>
            obtain ⟨ps, e1, e2⟩ := ih _ rs
            cases r with
            | @tup p ys _ hp rp =>
              have hv : ys = [kV c, .int 1] := by
                cases rp with
                | cons r1 r2 =>
                  cases r2 with
                  | cons r2 r3 =>
                    cases r3
                    cases r2
                    cases c with
                    | inl i => cases r1; rfl
                    | inr i => cases r1; rfl
              subst hv
              have hp' : H1 p = some (.tup [kV c, .int 1]) := vw_in (f := true) (β := β) (T := T) (A := A) _ _ hp
              exact ⟨p :: ps, by rw [e1]; rfl, .cons (.inl (.inl hp')) e2⟩
      obtain ⟨ps, e1, e2⟩ := key ks xs ra
      subst e1
      refine ⟨a, ps, _, rfl, .inl (.inl ha'), e2, fun p hp => ?_⟩
      have hall : ∀ x ∈ mergeK [] (ks.map fun k => (k, V.int 1)), x.2 = .int 1 := merge_val (P1 := fun v => v = .int 1) _ _ (fun x hx => by obtain ⟨y, _, e⟩ := List.mem_map.mp hx; rw [← e]) (fun x hx => by cases hx)
      have hlen := length_mergeK (ks.map fun k => (k, V.int 1)) []
      rw [List.length_map, List.length_nil, Nat.zero_add] at hlen
      have hrp : ∀ (F : Hp) (l : List (Key × V)), (∀ x ∈ l, x.2 = .int 1) → RpA F (l.map (·.2)) (l.map fun _ => D.int 1) := fun F l => by
        induction l with
        | nil => exact fun _ => .nil
        | cons x l ih =>
          intro hx
          refine .cons ?_ (ih fun y hy => hx y (List.mem_cons_of_mem _ hy))
          show Rp F x.2 (.int 1)
          rw [hx x List.mem_cons_self]
          exact .int 1
      refine k (.dic ((mergeK [] (ks.map fun k => (k, V.int 1))).map (·.1)) ((mergeK [] (ks.map fun k => (k, V.int 1))).map fun _ => .int 1)) _ _ G1 (q _ _ ?_ ?_) (en1.grow (same_new hp)) (s1.trans (off_new hp)) (.dic (en1.newf hp) (zip_back _) (by rw [List.length_map, List.length_map]) (hrp _ _ hall))
      · rw [List.all_eq_true]
        intro x hx
        obtain ⟨y, _, rfl⟩ := List.mem_map.mp hx
        rfl
      · rw [List.length_map]
        exact hlen
/-- flat data have one value -/
theorem flat_eq {F F' : Hp} {u v : V} {d : D} (h : d.flat = true) (r1 : Rp F u d) (r2 : Rp F' v d) : u = v := by
  cases r1 <;> first | (cases r2; rfl) | cases h
theorem flats_eq {F F' : Hp} : ∀ {us vs : List V} {ds : List D}, ds.all D.flat = true → RpA F us ds → RpA F' vs ds → us = vs
  | _, _, [], _, .nil, .nil => rfl
  | _, _, d :: ds, h, .cons r1 s1, .cons r2 s2 => by
    rw [List.all_cons, Bool.and_eq_true] at h
    rw [flat_eq h.1 r1 r2, flats_eq h.2 s1 s2]
/-- [f(x[k], y[k]) for k in x], x and y alike and flat, f of equals true -/
theorem dE_keysEq {pre : List D → Prop} {k : Nat} {vs : List Nat} {ks : List Key} {ds : List D} (hvs : vs = [k]) (hk0 : k ≠ 0) (hk1 : k ≠ 1) (h0 : G[0]? = some (.imm (.dic ks ds))) (h1 : G[1]? = some (.imm (.dic ks ds))) (hf : ds.all D.flat = true) (hl : ks.length ≤ 1000)
    (hp : ∀ d : D, d.flat = true → pre [d, d]) (hk : k < G.length) (q : Q (.lst (List.replicate ks.length (.bl true))) G) :
    dE E ex f (tLockE (tLc (iKeys (tVar 0)) (gName k) tYes (tCall (spF pre fun _ => .bl true) [] E' (tCons (tDGet (tVar 0) (tVar k)) (tCons (tDGet (tVar 1) (tVar k)) tNil))) vs)) G Q := fun β T A σ H Qv en w kk => by
  subst hvs
  obtain ⟨v0, s0, r0⟩ := en.get h0
  obtain ⟨v1, s1, r1⟩ := en.get h1
  cases r0 with
  | @dic a kvs _ us _ ha hkv hlen ra =>
    cases r1 with
    | @dic b kvs2 _ us2 _ hb hkv2 hlen2 rb =>
      have eu := flats_eq hf ra rb
      subst eu
      have ekv : kvs2 = kvs := hkv2.trans hkv.symm
      subst ekv
      have ha := (off_some ha).2
      have hb := (off_some hb).2
      have hkl : kvs2.length = ks.length := by rw [hkv, List.length_zip]; omega
      refine ⟨a, .dK kvs2, ha, trivial, fun od => ?_⟩
      have hH1 : ∀ c o, c ≠ a → H c = some o → upd H a (.frz od (.dK kvs2)) c = some o := fun c o hc ho => by rw [upd_ne hc]; exact ho
      refine ⟨_, s0, a, od, rfl, .inl ⟨kvs2, upd_same, fun Dn hD => ?_⟩⟩
      have hDa : Dn ≠ a := fun z => by rw [z, upd_same] at hD; cases hD
      have hDH : H Dn = none := by rw [upd_ne hDa] at hD; exact hD
      refine ⟨fun i m Hc => m = kvs2.length - i ∧ i ≤ kvs2.length ∧ Same (upd H a (.frz od (.dK kvs2))) Hc ∧ Hc Dn = some (.lst (List.replicate i (.bl true))), ⟨kvs2.length, by simp, Nat.zero_le _, same_new hD, upd_same⟩, ?_⟩
      rintro i m Hc ⟨rfl, hi, sm, hDn⟩
      have hca : Hc a = some (.frz od (.dK kvs2)) := sm _ _ upd_same
      by_cases hlt : i < kvs2.length
      · refine .inr ⟨⟨hca, hlt⟩, fun H' => Same (upd H a (.frz od (.dK kvs2))) H' ∧ H' Dn = some (.lst (List.replicate (i + 1) (.bl true))), fun H' z => ⟨kvs2.length - (i + 1), by omega, rfl, hlt, z⟩, fun x H' y => ?_⟩
        obtain ⟨eH, key, v, hkey, rfl⟩ := y
        rw [eH]
        refine ⟨?_, ?_⟩
        · rw [wipe_set List.mem_cons_self]
          show ((σ.set k none).set k none) = _
          rw [List.set_set]
          rfl
        simp only [tYes, if_true]
        have hkσ : k < σ.length := by rw [en.len]; exact hk
        have gk : ((L2.wipe σ [k]).set k (some (kV key)))[k]? = some (some (kV key)) := List.getElem?_set_self (by rw [wipe_length]; exact hkσ)
        have g0 : ((L2.wipe σ [k]).set k (some (kV key)))[0]? = some (some (V.ref a)) := by
          rw [List.getElem?_set_ne hk0, wipe_get (by simp; exact fun z => hk0 z.symm)]
          exact s0
        have g1 : ((L2.wipe σ [k]).set k (some (kV key)))[1]? = some (some (V.ref b)) := by
          rw [List.getElem?_set_ne hk1, wipe_get (by simp; exact fun z => hk1 z.symm)]
          exact s1
        have hany : (valV kvs2 key).isSome = true := by
          rw [← valV_any, List.any_eq_true]
          exact ⟨(key, v), List.mem_of_getElem? hkey, by simp⟩
        obtain ⟨v', hv'⟩ := Option.isSome_iff_exists.mp hany
        obtain ⟨d, hd, rd⟩ : ∃ d : D, d.flat = true ∧ ∀ F, Rp F v' d := by
          have hm : ∃ kv ∈ kvs2, kv.2 = v' := by
            unfold valV at hv'
            obtain ⟨z, hz1, hz2⟩ := Option.map_eq_some_iff.mp hv'
            exact ⟨z, List.mem_of_find?_eq_some hz1, hz2⟩
          obtain ⟨kv, hm1, hm2⟩ := hm
          have hm3 : v' ∈ us := by
            rw [hkv] at hm1
            rw [← hm2]
            exact (List.of_mem_zip hm1).2
          obtain ⟨n, hn⟩ := List.getElem?_of_mem hm3
          obtain ⟨d, hd1, hd2⟩ := ra.getV hn
          have hd3 := List.all_eq_true.mp hf d (List.mem_of_getElem? hd1)
          refine ⟨d, hd3, fun F => ?_⟩
          cases hd2 <;> first | exact .non | exact .bl _ | exact .int _ | exact .str _ | cases hd3
        have dg : ∀ c, (c = a ∨ c = b) → DGet Hc c (kV key) (some v') := fun c hc => by
          refine .inl ⟨kvs2, key, ?_, rfl, hv'.symm⟩
          by_cases hca' : c = a
          · rw [hca']; exact .inr ⟨od, hca⟩
          · rcases hc with z | z
            · exact absurd z hca'
            · rw [z] at hca' ⊢
              exact .inl (sm _ _ (hH1 _ _ hca' hb))
        refine ⟨_, g0, _, gk, a, v', rfl, dg a (.inl rfl), ?_⟩
        refine ⟨_, g1, _, gk, b, v', rfl, dg b (.inr rfl), ?_⟩
        refine ⟨[], [d, d], fun a z => (by cases z), .cons (rd _) (.cons (rd _) .nil), hp d hd, fun w' dd H' hR g' rw' => ?_⟩
        subst hR
        cases rw'
        refine ⟨_, g' _ _ hDn, ?_, ?_, ?_⟩
        · rw [List.length_replicate, sizeLine_eq]; omega
        · exact fun c o z => by
            rw [upd_ne (fun e => by rw [e, hD] at z; cases z)]
            exact g' _ _ (sm _ _ z)
        · rw [upd_same, List.replicate_succ']
      · have e : i = kvs2.length := by omega
        subst e
        refine .inl ⟨⟨hca, Nat.le_refl _⟩, hca, ?_⟩
        have go : Same H (upd Hc a (.dK kvs2)) := fun c o z => by
          by_cases hc : c = a
          · rw [hc, upd_same, ← ha, ← hc]; exact z
          · rw [upd_ne hc]
            exact sm _ _ (hH1 _ _ hc z)
        have hDV : Vw f β T A (upd Hc a (.dK kvs2)) Dn = some (.lst (List.replicate kvs2.length (.bl true))) := by
          have e1 : upd Hc a (.dK kvs2) Dn = some (.lst (List.replicate kvs2.length (.bl true))) := by rw [upd_ne hDa]; exact hDn
          cases f with
          | true => exact off_of (fun z => en.live Dn z hDH) e1
          | false => exact off_of (fun z => en.live Dn (en.a0A Dn z) hDH) e1
        have rr : ∀ (F : Hp) (n : Nat), RpA F (List.replicate n (V.bl true)) (List.replicate n (D.bl true)) := fun F n => by
          induction n with
          | zero => exact .nil
          | succ n ih => exact .cons (.bl true) ih
        refine kk _ _ _ G q (en.grow go) (off_same go) (.lst hDV ?_)
        rw [hkl]
        exact rr _ _
end
end Kr
/-! Kr11: a new list of new purses, and a walk through it. -/
namespace Kr
open PySem L2
/-- a new list of new purses -/
def spPs (pre : List D → Prop) : Sp := fun vs H Q _ => ∃ (Z : List Addr) (ds : List D), (∀ a ∈ Z, H a ≠ none) ∧ RpA (Off Z H) vs ds ∧ pre ds ∧
  ∀ (a : Addr) (ps : List Addr) (H' : Hp), Same H H' → H a = none → H' a = some (.lst (ps.map V.ref)) → (∀ p ∈ ps, H p = none ∧ p ≠ a ∧ Pur H' p 0) → ps.Nodup → Q (.ref a) H'
/-- what a new purse holds -/
def newPur (es : List D) : Prop := ∃ x y t : Int, es = [.int x, .int y, .int 0, .int t] ∧ 0 ≤ x ∧ x < 10 ^ 480 ∧ 0 ≤ y ∧ y < 2147483648 ∧ 0 ≤ t ∧ t < 1000
theorem pur_of {F H : Hp} {p : Addr} {xs : List V} {es : List D} (h : H p = some (.lst xs)) (r : RpA F xs es) (n : newPur es) : Pur H p 0 := by
  obtain ⟨x, y, t, rfl, b⟩ := n
  have e : xs = [.int x, .int y, .int 0, .int t] := RpA.ints (xs := [x, y, 0, t]) r
  subst e
  exact ⟨x, y, 0, t, h, b.1, b.2.1, b.2.2.1, b.2.2.2.1, by decide, by decide, b.2.2.2.2.1, b.2.2.2.2.2⟩
section
variable {K : PySem.W.Frag} {E E' : XK} {G : List Sl} {P : Po} {i : Nat} {tr : TA} {ts : TS} {pre preP : List D → Prop}
theorem raw_purses {ex : Addr → D → Prop} {β : Bs} {A : List Addr} {σ : L2.St} {H : Hp} {Q : VK} {s : D} {vs : List Nat} (en : Env β [] A σ H G) (w : Wish β E ex) (hvs : vs = [i]) (hi : i ≠ 0) (hlen : i < G.length) (h0 : G[0]? = some (.imm s))
    (htr : dA E ex false tr G fun ds G' => ∃ n : Nat, ds = [.int (n : Int)] ∧ n ≤ 1000) (hp : ∀ j : Nat, j < 1000 → preP [s, .int (j : Int)])
    (q : ∀ (a : Addr) (ps : List Addr) (H' : Hp), Same (Off β.Z H) (Off β.Z H') → H a = none → H' a = some (.lst (ps.map V.ref)) → (∀ p ∈ ps, H p = none ∧ p ≠ a ∧ Pur H' p 0) → ps.Nodup → Q (.ref a) H') (hZ : β.Z = []) :
    tLc (iRng1 tr) (gName i) tYes (tCall (spL preP fun _ es => newPur es) [] E' (tCons (tVar 0) (tCons (tVar i) tNil))) vs σ H Q := by
  subst hvs
  obtain ⟨v0, s0, r0⟩ := en.get h0
  have off0 : ∀ F : Hp, Off β.Z F = F := fun F => by rw [hZ]; exact off_nil
  refine htr β [] A σ H _ en w fun ds us H1 G1 ⟨n, e, hn⟩ en1 s1 r1 => ?_
  subst e
  cases r1 with
  | cons r rn =>
    cases rn
    cases r
    have sH : Same H H1 := by
      have z : Same (Off β.Z H) (Off β.Z H1) := s1
      rw [off0, off0] at z
      exact z
    refine ⟨(n : Int), rfl, by omega, by omega, fun Dn hD => ?_⟩
    refine ⟨fun j m Hc => m = n - j ∧ j ≤ n ∧ ∃ ps : List Addr, ps.length = j ∧ Same H1 Hc ∧ Hc Dn = some (.lst (ps.map V.ref)) ∧ (∀ p ∈ ps, H1 p = none ∧ p ≠ Dn ∧ Pur Hc p 0) ∧ ps.Nodup, ⟨n, by simp, Nat.zero_le _, [], rfl, same_new hD, upd_same, (fun p z => by cases z), List.nodup_nil⟩, ?_⟩
    rintro j m Hc ⟨rfl, hj, ps, hl, sm, hDn, hps, nd⟩
    by_cases hlt : j < n
    · refine .inr ⟨hlt, fun H' => ∃ ps : List Addr, ps.length = j + 1 ∧ Same H1 H' ∧ H' Dn = some (.lst (ps.map V.ref)) ∧ (∀ p ∈ ps, H1 p = none ∧ p ≠ Dn ∧ Pur H' p 0) ∧ ps.Nodup, fun H' z => ⟨n - (j + 1), by omega, rfl, hlt, z⟩, fun x H' y => ?_⟩
      obtain ⟨eH, rfl⟩ := y
      rw [eH]
      refine ⟨?_, ?_⟩
      · rw [wipe_set List.mem_cons_self]
        show ((σ.set i none).set i none) = _
        rw [List.set_set]
        rfl
      simp only [tYes, if_true]
      have gi : ((L2.wipe σ [i]).set i (some (V.int (0 + (j : Nat)))))[i]? = some (some (V.int (0 + (j : Nat)))) := List.getElem?_set_self (by rw [wipe_length, en.len]; exact hlen)
      have g0 : ((L2.wipe σ [i]).set i (some (V.int (0 + (j : Nat)))))[0]? = some (some v0) := by
        rw [List.getElem?_set_ne hi, wipe_get (by simp; exact fun z => hi z.symm)]
        exact s0
      refine ⟨_, g0, _, gi, ?_⟩
      have r0' : Rp (Off [] Hc) v0 s := by rw [off_nil]; exact r0.mono ((off_in.trans sH).trans sm)
      refine ⟨[], [s, .int (0 + (j : Nat))], fun a z => (by cases z), .cons r0' (.cons (.int _) .nil), ?_, fun es p xs H2 hR g hn hx r => ?_⟩
      · rw [Int.zero_add]
        exact hp j (by omega)
      have pD : p ≠ Dn := fun z => by rw [z, hDn] at hn; cases hn
      have hpn : H1 p = none := by
        cases e : H1 p with
        | none => rfl
        | some o => rw [sm _ _ e] at hn; cases hn
      have hpp : p ∉ ps := fun z => by
        obtain ⟨_, _, x, y, zz, t, e, _⟩ := hps p z
        rw [e] at hn; cases hn
      refine ⟨ps.map V.ref, g _ _ hDn, by rw [List.length_map, sizeLine_eq]; omega, ps ++ [p], by rw [List.length_append, hl]; rfl, fun b o z => ?_, ?_, fun p' hp' => ?_, ?_⟩
      · rw [upd_ne (fun e => by rw [e, hD] at z; cases z)]
        exact g _ _ (sm _ _ z)
      · rw [upd_same, List.map_append]
        rfl
      · rcases List.mem_append.mp hp' with z | z
        · obtain ⟨a1, a2, x, y, zz, t, e, b⟩ := hps p' z
          exact ⟨a1, a2, x, y, zz, t, by rw [upd_ne a2]; exact g _ _ e, b⟩
        · rw [List.mem_singleton.mp z]
          obtain ⟨x, y, zz, t, e, b⟩ := pur_of hx r hR
          exact ⟨hpn, pD, x, y, zz, t, by rw [upd_ne pD]; exact e, b⟩
      · rw [List.nodup_append]
        refine ⟨nd, by simp, fun a ha b hb e => ?_⟩
        rw [List.mem_singleton.mp hb] at e
        exact hpp (e ▸ ha)
    · have e : j = n := by omega
      subst e
      refine .inl ⟨by show (j : Int).toNat ≤ j; omega, q Dn ps Hc ?_ ?_ hDn (fun p hp => ?_) nd⟩
      · rw [off0, off0]; exact sH.trans sm
      · cases e : H Dn with
        | none => rfl
        | some o => rw [sH _ _ e] at hD; cases hD
      · obtain ⟨a1, a2, a3⟩ := hps p hp
        refine ⟨?_, a2, a3⟩
        cases e : H p with
        | none => rfl
        | some o => rw [sH _ _ e] at a1; cases a1
theorem conPs {Pg : Program} {w : World} {mg : Str → Option Value} {base : Heap} {x : Str} {st : Stmt} {N ps : List Str} {k : Nat} (h : DefAt K mg x st ps) (S : FnScope N ps (defScope st)) (len : ∀ ds, pre ds → ds.length = ps.length)
    (hbody : ∀ (f : Addr) (cdv : Value) (A : Around) (outer : List PySem.Env) (s : Shared) (H : Hp) (E : XK), Room k (A.deeper (PyProof.Rows.envOfC x (defScope st) s.heap.objs.size f cdv)) →
      ∃ te, PSs (cxOf CX0 Pg w K mg base N x (defScope st) f cdv A outer s H E).nox (defBody st) (tRet te) ∧ ∀ ds, pre ds → ∀ (β : Bs) (A : List Addr) (σ : L2.St) (H : Hp) (Q : VK), β.Z = [] → Env β [] A σ H (slots N ds) →
        (∀ (a : Addr) (ps : List Addr) (H' : Hp), Same (Off β.Z H) (Off β.Z H') → H a = none → H' a = some (.lst (ps.map V.ref)) → (∀ p ∈ ps, H p = none ∧ p ≠ a ∧ Pur H' p 0) → ps.Nodup → Q (.ref a) H') → te σ H Q) : Con Pg w K mg base x ps (k + 1) (spPs pre) := by
  obtain ⟨f, fd, F, g, b⟩ := h.ex
  refine ⟨f, fd, g, F.kp, b, ?_⟩
  refine F.ok S (fun vs H Q E h => ?_) (fun cdv A outer s H vs Q E hr h => ?_)
  · obtain ⟨Z, ds, _, r, hp, _⟩ := h
    rw [r.length]
    exact len ds hp
  · obtain ⟨Z, ds, live, r, hp, q⟩ := h
    obtain ⟨te, ht, hd⟩ := hbody f cdv A outer s H E hr
    refine ⟨_, ht, ?_⟩
    have en := entry (N := N) (Z := []) (A0 := Z) (fun a h => by cases h) live r
    refine hd ds hp ⟨[], Z, Off Z H, H⟩ Z _ H _ rfl en fun a ps H' g h1 h2 h3 h4 => q a ps H' ?_ h1 h2 h3 h4
    rw [off_nil, off_nil] at g
    exact g
theorem dS_forPs (hG : ∀ s ∈ G, s.isOwn = false) (hi : G[i]? = some .any) (h : dA E (fun _ _ => False) true tr G fun ds G1 => pre ds ∧ G1 = G)
    (hb : ∀ p, dS E (fun _ _ => False) ts (G.set i (.pur p 0)) { nx := fun G' => ∃ n, G' = G.set i (.pur p n), ct := fun G' => ∃ n, G' = G.set i (.pur p n), bk := fun _ => False, rt := fun d _ => ∀ G', P.rt d G' }) (fin : P.nx G) :
    dS E (fun _ _ => False) (tFor (iList K (tCall (spPs pre) [] E' tr)) (gName i) ts) G P := fun β A σ H Dn en w k1 k2 k3 k4 => by
  refine h β [] A σ H _ en w fun ds us H1 G1 ⟨hp, eG⟩ en1 s1 r1 => ?_
  subst eG
  rw [List.append_nil]
  refine ⟨[] ++ A, ds, en1.live, r1, hp, fun a ps H2 g ha hl hps nd => ?_⟩
  have go : Same (Off ([] ++ A) H1) (Off ([] ++ (ps ++ A)) H2) := fun b x z => by
    obtain ⟨z1, z2⟩ := off_some z
    refine off_of (fun y => ?_) (g _ _ z2)
    rcases List.mem_append.mp (show b ∈ ps ++ A from y) with y | y
    · rw [(hps b y).1] at z2; cases z2
    · exact z1 y
  have en2 : Env β [] (ps ++ A) σ H2 G1 := by
    refine ⟨en1.len, fun j s hs => ?_, en1.dis, fun b x z => go _ _ (en1.base _ _ z), fun b hb' => List.mem_append_right _ (en1.sub b hb'), en1.zs, fun b hb' z => ?_, fun b _ z => (by cases z), en1.all.trans (off_same g)⟩
    · obtain ⟨o, q1, q2⟩ := en1.ok j s hs
      have hno := hG s (List.mem_of_getElem? hs)
      refine ⟨o, q1, ?_⟩
      cases s with
      | any => trivial
      | imm d => obtain ⟨v, h3, h4⟩ := q2; exact ⟨v, h3, h4.mono go⟩
      | own ds => cases hno
      | pur a n => cases hno
      | exc a dd d => obtain ⟨h3, v, h4, h5⟩ := q2; exact ⟨h3, v, go _ _ h4, h5.mono go⟩
    · rcases List.mem_append.mp (show b ∈ ps ++ A from hb') with y | y
      · obtain ⟨_, _, x1, x2, x3, x4, e, _⟩ := hps b y
        rw [e] at z; cases z
      · cases e : H1 b with
        | none => exact en1.live b y e
        | some o => rw [g _ _ e] at z; cases z
  have W := walk_list (K := K) (a := a) (xs := ps.map V.ref)
  refine ⟨a, rfl, ⟨_, .inl (.inl hl)⟩, ?_⟩
  refine ⟨fun j m σ' H' => m = ps.length - j ∧ j ≤ ps.length ∧ Env β [] (ps ++ A) σ' H' G1 ∧ (∀ (q : Nat) (p : Addr), j ≤ q → ps[q]? = some p → Pur H' p 0) ∧ H' a = some (.lst (ps.map V.ref)), ⟨ps.length, by simp, Nat.zero_le _, en2, fun q p _ hq => (hps p (List.mem_of_getElem? hq)).2.2, hl⟩, ?_⟩
  rintro j m σ2 H' ⟨rfl, hj, enJ, hpu, hla⟩
  have sq : SqL K H' a (ps.map V.ref) := .inl (.inl hla)
  by_cases hlt : j < ps.length
  · refine .inr ⟨W.goes j H' (by rw [List.length_map]; exact hlt) sq, fun σ' H'' => Env β [] (ps ++ A) σ' H'' G1 ∧ (∀ (q : Nat) (p : Addr), j + 1 ≤ q → ps[q]? = some p → Pur H'' p 0) ∧ H'' a = some (.lst (ps.map V.ref)), fun σ' H'' z => ⟨ps.length - (j + 1), by omega, rfl, hlt, z⟩, fun x Hx y => ?_⟩
    obtain ⟨eH, hx⟩ := W.yields j H' x Hx (by rw [List.length_map]; exact hlt) sq y
    rw [eH]
    have hpj : ps[j]? = some ps[j] := List.getElem?_eq_getElem hlt
    rw [List.getElem?_map, hpj] at hx
    have hx := (Option.some.inj hx).symm
    subst hx
    generalize hpe : ps[j] = p at *
    have hpm : p ∈ ps := List.mem_of_getElem? hpj
    have hpA : p ∈ ps ++ A := List.mem_append_left _ hpm
    have hp0 := hpu j p (Nat.le_refl _) hpj
    have hH0 : β.H0 p = none := en1.fresh0 (hps p hpm).1
    have hiG : i < G1.length := (List.getElem?_eq_some_iff.mp hi).1
    have enB : Env ⟨[p], ps ++ A, Off ([] ++ (ps ++ A)) H', H'⟩ [] (ps ++ A) (σ2.set i (some (.ref p))) H' (G1.set i (.pur p 0)) := by
      refine ⟨by rw [List.length_set, List.length_set]; exact enJ.len, fun q s hs => ?_, fun q q' s s' b h1 h2 o1 o2 _ _ => ?_, Same.refl _, fun b hb' => hb', fun b hb' => ?_, enJ.live, enJ.dj, Same.refl _⟩
      · rcases set_get hs with ⟨rfl, rfl, _⟩ | ⟨hq, hs⟩
        · exact ⟨_, List.getElem?_set_self (by rw [enJ.len]; exact hiG), rfl, List.mem_singleton.mpr rfl, hp0⟩
        · obtain ⟨o, q1, q2⟩ := enJ.ok q s hs
          have hno := hG s (List.mem_of_getElem? hs)
          refine ⟨o, by rw [List.getElem?_set_ne (Ne.symm hq)]; exact q1, ?_⟩
          cases s with
          | any => trivial
          | imm d => exact q2
          | own ds => cases hno
          | pur a n => cases hno
          | exc a dd d => exact q2
      · have only : ∀ {q : Nat} {s : Sl}, (G1.set i (.pur p 0))[q]? = some s → s.isOwn = true → q = i := fun {q s} hs ho => by
          rcases set_get hs with ⟨rfl, _, _⟩ | ⟨_, hs⟩
          · rfl
          · rw [hG s (List.mem_of_getElem? hs)] at ho; cases ho
        rw [only h1 o1, only h2 o2]
      · rw [List.mem_singleton.mp hb']; exact hpA
    have back : ∀ {A3 : List Addr} {σ3 : L2.St} {H3 : Hp} {G3 G4 : List Sl}, Env ⟨[p], ps ++ A, Off ([] ++ (ps ++ A)) H', H'⟩ [] A3 σ3 H3 G3 → G4.length = G3.length → (∀ (q : Nat) (s : Sl), G4[q]? = some s → s = .any ∨ (G3[q]? = some s ∧ s.isOwn = false)) → Env β [] (ps ++ A) σ3 H3 G4 := fun {A3 σ3 H3 G3 G4} e hlen hsl => by
      have up : Same (Off ([] ++ A3) H3) (Off ([] ++ (ps ++ A)) H3) := off_le fun b hb' => e.sub b hb'
      refine ⟨e.len.trans hlen.symm, fun q s hs => ?_, fun q q' s s' b h1 _ o1 _ _ _ => ?_, (enJ.base.trans e.base).trans up, fun b hb' => List.mem_append_right _ (en1.sub b hb'), enJ.zs, fun b hb' => e.live b (e.sub b hb'), fun b _ z => (by cases z), fun b x z => ?_⟩
      · rcases hsl q s hs with rfl | ⟨h3, hno⟩
        · have hq := (List.getElem?_eq_some_iff.mp hs).1
          exact ⟨σ3[q]'(by rw [e.len, ← hlen]; exact hq), List.getElem?_eq_getElem _, trivial⟩
        · obtain ⟨o, q1, q2⟩ := e.ok q s h3
          refine ⟨o, q1, ?_⟩
          cases s with
          | any => trivial
          | imm d => obtain ⟨v, h5, h6⟩ := q2; exact ⟨v, h5, h6.mono up⟩
          | own ds => cases hno
          | pur a n => cases hno
          | exc a dd d => obtain ⟨h5, v, h6, h7⟩ := q2; exact ⟨h5, v, up _ _ h6, h7.mono up⟩
      · rcases hsl q s h1 with rfl | ⟨_, hno⟩
        · cases o1
        · rw [hno] at o1; cases o1
      · obtain ⟨z1, z2⟩ := off_some z
        have hbp : b ≠ p := fun y => by rw [y, hH0] at z2; cases z2
        have z3 := enJ.all b x z
        exact off_of z1 (off_some (e.all b x (off_of (fun y => hbp (List.mem_singleton.mp y)) (off_some z3).2))).2
    have keepP : ∀ {A3 : List Addr} {σ3 : L2.St} {H3 : Hp} {G3 : List Sl}, Env ⟨[p], ps ++ A, Off ([] ++ (ps ++ A)) H', H'⟩ [] A3 σ3 H3 G3 → ∀ b o, b ≠ p → H' b = some o → H3 b = some o := fun {A3 σ3 H3 G3} e b o hb' ho =>
      (off_some (e.all b o (off_of (fun y => hb' (List.mem_singleton.mp y)) ho))).2
    have nxt : ∀ (A3 : List Addr) (σ3 : L2.St) (H3 : Hp) (G3 : List Sl), (∃ n, G3 = G1.set i (.pur p n)) → Env ⟨[p], ps ++ A, Off ([] ++ (ps ++ A)) H', H'⟩ [] A3 σ3 H3 G3 → Env β [] (ps ++ A) σ3 H3 G1 ∧ (∀ (q : Nat) (p' : Addr), j + 1 ≤ q → ps[q]? = some p' → Pur H3 p' 0) ∧ H3 a = some (.lst (ps.map V.ref)) := fun A3 σ3 H3 G3 ⟨n, eG⟩ e => by
      subst eG
      refine ⟨back e (by rw [List.length_set]) fun q s hs => ?_, fun q p' hq hp' => ?_, keepP e _ _ (fun z => (hps p hpm).2.1 z.symm) hla⟩
      · by_cases hqi : q = i
        · rw [hqi, hi] at hs
          exact .inl (Option.some.inj hs).symm
        · exact .inr ⟨by rw [List.getElem?_set_ne (Ne.symm hqi)]; exact hs, hG s (List.mem_of_getElem? hs)⟩
      · have hne : p' ≠ p := fun z => by
          rw [z] at hp'
          obtain ⟨l1, e1⟩ := List.getElem?_eq_some_iff.mp hp'
          obtain ⟨l2, e2⟩ := List.getElem?_eq_some_iff.mp hpj
          exact (List.pairwise_iff_getElem.mp nd) j q l2 l1 (by omega) (by rw [e1, e2])
        obtain ⟨x1, x2, x3, x4, e1, b⟩ := hpu q p' (by omega) hp'
        exact ⟨x1, x2, x3, x4, keepP e _ _ hne e1, b⟩
    exact hb p ⟨[p], ps ++ A, Off ([] ++ (ps ++ A)) H', H'⟩ (ps ++ A) _ H' _ enB (fun _ _ _ _ _ z => z.elim) (fun A3 σ3 H3 G3 z e => nxt A3 σ3 H3 G3 z e) (fun _ _ _ _ z _ => z.elim) (fun A3 σ3 H3 G3 z e => nxt A3 σ3 H3 G3 z e)
      fun d v A3 σ3 H3 G3 hr e r => k4 d v (ps ++ A) σ3 H3 (List.replicate G3.length .any) (hr _) (back e (by rw [List.length_replicate]) fun q s hs => by
        rw [List.getElem?_replicate] at hs
        split at hs
        · exact .inl (Option.some.inj hs).symm
        · cases hs) (r.mono (off_le fun b hb' => List.mem_append_right _ (en1.sub b hb')))
  · have e : j = ps.length := by omega
    subst e
    have st := W.stops H' sq
    rw [List.length_map] at st
    exact .inl ⟨st, k1 (ps ++ A) σ2 H' G1 fin enJ⟩
end
end Kr
/-! Kr12: the very list that was refused. -/
namespace Kr
open PySem L2
/-- flat, or a list of flat things -/
def shallow (d : D) : Prop := d.flat = true ∨ ∃ m, d = .lst m ∧ m.all D.flat = true
theorem flat_any {F F' : Hp} {v : V} {d : D} (h : d.flat = true) (r : Rp F v d) : Rp F' v d := by
  cases r <;> first | exact .non | exact .bl _ | exact .int _ | exact .str _ | cases h
theorem flats_any {F F' : Hp} : ∀ {vs : List V} {ds : List D}, ds.all D.flat = true → RpA F vs ds → RpA F' vs ds
  | _, [], _, .nil => .nil
  | _, d :: ds, h, .cons r s => by
    rw [List.all_cons, Bool.and_eq_true] at h
    exact .cons (flat_any h.1 r) (flats_any h.2 s)
theorem flat_noref {F : Hp} {a : Addr} {d : D} (h : d.flat = true) (r : Rp F (.ref a) d) : False := by
  cases r <;> cases h
/-- what a list holds stands though the list changes -/
theorem shallow_keep {F H : Hp} {a : Addr} {xs : List V} {o : HO} (hF : Same F H) (ha : H a = some (.lst xs)) : ∀ {ys : List V} {l : List D}, (∀ y ∈ ys, y ∈ xs) → (∀ d ∈ l, shallow d) → RpA F ys l → RpA (upd H a o) ys l
  | _, [], _, _, .nil => .nil
  | v :: vs, d :: l, hy, h, .cons r s => by
    refine .cons ?_ (shallow_keep hF ha (fun y z => hy y (List.mem_cons_of_mem _ z)) (fun e he => h e (List.mem_cons_of_mem _ he)) s)
    rcases h d List.mem_cons_self with hf | ⟨m, rfl, hm⟩
    · exact flat_any hf r
    · cases r with
      | @lst b zs _ hb rb =>
        have hb' := hF _ _ hb
        have hne : b ≠ a := fun z => by
          subst z
          rw [ha] at hb'
          have e : xs = zs := by cases hb'; rfl
          have hin : V.ref b ∈ zs := e ▸ hy _ List.mem_cons_self
          obtain ⟨n, hn⟩ := List.getElem?_of_mem hin
          obtain ⟨d, hd1, hd2⟩ := rb.getV hn
          exact flat_noref (List.all_eq_true.mp hm d (List.mem_of_getElem? hd1)) hd2
        exact .lst (by rw [upd_ne hne]; exact hb') (flats_any hm rb)
theorem dS_veryList {K : PySem.W.Frag} {E E' : XK} {ex : Addr → D → Prop} {G : List Sl} {P : Po} {a : Addr} {l : List D} {x y : Str} {pre : List D → Prop} (h0 : G[0]? = some (.imm (.tup [.str x, .is a (.lst l)]))) (h1 : G[1]? = some (.imm (.is a (.lst l)))) (h2 : 2 < G.length)
    (hs : ∀ d ∈ l, shallow d) (hl : l.length ≤ 1000) (hp : pre [.lst (l ++ [.str y]), .lst (l ++ [.str y])]) (hP : P.rt (.bl true) (G.set 2 (.imm (.bl true)))) :
    dS E ex (tSeq (tDrop (tBM K "list" rAppend (tVar 1) (tCons (tC (.str y)) tNil))) (tSeq (tAsg (tCall (spF pre fun _ => .bl true) [] E' (tCons (tOp (rIx K) (tVar 0) (tC (.int 1))) (tCons (tVar 1) tNil))) (gName 2)) (tSeq (tDrop (tBM0 K "list" rPop (tVar 1))) (tRet (tVar 2))))) G P := fun β A σ H Dn en w k1 k2 k3 k4 => by
  obtain ⟨v0, s0, r0⟩ := en.get h0
  obtain ⟨v1, s1, r1⟩ := en.get h1
  cases r1 with
  | is r1 =>
    cases r1 with
    | @lst _ xs _ ha ra =>
      cases r0 with
      | @tup t ys _ ht rt =>
        have eys : ys = [.str x, .ref a] := by
          cases rt with
          | cons rx rs =>
            cases rx
            cases rs with
            | cons ry rn =>
              cases rn
              cases ry
              rfl
        subst eys
        have hF : Same (Off ([] ++ A) H) H := off_in
        have ha' := hF _ _ ha
        have ht' := hF _ _ ht
        have hta : t ≠ a := fun z => by rw [z, ha'] at ht'; cases ht'
        have hlen : xs.length = l.length := ra.length
        refine ⟨_, s1, .inl ⟨rfl, xs, .inl (.inl ha')⟩, ?_⟩
        refine ⟨a, xs, _, rfl, rfl, ha', by rw [hlen, sizeLine_eq]; omega, ?_⟩
        refine ⟨_, s0, .inr (.inl ⟨t, [.str x, .ref a], 1, .ref a, rfl, rfl, .inl (.inl (by rw [upd_ne hta]; exact ht')), rfl, ?_⟩)⟩
        refine ⟨_, s1, ?_⟩
        have rl : Rp (Off [] (upd H a (HO.lst (xs ++ [V.str y])))) (.ref a) (.lst (l ++ [.str y])) := by
          rw [off_nil]
          exact .lst upd_same ((shallow_keep hF ha' (fun _ z => z) hs ra).append (RpA.one (Rp.str y)))
        refine ⟨[], _, fun b z => (by cases z), .cons rl (.cons rl .nil), hp, fun v d H3 hd g r => ?_⟩
        subst hd
        cases r
        have h3a : H3 a = some (HO.lst (xs ++ [V.str y])) := g _ _ upd_same
        have s1' : (σ.set 2 (some (V.bl true)))[1]? = some (some (V.ref a)) := by
          rw [List.getElem?_set_ne (by decide)]
          exact s1
        refine ⟨_, s1', .inl ⟨rfl, _, .inl (.inl h3a)⟩, a, xs ++ [.str y], .str y, rfl, rfl, h3a, by simp, ?_⟩
        have s2' : (σ.set 2 (some (V.bl true)))[2]? = some (some (V.bl true)) := List.getElem?_set_self (by rw [en.len]; exact h2)
        refine ⟨_, s2', ?_⟩
        have g4 : Same H (upd H3 a (HO.lst (xs ++ [V.str y]).dropLast)) := fun b o z => by
          by_cases hb : b = a
          · rw [hb, upd_same, List.dropLast_concat, ← ha', ← hb]; exact z
          · rw [upd_ne hb]
            exact g _ _ (by rw [upd_ne hb]; exact z)
        exact k4 (.bl true) _ A _ _ _ hP ((en.grow g4).set (i := 2) (.bl true)) (.bl _)
end Kr
/-! Kr13: tuple(x), == of plain lists. -/
namespace Kr
open PySem L2
section
variable {K : PySem.W.Frag} {E : XK} {ex : Addr → D → Prop} {f : Bool} {G : List Sl} {Q : D → List Sl → Prop} {tr : TA}
def rTupOf (K : PySem.W.Frag) : List V → Hp → VK → Prop := fun xs H Q => ∃ p ys, xs = [.ref p] ∧ ((SqL K H p ys ∧ ∀ l, H l = none → Q (.ref l) (upd H l (.tup ys))) ∨ (SqT K H p ys ∧ Q (.ref p) H))
theorem call_tupleA {X : Cx} : CallR X (.type "tuple") (rTupOf X.K) := call_tuple_of
/-- tuple(x) of a list -/
theorem dE_tupOf (h : dA E ex f tr G fun xs G1 => ∃ ds, xs = [.lst ds] ∧ Q (.tup ds) G1) : dE E ex f (tCB (rTupOf K) tr) G Q := fun β T A σ H Qv en w k => by
  refine h β T A σ H _ en w fun xs us H1 G1 ⟨ds, e, q⟩ en1 s1 r1 => ?_
  subst e
  cases r1 with
  | cons r rn =>
    cases rn
    cases r with
    | @lst a xs _ ha ra =>
      refine ⟨a, xs, rfl, .inl ⟨.inl (.inl (vw_in _ _ ha)), fun p hp => ?_⟩⟩
      exact k _ _ _ G1 q (en1.grow (same_new hp)) (s1.trans (off_new hp)) (.tup (en1.newf hp) (ra.mono (vw_new hp)))
end
/-- told by its place where it has one -/
theorem dS_isE {P : Po} {ts : TS} {d : D} {E : XK} {ex : Addr → D → Prop} {G : List Sl} (i : Nat) (hi : G[i]? = some (.imm d)) (h : ∀ dv, ((d.boxed = false ∧ dv = d) ∨ (d.boxed = true ∧ ∃ a, dv = .is a d)) → dS E ex ts (G.set i (.imm dv)) P) : dS E ex ts G P := by
  cases hb : d.boxed with
  | true => exact dS_is i hi hb fun a => h _ (.inr ⟨hb, a, rfl⟩)
  | false =>
    have := h d (.inl ⟨hb, rfl⟩)
    have e : G.set i (.imm d) = G := by
      refine List.ext_getElem? fun j => ?_
      by_cases hj : i = j
      · subst hj
        rw [List.getElem?_set_self (List.getElem?_eq_some_iff.mp hi).1, hi]
      · rw [List.getElem?_set_ne hj]
    rw [e] at this
    exact this
theorem nats_mem {n : Nat} {d : D} (h : d ∈ nats 0 n) : ∃ i : Nat, i < n ∧ d = .int (i : Nat) := by
  unfold nats at h
  obtain ⟨i, hi, rfl⟩ := List.mem_map.mp h
  exact ⟨i, List.mem_range.mp hi, by rw [Int.zero_add]⟩
theorem cutD_mem {l : List D} {lo hi : Option Int} {d : D} (h : d ∈ cutD l lo hi) : d ∈ l := List.mem_of_mem_drop (List.mem_of_mem_take h)
theorem cutD_len (l : List D) (lo hi : Option Int) : (cutD l lo hi).length ≤ l.length := by
  unfold cutD
  rw [List.length_take, List.length_drop]
  omega
theorem eqv_strs : ∀ a b : List Str, D.eq (.lst (a.map D.str)) (.lst (b.map D.str)) = decide (a = b)
  | [], [] => by
    show PyData.eqv (.list []) (.list []) = _
    simp [PyData.eqv, PyData.eqvAll]
  | [], y :: b => by
    show PyData.eqv (.list []) (.list (.str y :: D.toPs (b.map D.str))) = _
    simp [PyData.eqv, PyData.eqvAll]
  | x :: a, [] => by
    show PyData.eqv (.list (.str x :: D.toPs (a.map D.str))) (.list []) = _
    simp [PyData.eqv, PyData.eqvAll]
  | x :: a, y :: b => by
    have ih := eqv_strs a b
    have ih' : PyData.eqv (.list (D.toPs (a.map D.str))) (.list (D.toPs (b.map D.str))) = decide (a = b) := ih
    show PyData.eqv (.list (.str x :: D.toPs (a.map D.str))) (.list (.str y :: D.toPs (b.map D.str))) = _
    simp only [PyData.eqv, PyData.eqvAll] at ih' ⊢
    rw [ih', Bool.eq_iff_iff]
    simp
end Kr
namespace K2
open PySem L2 Kr
def topS (i : Nat) : Stmt := PySem.Challenge.pw_keptreadings_k02_whole_cut_and_lines.main.body.getD i (.Pass ⟨0, 0, 0, 0⟩)
abbrev s_has_only : Stmt := topS 8
abbrev n_has_only : List Str := ["text", "signs", "sign"]
abbrev p_has_only : List Str := ["text", "signs"]
theorem sc_has_only : FnScope n_has_only p_has_only (defScope s_has_only) := ⟨rfl, rfl, rfl, by decide +kernel, rfl, by decide +kernel, by decide +kernel⟩
abbrev s_is_run : Stmt := topS 9
abbrev n_is_run : List Str := ["value", "signs"]
abbrev p_is_run : List Str := ["value", "signs"]
theorem sc_is_run : FnScope n_is_run p_is_run (defScope s_is_run) := ⟨rfl, rfl, rfl, by decide +kernel, rfl, by decide +kernel, by decide +kernel⟩
abbrev s_is_word : Stmt := topS 10
abbrev n_is_word : List Str := ["value"]
abbrev p_is_word : List Str := ["value"]
theorem sc_is_word : FnScope n_is_word p_is_word (defScope s_is_word) := ⟨rfl, rfl, rfl, by decide +kernel, rfl, by decide +kernel, by decide +kernel⟩
abbrev s_is_number : Stmt := topS 11
abbrev n_is_number : List Str := ["value"]
abbrev p_is_number : List Str := ["value"]
theorem sc_is_number : FnScope n_is_number p_is_number (defScope s_is_number) := ⟨rfl, rfl, rfl, by decide +kernel, rfl, by decide +kernel, by decide +kernel⟩
abbrev s_kind_of : Stmt := topS 12
abbrev n_kind_of : List Str := ["value"]
abbrev p_kind_of : List Str := ["value"]
theorem sc_kind_of : FnScope n_kind_of p_kind_of (defScope s_kind_of) := ⟨rfl, rfl, rfl, by decide +kernel, rfl, by decide +kernel, by decide +kernel⟩
abbrev s_is_text : Stmt := topS 13
abbrev n_is_text : List Str := ["value", "token"]
abbrev p_is_text : List Str := ["value"]
theorem sc_is_text : FnScope n_is_text p_is_text (defScope s_is_text) := ⟨rfl, rfl, rfl, by decide +kernel, rfl, by decide +kernel, by decide +kernel⟩
abbrev s_check_text : Stmt := topS 14
abbrev n_check_text : List Str := ["text"]
abbrev p_check_text : List Str := ["text"]
theorem sc_check_text : FnScope n_check_text p_check_text (defScope s_check_text) := ⟨rfl, rfl, rfl, by decide +kernel, rfl, by decide +kernel, by decide +kernel⟩
abbrev s_is_token : Stmt := topS 16
abbrev n_is_token : List Str := ["value"]
abbrev p_is_token : List Str := ["value"]
theorem sc_is_token : FnScope n_is_token p_is_token (defScope s_is_token) := ⟨rfl, rfl, rfl, by decide +kernel, rfl, by decide +kernel, by decide +kernel⟩
abbrev s_run_end : Stmt := topS 17
abbrev n_run_end : List Str := ["line", "at", "signs", "end"]
abbrev p_run_end : List Str := ["line", "at", "signs"]
theorem sc_run_end : FnScope n_run_end p_run_end (defScope s_run_end) := ⟨rfl, rfl, rfl, by decide +kernel, rfl, by decide +kernel, by decide +kernel⟩
abbrev s_token_end : Stmt := topS 18
abbrev n_token_end : List Str := ["line", "at"]
abbrev p_token_end : List Str := ["line", "at"]
theorem sc_token_end : FnScope n_token_end p_token_end (defScope s_token_end) := ⟨rfl, rfl, rfl, by decide +kernel, rfl, by decide +kernel, by decide +kernel⟩
abbrev s_cut : Stmt := topS 19
abbrev n_cut : List Str := ["line", "found", "at", "end", "token"]
abbrev p_cut : List Str := ["line"]
theorem sc_cut : FnScope n_cut p_cut (defScope s_cut) := ⟨rfl, rfl, rfl, by decide +kernel, rfl, by decide +kernel, by decide +kernel⟩
abbrev s_line_of : Stmt := topS 20
abbrev n_line_of : List Str := ["text"]
abbrev p_line_of : List Str := ["text"]
theorem sc_line_of : FnScope n_line_of p_line_of (defScope s_line_of) := ⟨rfl, rfl, rfl, by decide +kernel, rfl, by decide +kernel, by decide +kernel⟩
abbrev s_run_together : Stmt := topS 21
abbrev n_run_together : List Str := ["one", "other"]
abbrev p_run_together : List Str := ["one", "other"]
theorem sc_run_together : FnScope n_run_together p_run_together (defScope s_run_together) := ⟨rfl, rfl, rfl, by decide +kernel, rfl, by decide +kernel, by decide +kernel⟩
abbrev s_tight_line : Stmt := topS 22
abbrev n_tight_line : List Str := ["text", "found", "before", "token"]
abbrev p_tight_line : List Str := ["text"]
theorem sc_tight_line : FnScope n_tight_line p_tight_line (defScope s_tight_line) := ⟨rfl, rfl, rfl, by decide +kernel, rfl, by decide +kernel, by decide +kernel⟩
abbrev s__law_purse : Stmt := topS 24
abbrev n__law_purse : List Str := ["_law_script", "_law_at", "_law_seed"]
abbrev p__law_purse : List Str := ["_law_script", "_law_at"]
theorem sc__law_purse : FnScope n__law_purse p__law_purse (defScope s__law_purse) := ⟨rfl, rfl, rfl, by decide +kernel, rfl, by decide +kernel, by decide +kernel⟩
abbrev s__law_mixed : Stmt := topS 25
abbrev n__law_mixed : List Str := ["_law_seed", "_law_turn", "_law_at", "_law_mixed_here"]
abbrev p__law_mixed : List Str := ["_law_seed", "_law_turn", "_law_at"]
theorem sc__law_mixed : FnScope n__law_mixed p__law_mixed (defScope s__law_mixed) := ⟨rfl, rfl, rfl, by decide +kernel, rfl, by decide +kernel, by decide +kernel⟩
abbrev s__law_draw : Stmt := topS 26
abbrev n__law_draw : List Str := ["_law_purse_here", "_law_many", "_law_drawn", "_law_found", "_law_piece"]
abbrev p__law_draw : List Str := ["_law_purse_here", "_law_many"]
theorem sc__law_draw : FnScope n__law_draw p__law_draw (defScope s__law_draw) := ⟨rfl, rfl, rfl, by decide +kernel, rfl, by decide +kernel, by decide +kernel⟩
abbrev s__law_purses : Stmt := topS 27
abbrev n__law_purses : List Str := ["_law_script", "_law_few", "_law_at"]
abbrev p__law_purses : List Str := ["_law_script", "_law_few"]
theorem sc__law_purses : FnScope n__law_purses p__law_purses (defScope s__law_purses) := ⟨rfl, rfl, rfl, by decide +kernel, rfl, by decide +kernel, by decide +kernel⟩
abbrev s__law_one_of : Stmt := topS 28
abbrev n__law_one_of : List Str := ["_law_purse_here", "_law_some"]
abbrev p__law_one_of : List Str := ["_law_purse_here", "_law_some"]
theorem sc__law_one_of : FnScope n__law_one_of p__law_one_of (defScope s__law_one_of) := ⟨rfl, rfl, rfl, by decide +kernel, rfl, by decide +kernel, by decide +kernel⟩
abbrev s__law_exact : Stmt := topS 29
abbrev n__law_exact : List Str := ["_law_one", "_law_other", "_law_alike", "_law_a", "_law_b", "_law_key"]
abbrev p__law_exact : List Str := ["_law_one", "_law_other"]
theorem sc__law_exact : FnScope n__law_exact p__law_exact (defScope s__law_exact) := ⟨rfl, rfl, rfl, by decide +kernel, rfl, by decide +kernel, by decide +kernel⟩
abbrev s__law_word : Stmt := topS 30
abbrev n__law_word : List Str := ["_law_purse_here", "_law_size", "_law_turn"]
abbrev p__law_word : List Str := ["_law_purse_here"]
theorem sc__law_word : FnScope n__law_word p__law_word (defScope s__law_word) := ⟨rfl, rfl, rfl, by decide +kernel, rfl, by decide +kernel, by decide +kernel⟩
abbrev s__law_number : Stmt := topS 31
abbrev n__law_number : List Str := ["_law_purse_here", "_law_size", "_law_turn"]
abbrev p__law_number : List Str := ["_law_purse_here"]
theorem sc__law_number : FnScope n__law_number p__law_number (defScope s__law_number) := ⟨rfl, rfl, rfl, by decide +kernel, rfl, by decide +kernel, by decide +kernel⟩
abbrev s__law_token : Stmt := topS 32
abbrev n__law_token : List Str := ["_law_purse_here", "_law_way"]
abbrev p__law_token : List Str := ["_law_purse_here"]
theorem sc__law_token : FnScope n__law_token p__law_token (defScope s__law_token) := ⟨rfl, rfl, rfl, by decide +kernel, rfl, by decide +kernel, by decide +kernel⟩
abbrev s__law_kind : Stmt := topS 33
abbrev n__law_kind : List Str := ["_law_token_here"]
abbrev p__law_kind : List Str := ["_law_token_here"]
theorem sc__law_kind : FnScope n__law_kind p__law_kind (defScope s__law_kind) := ⟨rfl, rfl, rfl, by decide +kernel, rfl, by decide +kernel, by decide +kernel⟩
abbrev s__law_joined : Stmt := topS 34
abbrev n__law_joined : List Str := ["_law_one", "_law_other"]
abbrev p__law_joined : List Str := ["_law_one", "_law_other"]
theorem sc__law_joined : FnScope n__law_joined p__law_joined (defScope s__law_joined) := ⟨rfl, rfl, rfl, by decide +kernel, rfl, by decide +kernel, by decide +kernel⟩
abbrev s__law_line : Stmt := topS 35
abbrev n__law_line : List Str := ["_law_text", "_law_gaps", "_law_line_here", "_law_at", "_law_needed"]
abbrev p__law_line : List Str := ["_law_text", "_law_gaps"]
theorem sc__law_line : FnScope n__law_line p__law_line (defScope s__law_line) := ⟨rfl, rfl, rfl, by decide +kernel, rfl, by decide +kernel, by decide +kernel⟩
abbrev s__law_scanned : Stmt := topS 36
abbrev n__law_scanned : List Str := ["_law_line_here", "_law_found", "_law_run", "_law_sign", "_law_group", "_law_token_here"]
abbrev p__law_scanned : List Str := ["_law_line_here"]
theorem sc__law_scanned : FnScope n__law_scanned p__law_scanned (defScope s__law_scanned) := ⟨rfl, rfl, rfl, by decide +kernel, rfl, by decide +kernel, by decide +kernel⟩
abbrev s__law_good : Stmt := topS 37
abbrev n__law_good : List Str := ["_law_token_here", "_law_sign"]
abbrev p__law_good : List Str := ["_law_token_here"]
theorem sc__law_good : FnScope n__law_good p__law_good (defScope s__law_good) := ⟨rfl, rfl, rfl, by decide +kernel, rfl, by decide +kernel, by decide +kernel⟩
abbrev s__law_wild : Stmt := topS 38
abbrev n__law_wild : List Str := ["_law_purse_here", "_law_some", "_law_menu", "_law_turn"]
abbrev p__law_wild : List Str := ["_law_purse_here"]
theorem sc__law_wild : FnScope n__law_wild p__law_wild (defScope s__law_wild) := ⟨rfl, rfl, rfl, by decide +kernel, rfl, by decide +kernel, by decide +kernel⟩
abbrev s__law_told : Stmt := topS 39
abbrev n__law_told : List Str := ["_law_way", "_law_value", "_law_told_here", "e"]
abbrev p__law_told : List Str := ["_law_way", "_law_value"]
theorem sc__law_told : FnScope n__law_told p__law_told (defScope s__law_told) := ⟨rfl, rfl, rfl, by decide +kernel, rfl, by decide +kernel, by decide +kernel⟩
abbrev s__law_very : Stmt := topS 40
abbrev n__law_very : List Str := ["_law_told_here", "_law_thing", "_law_same"]
abbrev p__law_very : List Str := ["_law_told_here", "_law_thing"]
theorem sc__law_very : FnScope n__law_very p__law_very (defScope s__law_very) := ⟨rfl, rfl, rfl, by decide +kernel, rfl, by decide +kernel, by decide +kernel⟩
abbrev s__law_cut_right : Stmt := topS 41
abbrev n__law_cut_right : List Str := ["_law_line_here", "_law_due"]
abbrev p__law_cut_right : List Str := ["_law_line_here", "_law_due"]
theorem sc__law_cut_right : FnScope n__law_cut_right p__law_cut_right (defScope s__law_cut_right) := ⟨rfl, rfl, rfl, by decide +kernel, rfl, by decide +kernel, by decide +kernel⟩
abbrev s__law_text_right : Stmt := topS 42
abbrev n__law_text_right : List Str := ["_law_purse_here", "_law_text", "_law_handed", "_law_blank", "_law_loose", "_law_tight", "_law_line_here", "_law_told_here", "_law_at", "_law_shorter", "_law_bad", "_law_value", "_law_way", "_law_turn", "_law_token_here"]
abbrev p__law_text_right : List Str := ["_law_purse_here"]
theorem sc__law_text_right : FnScope n__law_text_right p__law_text_right (defScope s__law_text_right) := ⟨rfl, rfl, rfl, by decide +kernel, rfl, by decide +kernel, by decide +kernel⟩
abbrev s__law_edges_right : Stmt := topS 43
abbrev n__law_edges_right : List Str := ["_law_rows", "_law_line_here", "_law_due", "_law_value", "_law_sign"]
abbrev p__law_edges_right : List Str := []
theorem sc__law_edges_right : FnScope n__law_edges_right p__law_edges_right (defScope s__law_edges_right) := ⟨rfl, rfl, rfl, by decide +kernel, rfl, by decide +kernel, by decide +kernel⟩
abbrev s_law : Stmt := topS 44
abbrev n_law : List Str := ["_law_script", "_law_purse_here", "_law_turn", "_law_line_here"]
abbrev p_law : List Str := ["_law_script"]
theorem sc_law : FnScope n_law p_law (defScope s_law) := ⟨rfl, rfl, rfl, by decide +kernel, rfl, by decide +kernel, by decide +kernel⟩
abbrev k_SIGNS : Str := Str.ofString "+-*/<>=.,;:!?&|@^~[]{}"
abbrev k_LETTERS : Str := Str.ofString "abcdefghijklmnopqrstuvwxyz"
abbrev k_FIGURES : Str := Str.ofString "0123456789"
structure Txt (K : PySem.W.Frag) (mg : Str → Option Value) : Prop where
  d_has_only : DefAt K mg "has_only" s_has_only p_has_only
  d_is_run : DefAt K mg "is_run" s_is_run p_is_run
  d_is_word : DefAt K mg "is_word" s_is_word p_is_word
  d_is_number : DefAt K mg "is_number" s_is_number p_is_number
  d_kind_of : DefAt K mg "kind_of" s_kind_of p_kind_of
  d_is_text : DefAt K mg "is_text" s_is_text p_is_text
  d_check_text : DefAt K mg "check_text" s_check_text p_check_text
  d_is_token : DefAt K mg "is_token" s_is_token p_is_token
  d_run_end : DefAt K mg "run_end" s_run_end p_run_end
  d_token_end : DefAt K mg "token_end" s_token_end p_token_end
  d_cut : DefAt K mg "cut" s_cut p_cut
  d_line_of : DefAt K mg "line_of" s_line_of p_line_of
  d_run_together : DefAt K mg "run_together" s_run_together p_run_together
  d_tight_line : DefAt K mg "tight_line" s_tight_line p_tight_line
  d__law_purse : DefAt K mg "_law_purse" s__law_purse p__law_purse
  d__law_mixed : DefAt K mg "_law_mixed" s__law_mixed p__law_mixed
  d__law_draw : DefAt K mg "_law_draw" s__law_draw p__law_draw
  d__law_purses : DefAt K mg "_law_purses" s__law_purses p__law_purses
  d__law_one_of : DefAt K mg "_law_one_of" s__law_one_of p__law_one_of
  d__law_exact : DefAt K mg "_law_exact" s__law_exact p__law_exact
  d__law_word : DefAt K mg "_law_word" s__law_word p__law_word
  d__law_number : DefAt K mg "_law_number" s__law_number p__law_number
  d__law_token : DefAt K mg "_law_token" s__law_token p__law_token
  d__law_kind : DefAt K mg "_law_kind" s__law_kind p__law_kind
  d__law_joined : DefAt K mg "_law_joined" s__law_joined p__law_joined
  d__law_line : DefAt K mg "_law_line" s__law_line p__law_line
  d__law_scanned : DefAt K mg "_law_scanned" s__law_scanned p__law_scanned
  d__law_good : DefAt K mg "_law_good" s__law_good p__law_good
  d__law_wild : DefAt K mg "_law_wild" s__law_wild p__law_wild
  d__law_told : DefAt K mg "_law_told" s__law_told p__law_told
  d__law_very : DefAt K mg "_law_very" s__law_very p__law_very
  d__law_cut_right : DefAt K mg "_law_cut_right" s__law_cut_right p__law_cut_right
  d__law_text_right : DefAt K mg "_law_text_right" s__law_text_right p__law_text_right
  d__law_edges_right : DefAt K mg "_law_edges_right" s__law_edges_right p__law_edges_right
  d_law : DefAt K mg "law" s_law p_law
  n_all : mg "all" = none
  n_bool : mg "bool" = none
  n_dict : mg "dict" = none
  n_int : mg "int" = none
  n_isinstance : mg "isinstance" = none
  n_len : mg "len" = none
  n_list : mg "list" = none
  n_max : mg "max" = none
  n_min : mg "min" = none
  n_range : mg "range" = none
  n_str : mg "str" = none
  n_sum : mg "sum" = none
  n_tuple : mg "tuple" = none
  n_zip : mg "zip" = none
  c_FIGURES : ∃ t, mg "FIGURES" = some (.str k_FIGURES t)
  c_LETTERS : ∃ t, mg "LETTERS" = some (.str k_LETTERS t)
  c_MOST : ∃ t, mg "MOST" = some (.int 8 t)
  c_SIGNS : ∃ t, mg "SIGNS" = some (.str k_SIGNS t)
end K2
namespace K2
open PySem L2 Kr
local macro_rules | `(tactic| one_item) => `(tactic| first
  | (with_reducible refine dS_seq ?_) | (with_reducible refine dS_ret ?_) | (with_reducible refine dS_if ?_) | (with_reducible refine dS_next ?_)
  | (with_reducible refine dT_B ?_) | (with_reducible refine dT_test ?_) | (with_reducible refine dT_and ?_) | (with_reducible refine dT_or ?_) | (with_reducible refine dT_not ?_)
  | (with_reducible refine dE_and ?_) | (with_reducible refine dE_or ?_) | (with_reducible refine dE_not ?_) | (with_reducible refine dE_if ?_)
  | (with_reducible refine dE_int ?_) | (with_reducible refine dE_str ?_) | (with_reducible refine dE_bl ?_) | (with_reducible refine dE_non ?_)
  | ((with_reducible refine dE_varE ?_); refine ⟨_, rfl, ?_⟩) | ((with_reducible refine dE_ownE ?_); refine ⟨_, rfl, ?_⟩)
  | (with_reducible refine dE_ix ?_) | (with_reducible refine dE_op2 ?_) | (with_reducible refine dE_chain ?_) | (with_reducible refine dE_un ?_) | (with_reducible refine dA_cons ?_) | (with_reducible refine dA_nil ?_) | (with_reducible refine dE_callF ?_) | (with_reducible refine dE_tup ?_)
  | (refine ⟨fun (_ : true = true) => ?_, fun z => Bool.noConfusion z⟩) | (refine ⟨fun z => Bool.noConfusion z, fun (_ : false = false) => ?_⟩)
  | (with_reducible refine dE_isStr ?_) | (with_reducible refine dE_isInt ?_) | (with_reducible refine dE_isBool ?_) | (with_reducible refine dE_isList ?_) | (with_reducible refine dE_isTup ?_) | (with_reducible refine dE_isDict ?_) | (with_reducible refine dE_cb ?_))
local macro_rules | `(tactic| one_place) => `(tactic| (repeat' one_item))
section
variable {P : Program} {w : World} {K : PySem.W.Frag} {mg : Str → Option Value} {base : Heap}
/-! ### signs.py -/
def hasOnly (x y : List Nat) : Bool := x.all fun c => decide (c ∈ y)
def gHasOnly : List D → D
  | [.str x, .str y] => .bl (hasOnly x.cps.toList y.cps.toList)
  | _ => .non
abbrev sp_has_only : Sp := spF (fun ds => ∃ x y, ds = [.str x, .str y]) gHasOnly
theorem signs_get {x : Str} {j : Nat} {d : D} (h : (signs x)[j]? = some d) : ∃ c, x.cps.toList[j]? = some c ∧ d = .str ⟨#[c]⟩ := by
  unfold signs at h
  rw [List.getElem?_map] at h
  cases e : x.cps.toList[j]? with
  | none => rw [e] at h; cases h
  | some c => rw [e] at h; exact ⟨c, rfl, (Option.some.inj h).symm⟩
theorem all_take {l : List Nat} {j c : Nat} {t : Nat → Bool} (hc : l[j]? = some c) (h : (l.take j).all t = true) : (l.take (j + 1)).all t = t c := by
  rw [List.take_add_one, hc, List.all_append, h]
  simp
theorem ok_has_only (T : Txt K mg) : Con P w K mg base "has_only" p_has_only 1 sp_has_only := by
  refine conF T.d_has_only sc_has_only (fun ds h => ?_) (fun f cdv A outer s H E hr => ⟨_, (pss_cons (ps_for PassesOwn.never rfl (pi_str (pv 0)) (pg_name (i := 2) sc_has_only.nd rfl (.inl rfl)) (pss_one (ps_if (pt_cmpR (op_notInA (units65 hr)) (pv 2) (pv 1) rfl) (pss_one (ps_ret pe_bl)) pss_nil)))
      (pss_one (ps_ret pe_bl))), fun ds h => ?_⟩)
  · obtain ⟨x, y, rfl⟩ := h
    rfl
  · obtain ⟨x, y, rfl⟩ := h
    refine dS_seq (dS_scan (dI_str (dE_var rfl ⟨x, rfl, fun j => (x.cps.toList.take j).all (fun c => decide (c ∈ y.cps.toList)) = true, rfl, fun j d hd hp => ?_, fun hp => ?_⟩)))
    · obtain ⟨c, hc, rfl⟩ := signs_get hd
      one_place
      refine ⟨_, od_ninS, _, rfl, fun hb => ?_, fun hb => ?_⟩
      · one_place
        show _ = D.bl (hasOnly _ _)
        have hn : ¬ c ∈ y.cps.toList := by simpa using hb
        unfold hasOnly
        have e : (x.cps.toList.all fun c => decide (c ∈ y.cps.toList)) = false := by
          rw [List.all_eq_false]
          exact ⟨c, List.mem_of_getElem? hc, by simpa using hn⟩
        rw [e]
      · one_place
        exact ⟨(all_take hc hp).trans (by simpa using hb), rfl⟩
    · one_place
      rw [signs_length] at hp
      show _ = D.bl (hasOnly _ _)
      unfold hasOnly
      rw [List.take_of_length_le (by rw [Array.length_toList]; exact Nat.le_refl _)] at hp
      rw [hp]
/-! a value: a text of no more than a million signs, or no text and no object of a class -/
def fits : D → Prop
  | .str x => x.length ≤ 1000000
  | .ins _ _ _ => False
  | .is _ _ => False
  | .fz _ _ => False
  | _ => True
theorem fits_ni {d : D} (h : fits d) : d.noIns = true := by cases d <;> first | rfl | exact h.elim
theorem small {n : Nat} (h : n ≤ 1000000) : n ≤ sizeLine := by rw [sizeLine_eq]; omega
def isRun (d : D) (y : List Nat) : Bool := match d with
  | .str x => decide (0 < x.length) && decide (x.length ≤ 8) && hasOnly x.cps.toList y
  | _ => false
def gIsRun : List D → D
  | [d, .str y] => .bl (isRun d y.cps.toList)
  | _ => .non
abbrev sp_is_run : Sp := spF (fun ds => ∃ d y, ds = [d, .str y] ∧ fits d) gIsRun
theorem ok_is_run (T : Txt K mg) (c_has_only : Con P w K mg base "has_only" p_has_only 1 sp_has_only) : Con P w K mg base "is_run" p_is_run 2 sp_is_run := by
  obtain ⟨t, c_MOST⟩ := T.c_MOST
  refine conF T.d_is_run sc_is_run (fun ds h => ?_) (fun f cdv A outer s H E hr => ⟨_, (pss_one (ps_ret (pe_and (pe_callB call_isi (by rfl) T.n_isinstance (by decide +kernel) (pa_cons (pv 0) (pa_cons (pe_bltn (v := .ty "str") (by rfl) T.n_str (by decide +kernel) rfl) pa_nil))) (pe_and (pe_chain op_ltA op_leA pe_int (pe_callB call_lenA (by rfl) T.n_len (by decide +kernel) (pa_cons (pv 0) pa_nil)) (pe_glob (v := .int 8) (by rfl) c_MOST ⟨_, rfl⟩)) (pe_one (pe_con c_has_only (hr.mono (by decide)) (by rfl) (pa_cons (pv 0) (pa_cons (pv 1) pa_nil)))))))), fun ds h => ?_⟩)
  · obtain ⟨x, y, rfl, _⟩ := h
    rfl
  · obtain ⟨d, y, rfl, hf⟩ := h
    one_place
    refine ⟨fits_ni hf, _, rfl, fun hb => ?_, fun hb => ?_⟩
    · cases d with
      | str x =>
        one_place
        refine ⟨_, ca_len ⟨small hf, rfl⟩, _, od_lt, fun h1 => ?_, fun h1 => ?_⟩
        · one_place
          refine ⟨_, od_le, _, rfl, fun h2 => ?_, fun h2 => ?_⟩
          · one_place
            refine ⟨⟨x, y, rfl⟩, ?_⟩
            show D.bl _ = D.bl _
            simp only [isRun]
            have e1 : decide (0 < x.length) = true := decide_eq_true (by have := of_decide_eq_true h1; omega)
            have e2 : decide (x.length ≤ 8) = true := decide_eq_true (by have := of_decide_eq_true h2; omega)
            rw [e1, e2]
            rfl
          · show D.bl _ = D.bl _
            simp only [isRun]
            have e2 : decide (x.length ≤ 8) = false := decide_eq_false (by have := of_decide_eq_false h2; omega)
            rw [e2]
            simp
        · refine ⟨_, rfl, fun z => Bool.noConfusion z, fun _ => ?_⟩
          show D.bl _ = D.bl _
          simp only [isRun]
          have e1 : decide (0 < x.length) = false := decide_eq_false (by have := of_decide_eq_false h1; omega)
          rw [e1]
          simp
      | _ => exact Bool.noConfusion hb
    · cases d with
      | str x => exact Bool.noConfusion hb
      | _ => rfl
abbrev LET : List Nat := k_LETTERS.cps.toList
abbrev FIG : List Nat := k_FIGURES.cps.toList
abbrev SGN : List Nat := k_SIGNS.cps.toList
def isWord (d : D) : Bool := isRun d LET
def gIsWord : List D → D
  | [d] => .bl (isWord d)
  | _ => .non
abbrev sp_is_word : Sp := spF (fun ds => ∃ d, ds = [d] ∧ fits d) gIsWord
theorem ok_is_word (T : Txt K mg) (c_is_run : Con P w K mg base "is_run" p_is_run 2 sp_is_run) : Con P w K mg base "is_word" p_is_word 3 sp_is_word := by
  obtain ⟨t, c_LETTERS⟩ := T.c_LETTERS
  refine conF T.d_is_word sc_is_word (fun ds h => ?_) (fun f cdv A outer s H E hr => ⟨_, (pss_one (ps_ret (pe_con c_is_run (hr.mono (by decide)) (by rfl) (pa_cons (pv 0) (pa_cons (pe_glob (v := .str k_LETTERS) (by rfl) c_LETTERS ⟨_, rfl⟩) pa_nil))))), fun ds h => ?_⟩)
  · obtain ⟨x, rfl, _⟩ := h
    rfl
  · obtain ⟨d, rfl, hf⟩ := h
    one_place
    exact ⟨⟨d, _, rfl, hf⟩, rfl⟩
def isNum (d : D) : Bool := isRun d FIG && match d with
  | .str x => decide (x = Str.ofString "0") || !decide (x.cps.toList.head? = some 48)
  | _ => false
def gIsNum : List D → D
  | [d] => .bl (isNum d)
  | _ => .non
abbrev sp_is_number : Sp := spF (fun ds => ∃ d, ds = [d] ∧ fits d) gIsNum
theorem run_str {d : D} {y : List Nat} (h : isRun d y = true) : ∃ x, d = .str x ∧ 0 < x.length ∧ x.length ≤ 8 ∧ hasOnly x.cps.toList y = true := by
  cases d with
  | str x =>
    unfold isRun at h
    rw [Bool.and_eq_true, Bool.and_eq_true, decide_eq_true_eq, decide_eq_true_eq] at h
    exact ⟨x, rfl, h.1.1, h.1.2, h.2⟩
  | _ => exact Bool.noConfusion h
theorem first {x : Str} (h : 0 < x.length) : ∃ c l, x = ⟨(c :: l).toArray⟩ := by
  obtain ⟨⟨l⟩⟩ := x
  cases l with
  | nil => exact absurd h (by simp [Str.length])
  | cons c l => exact ⟨c, l, rfl⟩
theorem str_inj {a b : List Nat} : ((⟨a.toArray⟩ : Str) = ⟨b.toArray⟩) ↔ a = b := by simp
theorem at0 {c : Nat} {l : List Nat} : atI (⟨(c :: l).toArray⟩ : Str).cps.toList 0 = some c := atI_nat (j := 0) rfl
theorem ok_is_number (T : Txt K mg) (c_is_run : Con P w K mg base "is_run" p_is_run 2 sp_is_run) : Con P w K mg base "is_number" p_is_number 3 sp_is_number := by
  obtain ⟨t, c_FIGURES⟩ := T.c_FIGURES
  refine conF T.d_is_number sc_is_number (fun ds h => ?_) (fun f cdv A outer s H E hr => ⟨_, (pss_one (ps_ret (pe_and (pe_con c_is_run (hr.mono (by decide)) (by rfl) (pa_cons (pv 0) (pa_cons (pe_glob (v := .str k_FIGURES) (by rfl) c_FIGURES ⟨_, rfl⟩) pa_nil))) (pe_one (pe_or (pe_cmpR (op_eqA hr.units) (pv 0) pe_str (nomark _)) (pe_one (pe_cmpR (op_neA hr.units) (pe_ix ix_seq (pv 0) pe_int (fun _ _ => rfl)) pe_str (nomark _)))))))), fun ds h => ?_⟩)
  · obtain ⟨x, rfl, _⟩ := h
    rfl
  · obtain ⟨d, rfl, hf⟩ := h
    one_place
    refine ⟨⟨d, _, rfl, hf⟩, _, rfl, fun hb => ?_, fun hb => ?_⟩
    · obtain ⟨x, rfl, h1, h2, h3⟩ := run_str hb
      obtain ⟨c, l, rfl⟩ := first h1
      one_place
      refine ⟨_, od_eqS, _, rfl, fun h4 => ?_, fun h4 => ?_⟩
      · show D.bl _ = D.bl _
        simp only [isNum, hb, h4]
        rfl
      · one_place
        refine ⟨0, .str ⟨#[c]⟩, rfl, .inr (.inr ⟨_, _, rfl, small hf, at0, rfl⟩), ?_⟩
        one_place
        refine ⟨_, od_neS, ?_⟩
        show D.bl _ = D.bl _
        simp only [isNum, hb, h4]
        have e : decide ((⟨#[c]⟩ : Str) = Str.ofString "0") = decide (c = 48) := by
          have : Str.ofString "0" = ⟨#[48]⟩ := rfl
          rw [this]
          simp
        rw [e]
        simp
    · show D.bl _ = D.bl _
      simp only [isNum, hb]
      rfl
/-- the kind of a token, none for what is no token -/
def kindS (x : Str) : D :=
  if isWord (.str x) then .str "word" else if isNum (.str x) then .str "number" else
  if x = Str.ofString "" then .non else
  if x = Str.ofString "(" then .str "open" else if x = Str.ofString ")" then .str "close" else
  if decide (x.length = 1) && hasOnly x.cps.toList SGN then .str "sign" else
  if decide (x.cps.toList.head? = some 39) && isWord (.str ⟨x.cps.toList.tail.toArray⟩) then .str "quoted" else .non
def kindD : D → D
  | .str x => kindS x
  | _ => .non
def gKind : List D → D
  | [d] => kindD d
  | _ => .non
abbrev sp_kind_of : Sp := spF (fun ds => ∃ d, ds = [d] ∧ fits d) gKind
theorem cut_tail {c : Nat} {l : List Nat} : cutS (⟨(c :: l).toArray⟩ : Str) (some 1) none = ⟨l.toArray⟩ := by
  unfold cutS
  have e1 : HT.sIx (⟨(c :: l).toArray⟩ : Str).length 0 (some 1) = 1 := by
    rw [show (some (1 : Int)) = some ((1 : Nat) : Int) from rfl, HT.sIx_nat]
    simp [Str.length]
  rw [e1, HT.sIx_none]
  simp [Str.length]
theorem ok_kind_of (T : Txt K mg) (c_is_word : Con P w K mg base "is_word" p_is_word 3 sp_is_word) (c_is_number : Con P w K mg base "is_number" p_is_number 3 sp_is_number) : Con P w K mg base "kind_of" p_kind_of 4 sp_kind_of := by
  obtain ⟨t, c_SIGNS⟩ := T.c_SIGNS
  refine conF T.d_kind_of sc_kind_of (fun ds h => ?_) (fun f cdv A outer s H E hr => ⟨_, (pss_cons (ps_if (pt_val (pe_con c_is_word (hr.mono (by decide)) (by rfl) (pa_cons (pv 0) pa_nil))) (pss_one (ps_ret pe_str)) pss_nil)
      (pss_cons (ps_if (pt_val (pe_con c_is_number (hr.mono (by decide)) (by rfl) (pa_cons (pv 0) pa_nil))) (pss_one (ps_ret pe_str)) pss_nil)
      (pss_cons (ps_if (PW.pt (pw_or (pt_not (pt_val (pe_callB call_isi (by rfl) T.n_isinstance (by decide +kernel) (pa_cons (pv 0) (pa_cons (pe_bltn (v := .ty "str") (by rfl) T.n_str (by decide +kernel) rfl) pa_nil))))) (pw_or1 (pt_cmpR (op_eqA hr.units) (pv 0) pe_str (nomark _))))) (pss_one (ps_ret pe_non)) pss_nil)
      (pss_cons (ps_if (pt_cmpR (op_inA (units65 hr)) (pv 0) (pe_tup (pa_cons pe_str (pa_cons pe_str pa_nil))) rfl) (pss_one (ps_ret (pe_ifExp (pt_cmpR (op_eqA hr.units) (pv 0) pe_str (nomark _)) pe_str pe_str))) pss_nil)
      (pss_cons (ps_if (PW.pt (pw_and (pt_cmpR (op_eqA hr.units) (pe_callB call_lenA (by rfl) T.n_len (by decide +kernel) (pa_cons (pv 0) pa_nil)) pe_int (nomark _)) (pw_and1 (pt_cmpR (op_inA (units65 hr)) (pv 0) (pe_glob (v := .str k_SIGNS) (by rfl) c_SIGNS ⟨_, rfl⟩) rfl)))) (pss_one (ps_ret pe_str)) pss_nil)
      (pss_cons (ps_if (PW.pt (pw_and (pt_cmpR (op_eqA hr.units) (pe_ix ix_seq (pv 0) pe_int (fun _ _ => rfl)) pe_str (nomark _)) (pw_and1 (pt_val (pe_con c_is_word (hr.mono (by decide)) (by rfl) (pa_cons (pe_slice sl_A (pv 0) (po_some pe_int) po_none) pa_nil)))))) (pss_one (ps_ret pe_str)) pss_nil)
      (pss_one (ps_ret pe_non)))))))), fun ds h => ?_⟩)
  · obtain ⟨x, rfl, _⟩ := h
    rfl
  · obtain ⟨d, rfl, hf⟩ := h
    one_place
    refine ⟨⟨d, rfl, hf⟩, _, rfl, fun h1 => ?_, fun h1 => ?_⟩
    · one_place
      obtain ⟨x, rfl, _⟩ := run_str h1
      show _ = kindS x
      simp only [kindS, h1, if_true]
    one_place
    refine ⟨⟨d, rfl, hf⟩, _, rfl, fun h2 => ?_, fun h2 => ?_⟩
    · one_place
      obtain ⟨x, rfl, _⟩ := run_str (by unfold isNum at h2; rw [Bool.and_eq_true] at h2; exact h2.1)
      show _ = kindS x
      simp only [kindS, h1, h2, if_true, Bool.false_eq_true, if_false]
    one_place
    refine ⟨fits_ni hf, _, rfl, ?_⟩
    have e3 : d.isStr = true ∨ d.isStr = false := by cases d.isStr <;> simp
    rcases e3 with h3 | h3
    rotate_left
    · rw [h3]
      one_place
      cases d with
      | str x => exact Bool.noConfusion h3
      | _ => rfl
    rw [h3]
    obtain ⟨x, rfl⟩ : ∃ x, d = .str x := by
      cases d with
      | str x => exact ⟨x, rfl⟩
      | _ => exact Bool.noConfusion h3
    one_place
    refine ⟨_, od_eqS, _, rfl, fun h4 => ?_, fun h4 => ?_⟩
    · one_place
      show _ = kindS x
      have h4 := of_decide_eq_true h4
      simp only [kindS, h1, h2, if_pos h4, Bool.false_eq_true, if_false]
    have h4 := of_decide_eq_false h4
    one_place
    refine ⟨by decide, ?_⟩
    refine ⟨_, od_in rfl rfl, _, rfl, fun h5 => ?_, fun h5 => ?_⟩
    · one_place
      refine ⟨_, od_eqS, _, rfl, fun h6 => ?_, fun h6 => ?_⟩
      · one_place
        have h6 := of_decide_eq_true h6
        show _ = kindS x
        simp only [kindS, h1, h2, if_neg h4, if_pos h6, Bool.false_eq_true, if_false]
      · one_place
        have h6 := of_decide_eq_false h6
        have h7 : x = Str.ofString ")" := by
          have : ((Str.ofString "(" == x) || ((Str.ofString ")" == x) || false)) = true := h5
          rw [Bool.or_false, Bool.or_eq_true, beq_iff_eq, beq_iff_eq] at this
          rcases this with z | z
          · exact absurd z.symm h6
          · exact z.symm
        show _ = kindS x
        simp only [kindS, h1, h2, if_neg h4, if_neg h6, if_pos h7, Bool.false_eq_true, if_false]
    have h5' : ¬ x = Str.ofString "(" ∧ ¬ x = Str.ofString ")" := by
      have : ((Str.ofString "(" == x) || ((Str.ofString ")" == x) || false)) = false := h5
      rw [Bool.or_false, Bool.or_eq_false_iff, beq_eq_false_iff_ne, beq_eq_false_iff_ne] at this
      exact ⟨fun z => this.1 z.symm, fun z => this.2 z.symm⟩
    have hx : 0 < x.length := by
      refine Nat.pos_of_ne_zero fun z => h4 ?_
      obtain ⟨⟨l⟩⟩ := x
      cases l with
      | nil => rfl
      | cons c l => simp [Str.length] at z
    obtain ⟨c, l, rfl⟩ := first hx
    one_place
    refine ⟨_, ca_len ⟨small hf, rfl⟩, ?_⟩
    one_place
    refine ⟨_, od_eqI, _, rfl, fun h6 => ?_, fun h6 => ?_⟩
    · have e : l = [] := by
        have := of_decide_eq_true h6
        simp [Str.length] at this
        exact List.eq_nil_of_length_eq_zero (by omega)
      subst e
      have h1' : isWord (.str ⟨#[c]⟩) = false := h1
      have h2' : isNum (.str ⟨#[c]⟩) = false := h2
      one_place
      refine ⟨_, od_inS, _, rfl, fun h7 => ?_, fun h7 => ?_⟩
      · one_place
        show _ = kindS _
        have e7 : hasOnly (⟨#[c]⟩ : Str).cps.toList SGN = true := by simpa [hasOnly] using h7
        simp only [kindS, h1', h2', if_neg h4, if_neg h5'.1, if_neg h5'.2, e7, Bool.false_eq_true, if_false]
        rfl
      · have hs : (decide ((⟨#[c]⟩ : Str).length = 1) && hasOnly (⟨#[c]⟩ : Str).cps.toList SGN) = false := by
          rw [Bool.and_eq_false_iff]
          right
          simpa [hasOnly] using h7
        one_place
        refine ⟨0, .str ⟨#[c]⟩, rfl, .inr (.inr ⟨_, _, rfl, small hf, at0, rfl⟩), ?_⟩
        one_place
        refine ⟨_, od_eqS, _, rfl, fun h8 => ?_, fun h8 => ?_⟩
        · have e8 : c = 39 := by
            have := of_decide_eq_true h8
            have e : (⟨#[c]⟩ : Str) = ⟨#[39]⟩ := this
            simpa using e
          subst e8
          have ff : fits (.str ⟨([] : List Nat).toArray⟩) := by
            simp [fits, Str.length]
          one_place
          refine dE_slS ?_
          one_place
          refine dO_some ?_
          one_place
          refine ⟨1, rfl, dO_none ⟨_, rfl, small hf, ?_⟩⟩
          one_place
          rw [cut_tail]
          refine ⟨⟨_, rfl, ff⟩, _, rfl, fun h9 => ?_, fun h9 => ?_⟩
          · exact absurd h9 (by decide)
          · one_place
        · one_place
          show _ = kindS _
          have e8 : ¬ c = 39 := fun z => by
            have := of_decide_eq_false h8
            exact this (by rw [z]; rfl)
          simp only [kindS, h1', h2', if_neg h4, if_neg h5'.1, if_neg h5'.2, hs, Bool.false_eq_true, if_false]
          have e9 : decide ((c :: ([] : List Nat)).toArray.toList.head? = some 39) = false := by simp [e8]
          rw [e9, Bool.false_and]
          rfl
    · have h1' : isWord (.str ⟨(c :: l).toArray⟩) = false := h1
      have h2' : isNum (.str ⟨(c :: l).toArray⟩) = false := h2
      have hs : (decide ((⟨(c :: l).toArray⟩ : Str).length = 1) && hasOnly (⟨(c :: l).toArray⟩ : Str).cps.toList SGN) = false := by
        rw [Bool.and_eq_false_iff]
        left
        have := of_decide_eq_false h6
        exact decide_eq_false (by omega)
      one_place
      refine ⟨0, .str ⟨#[c]⟩, rfl, .inr (.inr ⟨_, _, rfl, small hf, at0, rfl⟩), ?_⟩
      one_place
      refine ⟨_, od_eqS, _, rfl, fun h8 => ?_, fun h8 => ?_⟩
      · have e8 : c = 39 := by
          have := of_decide_eq_true h8
          have e : (⟨#[c]⟩ : Str) = ⟨#[39]⟩ := this
          simpa using e
        subst e8
        have ff : fits (.str ⟨l.toArray⟩) := by
          have : fits (.str ⟨(39 :: l).toArray⟩) := hf
          simp [fits, Str.length] at this ⊢
          omega
        one_place
        refine dE_slS ?_
        one_place
        refine dO_some ?_
        one_place
        refine ⟨1, rfl, dO_none ⟨_, rfl, small hf, ?_⟩⟩
        one_place
        rw [cut_tail]
        refine ⟨⟨_, rfl, ff⟩, _, rfl, fun h9 => ?_, fun h9 => ?_⟩
        · one_place
          show _ = kindS _
          have h9' : isWord (.str ⟨(39 :: l).toArray.toList.tail.toArray⟩) = true := h9
          simp only [kindS, h1', h2', if_neg h4, if_neg h5'.1, if_neg h5'.2, hs, Bool.false_eq_true, if_false]
          rw [h9']
          rfl
        · one_place
          show _ = kindS _
          have h9' : isWord (.str ⟨(39 :: l).toArray.toList.tail.toArray⟩) = false := h9
          simp only [kindS, h1', h2', if_neg h4, if_neg h5'.1, if_neg h5'.2, hs, Bool.false_eq_true, if_false]
          rw [h9', Bool.and_false]
          rfl
      · one_place
        show _ = kindS _
        have e8 : ¬ c = 39 := fun z => by
          have := of_decide_eq_false h8
          exact this (by rw [z]; rfl)
        simp only [kindS, h1', h2', if_neg h4, if_neg h5'.1, if_neg h5'.2, hs, Bool.false_eq_true, if_false]
        have e9 : decide ((c :: l).toArray.toList.head? = some 39) = false := by simp [e8]
        rw [e9, Bool.false_and]
        rfl
end
end K2
namespace K2
open PySem L2 Kr
local macro_rules | `(tactic| one_item) => `(tactic| first
  | (with_reducible refine dS_seq ?_) | (with_reducible refine dS_ret ?_) | (with_reducible refine dS_if ?_) | (with_reducible refine dS_next ?_) | (with_reducible refine dS_nextE ?_) | (with_reducible refine dS_brkE ?_) | (with_reducible refine dS_ctE ?_)
  | (with_reducible refine dT_B ?_) | (with_reducible refine dT_test ?_) | (with_reducible refine dT_and ?_) | (with_reducible refine dT_or ?_) | (with_reducible refine dT_not ?_)
  | (with_reducible refine dE_and ?_) | (with_reducible refine dE_or ?_) | (with_reducible refine dE_not ?_) | (with_reducible refine dE_if ?_)
  | (with_reducible refine dE_int ?_) | (with_reducible refine dE_str ?_) | (with_reducible refine dE_bl ?_) | (with_reducible refine dE_non ?_)
  | ((with_reducible refine dE_varE ?_); refine ⟨_, rfl, ?_⟩) | ((with_reducible refine dE_ownE ?_); refine ⟨_, rfl, ?_⟩)
  | (with_reducible refine dE_ix ?_) | (with_reducible refine dE_op2 ?_) | (with_reducible refine dE_chain ?_) | (with_reducible refine dE_un ?_) | (with_reducible refine dA_cons ?_) | (with_reducible refine dA_nil ?_) | (with_reducible refine dE_callF ?_) | (with_reducible refine dE_tup ?_)
  | (refine ⟨fun (_ : true = true) => ?_, fun z => Bool.noConfusion z⟩) | (refine ⟨fun z => Bool.noConfusion z, fun (_ : false = false) => ?_⟩)
  | (with_reducible refine dE_isStr ?_) | (with_reducible refine dE_isInt ?_) | (with_reducible refine dE_isBool ?_) | (with_reducible refine dE_isList ?_) | (with_reducible refine dE_isTup ?_) | (with_reducible refine dE_isDict ?_) | (with_reducible refine dE_cb ?_) | (with_reducible refine dE_lc ?_) | (with_reducible refine dE_lstF ?_) | (with_reducible refine dI_list ?_) | (with_reducible refine dI_tup ?_) | (with_reducible refine dI_str ?_) | (with_reducible refine dI_rng1 ?_) | (with_reducible refine dI_rng2 ?_) | (with_reducible refine dS_set ?_) | (with_reducible refine dS_augI ?_) | (with_reducible refine dS_brk ?_) | (with_reducible refine dS_ct ?_) | (with_reducible refine dO_none ?_) | (with_reducible refine dO_some ?_))
local macro_rules | `(tactic| one_place) => `(tactic| (repeat' one_item))
section
variable {P : Program} {w : World} {K : PySem.W.Frag} {mg : Str → Option Value} {base : Heap}
/-! ### is_text, is_token -/
/-- what may be asked whether it is a text -/
def fitsT (d : D) : Prop := d.noIns = true ∧ ∀ l, d = .lst l → l.length ≤ 100000 ∧ ∀ e ∈ l, fits e
def isTok (d : D) : Bool := !(kindD d).isNon
def isText : D → Bool
  | .lst l => l.all isTok
  | _ => false
def gIsText : List D → D
  | [d] => .bl (isText d)
  | _ => .non
abbrev sp_is_text : Sp := spF (fun ds => ∃ d, ds = [d] ∧ fitsT d) gIsText
theorem ok_is_text (T : Txt K mg) (c_kind_of : Con P w K mg base "kind_of" p_kind_of 4 sp_kind_of) : Con P w K mg base "is_text" p_is_text 5 sp_is_text := by
  refine conF T.d_is_text sc_is_text (fun ds h => ?_) (fun f cdv A outer s H E hr => ⟨_, (pss_one (ps_ret (pe_and (pe_callB call_isi (by rfl) T.n_isinstance (by decide +kernel) (pa_cons (pv 0) (pa_cons (pe_bltn (v := .ty "list") (by rfl) T.n_list (by decide +kernel) rfl) pa_nil))) (pe_one (pe_callB (cr_all rfl) (by rfl) T.n_all (by decide +kernel) (pa_cons (pe_lc (own := [("token", 1)]) rfl sc_is_text.nd (pi_list (pv 0)) (blkOk_by (own := [("token", 1)]) (N := n_is_text) (sc := defScope s_is_text) (by decide +kernel)) (fun _ _ _ _ _ => (pg_name (i := 1) sc_is_text.nd rfl (Or.inl rfl))) (fun _ _ _ _ _ => pts_nil) (fun _ _ _ _ _ => (pe_cmpR op_isNotA (pe_con c_kind_of (hr.mono (by decide)) (by rfl) (pa_cons (pv 1) pa_nil)) pe_non (nomark _)))) pa_nil)))))), fun ds h => ?_⟩)
  · obtain ⟨x, rfl, _⟩ := h
    rfl
  · obtain ⟨d, rfl, hf⟩ := h
    one_place
    refine ⟨hf.1, _, rfl, fun hb => ?_, fun hb => ?_⟩
    · cases d with
      | lst l =>
        obtain ⟨hl, hs⟩ := hf.2 l rfl
        one_place
        refine dL_map (dI_list (dE_varE ⟨_, rfl, l, rfl, fun e => .bl (isTok e), by omega, fun e he => ?_, ?_⟩))
        · one_place
          refine ⟨⟨e, rfl, hs e he⟩, ?_⟩
          one_place
          exact ⟨_, od_isNot, rfl, rfl⟩
        · one_place
          have e1 : l.map (fun e => D.bl (isTok e)) = (l.map isTok).map D.bl := by rw [List.map_map]; rfl
          rw [e1]
          refine ⟨_, ca_all, ?_⟩
          show D.bl _ = D.bl (l.all isTok)
          rw [List.all_map]
          rfl
      | _ => exact Bool.noConfusion hb
    · cases d with
      | lst l => exact Bool.noConfusion hb
      | _ => rfl
def gIsTok : List D → D
  | [d] => .bl (isTok d)
  | _ => .non
abbrev sp_is_token : Sp := spF (fun ds => ∃ d, ds = [d] ∧ fits d) gIsTok
theorem ok_is_token (T : Txt K mg) (c_kind_of : Con P w K mg base "kind_of" p_kind_of 4 sp_kind_of) : Con P w K mg base "is_token" p_is_token 5 sp_is_token := by
  refine conF T.d_is_token sc_is_token (fun ds h => ?_) (fun f cdv A outer s H E hr => ⟨_, (pss_one (ps_ret (pe_cmpR op_isNotA (pe_con c_kind_of (hr.mono (by decide)) (by rfl) (pa_cons (pv 0) pa_nil)) pe_non (nomark _)))), fun ds h => ?_⟩)
  · obtain ⟨x, rfl, _⟩ := h
    rfl
  · obtain ⟨d, rfl, hf⟩ := h
    one_place
    refine ⟨⟨d, rfl, hf⟩, ?_⟩
    one_place
    exact ⟨_, od_isNot, rfl⟩
/-! ### run_end, token_end -/
/-- how many signs at the head are of these -/
def runLen (y : List Nat) : List Nat → Nat
  | [] => 0
  | c :: l => if c ∈ y then runLen y l + 1 else 0
theorem runLen_le (y : List Nat) : ∀ l, runLen y l ≤ l.length
  | [] => Nat.le_refl _
  | c :: l => by
    unfold runLen
    split
    · have := runLen_le y l
      simp; omega
    · exact Nat.zero_le _
def gRunEnd : List D → D
  | [.str x, .int a, .str y] => .int (a + (runLen y.cps.toList (x.cps.toList.drop a.toNat) : Nat))
  | _ => .non
abbrev sp_run_end : Sp := spF (fun ds => ∃ (x : Str) (a : Nat) (y : Str), ds = [.str x, .int a, .str y] ∧ x.length ≤ 1000000 ∧ a ≤ x.length) gRunEnd
theorem ok_run_end (T : Txt K mg) : Con P w K mg base "run_end" p_run_end 1 sp_run_end := by
  refine conF T.d_run_end sc_run_end (fun ds h => ?_) (fun f cdv A outer s H E hr => ⟨_, (pss_cons (ps_set (i := 3) sc_run_end.nd rfl (.inl rfl) (pv 1))
      (pss_cons (ps_while PassesOwn.never (PW.pt (pw_and (pt_cmpR op_ltA (pv 3) (pe_callB call_lenA (by rfl) T.n_len (by decide +kernel) (pa_cons (pv 0) pa_nil)) (nomark _)) (pw_and1 (pt_cmpR (op_inA (units65 hr)) (pe_ix ix_seq (pv 0) (pv 3) (fun _ _ => rfl)) (pv 2) rfl)))) (pss_one (ps_aug (i := 3) sc_run_end.nd rfl (.inl rfl) pe_int ip_add)))
      (pss_one (ps_ret (pv 3))))), fun ds h => ?_⟩)
  · obtain ⟨x, a, y, rfl, _⟩ := h
    rfl
  · obtain ⟨x, a, y, rfl, hx, ha⟩ := h
    one_place
    refine dS_seq (dS_while (fun m G => ∃ e : Nat, G = [.imm (.str x), .imm (.int a), .imm (.str y), .imm (.int e)] ∧ a ≤ e ∧ e ≤ x.length ∧ m = x.length - e ∧ (a : Int) + (runLen y.cps.toList (x.cps.toList.drop a) : Nat) = (e : Int) + (runLen y.cps.toList (x.cps.toList.drop e) : Nat)) (x.length - a) ⟨a, rfl, Nat.le_refl _, ha, rfl, rfl⟩ ?_)
    intro m G ⟨e, hG, h1, h2, hm, hr'⟩
    subst hG
    one_place
    refine ⟨_, ca_len ⟨small hx, rfl⟩, _, od_lt, _, rfl, fun h3 => ?_, fun h3 => ?_⟩
    · have h3 := of_decide_eq_true h3
      have h4 : e < x.cps.toList.length := by rw [Array.length_toList]; show e < x.length; omega
      obtain ⟨c, hc⟩ : ∃ c, x.cps.toList[e]? = some c := ⟨_, List.getElem?_eq_getElem h4⟩
      have hd : x.cps.toList.drop e = c :: x.cps.toList.drop (e + 1) := by
        rw [List.drop_eq_getElem_cons h4]
        congr 1
        rw [List.getElem?_eq_getElem h4] at hc
        exact Option.some.inj hc
      one_place
      refine ⟨e, .str ⟨#[c]⟩, rfl, .inr (.inr ⟨_, _, rfl, small hx, atI_nat hc, rfl⟩), ?_⟩
      one_place
      refine ⟨_, od_inS, _, rfl, ?_⟩
      by_cases h5 : c ∈ y.cps.toList
      · rw [decide_eq_true h5]
        one_place
        refine ⟨_, rfl, ?_⟩
        one_place
        refine ⟨_, rfl, x.length - (e + 1), by omega, e + 1, ?_, by omega, by omega, rfl, ?_⟩
        · simp
        · rw [hr', hd, runLen, if_pos h5]
          omega
      · rw [decide_eq_false h5]
        one_place
        show _ = D.int _
        rw [show (a : Int).toNat = a from rfl, hr', hd, runLen, if_neg h5]
        simp
    · one_place
      have h3 := of_decide_eq_false h3
      show _ = D.int _
      rw [show (a : Int).toNat = a from rfl, hr', List.drop_eq_nil_of_le (by rw [Array.length_toList]; show x.length ≤ e; omega), runLen]
      simp
/-- where what stands at the head ends -/
def tokLen : List Nat → Nat
  | [] => 0
  | c :: l => if c ∈ LET then runLen LET (c :: l) else if c ∈ FIG then runLen FIG (c :: l) else if c = 39 then runLen LET l + 1 else 1
def gTokEnd : List D → D
  | [.str x, .int a] => .int (a + (tokLen (x.cps.toList.drop a.toNat) : Nat))
  | _ => .non
abbrev sp_token_end : Sp := spF (fun ds => ∃ (x : Str) (a : Nat), ds = [.str x, .int a] ∧ x.length ≤ 1000000 ∧ a < x.length) gTokEnd
theorem drop_cons {x : Str} {a : Nat} (h : a < x.length) : ∃ c, x.cps.toList[a]? = some c ∧ x.cps.toList.drop a = c :: x.cps.toList.drop (a + 1) := by
  have h4 : a < x.cps.toList.length := by rw [Array.length_toList]; exact h
  refine ⟨_, List.getElem?_eq_getElem h4, List.drop_eq_getElem_cons h4⟩
theorem ok_token_end (T : Txt K mg) (c_run_end : Con P w K mg base "run_end" p_run_end 1 sp_run_end) : Con P w K mg base "token_end" p_token_end 2 sp_token_end := by
  obtain ⟨t1, c_LETTERS⟩ := T.c_LETTERS
  obtain ⟨t2, c_FIGURES⟩ := T.c_FIGURES
  refine conF T.d_token_end sc_token_end (fun ds h => ?_) (fun f cdv A outer s H E hr => ⟨_, (pss_cons (ps_if (pt_cmpR (op_inA (units65 hr)) (pe_ix ix_seq (pv 0) (pv 1) (fun _ _ => rfl)) (pe_glob (v := .str k_LETTERS) (by rfl) c_LETTERS ⟨_, rfl⟩) rfl) (pss_one (ps_ret (pe_con c_run_end (hr.mono (by decide)) (by rfl) (pa_cons (pv 0) (pa_cons (pv 1) (pa_cons (pe_glob (v := .str k_LETTERS) (by rfl) c_LETTERS ⟨_, rfl⟩) pa_nil)))))) pss_nil)
      (pss_cons (ps_if (pt_cmpR (op_inA (units65 hr)) (pe_ix ix_seq (pv 0) (pv 1) (fun _ _ => rfl)) (pe_glob (v := .str k_FIGURES) (by rfl) c_FIGURES ⟨_, rfl⟩) rfl) (pss_one (ps_ret (pe_con c_run_end (hr.mono (by decide)) (by rfl) (pa_cons (pv 0) (pa_cons (pv 1) (pa_cons (pe_glob (v := .str k_FIGURES) (by rfl) c_FIGURES ⟨_, rfl⟩) pa_nil)))))) pss_nil)
      (pss_cons (ps_if (pt_cmpR (op_eqA hr.units) (pe_ix ix_seq (pv 0) (pv 1) (fun _ _ => rfl)) pe_str (nomark _)) (pss_one (ps_ret (pe_con c_run_end (hr.mono (by decide)) (by rfl) (pa_cons (pv 0) (pa_cons (pe_op op_addA (pv 1) pe_int) (pa_cons (pe_glob (v := .str k_LETTERS) (by rfl) c_LETTERS ⟨_, rfl⟩) pa_nil)))))) pss_nil)
      (pss_one (ps_ret (pe_op op_addA (pv 1) pe_int)))))), fun ds h => ?_⟩)
  · obtain ⟨x, a, rfl, _⟩ := h
    rfl
  · obtain ⟨x, a, rfl, hx, ha⟩ := h
    obtain ⟨c, hc, hd⟩ := drop_cons ha
    have it : ItD (.str x) a (.str ⟨#[c]⟩) := .inr (.inr ⟨_, _, rfl, small hx, atI_nat hc, rfl⟩)
    have et : (a : Int).toNat = a := rfl
    one_place
    refine ⟨a, .str ⟨#[c]⟩, rfl, it, ?_⟩
    one_place
    refine ⟨_, od_inS, _, rfl, fun h1 => ?_, fun h1 => ?_⟩
    · one_place
      refine ⟨⟨x, a, _, rfl, hx, by omega⟩, ?_⟩
      show D.int _ = D.int _
      rw [et, hd, tokLen, if_pos (of_decide_eq_true h1)]
    have h1 := of_decide_eq_false h1
    one_place
    refine ⟨a, .str ⟨#[c]⟩, rfl, it, ?_⟩
    one_place
    refine ⟨_, od_inS, _, rfl, fun h2 => ?_, fun h2 => ?_⟩
    · one_place
      refine ⟨⟨x, a, _, rfl, hx, by omega⟩, ?_⟩
      show D.int _ = D.int _
      rw [et, hd, tokLen, if_neg h1, if_pos (of_decide_eq_true h2)]
    have h2 := of_decide_eq_false h2
    one_place
    refine ⟨a, .str ⟨#[c]⟩, rfl, it, ?_⟩
    one_place
    have e3 : decide ((⟨#[c]⟩ : Str) = Str.ofString "'") = decide (c = 39) := by
      have : Str.ofString "'" = ⟨#[39]⟩ := rfl
      rw [this]
      simp
    refine ⟨_, od_eqS, _, rfl, ?_⟩
    rw [e3]
    by_cases h3 : c = 39
    · rw [decide_eq_true h3]
      one_place
      refine ⟨_, od_add, ?_⟩
      one_place
      refine ⟨⟨x, a + 1, k_LETTERS, by simp, hx, by omega⟩, ?_⟩
      show D.int _ = D.int _
      rw [et, hd, tokLen, if_neg h1, if_neg h2, if_pos h3, show ((a : Int) + 1).toNat = a + 1 by omega]
      refine congrArg D.int ?_
      dsimp only [LET]
      omega
    · rw [decide_eq_false h3]
      one_place
      refine ⟨_, od_add, ?_⟩
      show D.int _ = D.int _
      rw [et, hd, tokLen, if_neg h1, if_neg h2, if_neg h3]
      simp
end
end K2
namespace K2
open PySem L2 Kr
local macro_rules | `(tactic| one_item) => `(tactic| first
  | (with_reducible refine dS_seq ?_) | (with_reducible refine dS_ret ?_) | (with_reducible refine dS_if ?_) | (with_reducible refine dS_next ?_) | (with_reducible refine dS_nextE ?_) | (with_reducible refine dS_brkE ?_) | (with_reducible refine dS_ctE ?_)
  | (with_reducible refine dT_B ?_) | (with_reducible refine dT_test ?_) | (with_reducible refine dT_and ?_) | (with_reducible refine dT_or ?_) | (with_reducible refine dT_not ?_)
  | (with_reducible refine dE_and ?_) | (with_reducible refine dE_or ?_) | (with_reducible refine dE_not ?_) | (with_reducible refine dE_if ?_)
  | (with_reducible refine dE_int ?_) | (with_reducible refine dE_str ?_) | (with_reducible refine dE_bl ?_) | (with_reducible refine dE_non ?_)
  | ((with_reducible refine dE_varE ?_); refine ⟨_, rfl, ?_⟩) | ((with_reducible refine dE_ownE ?_); refine ⟨_, rfl, ?_⟩)
  | (with_reducible refine dE_ix ?_) | (with_reducible refine dE_op2 ?_) | (with_reducible refine dE_chain ?_) | (with_reducible refine dE_un ?_) | (with_reducible refine dA_cons ?_) | (with_reducible refine dA_nil ?_) | (with_reducible refine dE_callF ?_) | (with_reducible refine dE_tup ?_)
  | (refine ⟨fun (_ : true = true) => ?_, fun z => Bool.noConfusion z⟩) | (refine ⟨fun z => Bool.noConfusion z, fun (_ : false = false) => ?_⟩)
  | (with_reducible refine dE_isStr ?_) | (with_reducible refine dE_isInt ?_) | (with_reducible refine dE_isBool ?_) | (with_reducible refine dE_isList ?_) | (with_reducible refine dE_isTup ?_) | (with_reducible refine dE_isDict ?_) | (with_reducible refine dE_cb ?_) | (with_reducible refine dE_lc ?_) | (with_reducible refine dE_lstF ?_) | (with_reducible refine dI_list ?_) | (with_reducible refine dI_tup ?_) | (with_reducible refine dI_str ?_) | (with_reducible refine dI_rng1 ?_) | (with_reducible refine dI_rng2 ?_) | (with_reducible refine dS_set ?_) | (with_reducible refine dS_augI ?_) | (with_reducible refine dS_brk ?_) | (with_reducible refine dS_ct ?_) | (with_reducible refine dO_none ?_) | (with_reducible refine dO_some ?_))
local macro_rules | `(tactic| one_place) => `(tactic| (repeat' one_item))
section
variable {P : Program} {w : World} {K : PySem.W.Frag} {mg : Str → Option Value} {base : Heap}
/-- a text of these code points -/
abbrev S (l : List Nat) : Str := ⟨l.toArray⟩
/-! ### check_text, line_of, run_together, tight_line: of texts -/
def txts (l : List (List Nat)) : D := .lst (l.map fun t => .str (S t))
/-- a list of tokens -/
def toks (l : List (List Nat)) : Prop := l.length ≤ 100 ∧ ∀ t ∈ l, isTok (.str (S t)) = true ∧ t.length ≤ 9
theorem toks_fits {l : List (List Nat)} (h : toks l) : fitsT (txts l) := by
  refine ⟨rfl, fun m e => ?_⟩
  have e' : m = l.map fun t => .str (S t) := (D.lst.inj e).symm
  subst e'
  refine ⟨by rw [List.length_map]; have := h.1; omega, fun x hx => ?_⟩
  obtain ⟨t, ht, rfl⟩ := List.mem_map.mp hx
  have := (h.2 t ht).2
  show t.toArray.size ≤ 1000000
  simp
  omega
theorem toks_text {l : List (List Nat)} (h : toks l) : isText (txts l) = true := by
  show (l.map fun t => D.str (S t)).all isTok = true
  rw [List.all_eq_true]
  intro x hx
  obtain ⟨t, ht, rfl⟩ := List.mem_map.mp hx
  exact (h.2 t ht).1
abbrev sp_check_text : Sp := spF (fun ds => ∃ l, ds = [txts l] ∧ toks l) (fun _ => .non)
theorem ok_check_text (T : Txt K mg) (c_is_text : Con P w K mg base "is_text" p_is_text 5 sp_is_text) : Con P w K mg base "check_text" p_check_text 6 sp_check_text := by
  refine conF T.d_check_text sc_check_text (fun ds h => ?_) (fun f cdv A outer s H E hr => ⟨_, (pss_one (ps_if (pt_not (pt_val (pe_con c_is_text (hr.mono (by decide)) (by rfl) (pa_cons (pv 0) pa_nil)))) (pss_one ps_never) pss_nil)), fun ds h => ?_⟩)
  · obtain ⟨x, rfl, _⟩ := h
    rfl
  · obtain ⟨l, rfl, hl⟩ := h
    one_place
    refine ⟨⟨_, rfl, toks_fits hl⟩, _, rfl, ?_⟩
    rw [toks_text hl]
    one_place
def gLineOf : List D → D
  | [.lst l] => .str (Txt.join (Str.ofString " ") (l.map fun d => match d with | .str x => x | _ => Str.ofString ""))
  | _ => .non
theorem txts_strs (l : List (List Nat)) : (l.map fun t => D.str (S t)).map (fun d => match d with | .str x => x | _ => Str.ofString "") = l.map S := by
  rw [List.map_map]
  rfl
theorem toks_sum {l : List (List Nat)} (h : ∀ t ∈ l, t.length ≤ 9) : ((l.map S).map (·.length)).sum ≤ 9 * l.length := by
  induction l with
  | nil => exact Nat.le_refl _
  | cons t l ih =>
    have h1 := h t List.mem_cons_self
    have h2 := ih fun x hx => h x (List.mem_cons_of_mem _ hx)
    rw [List.map_cons, List.map_cons, List.sum_cons, List.length_cons]
    have h3 : (S t).length = t.length := by simp [Str.length]
    omega
abbrev sp_line_of : Sp := spF (fun ds => ∃ l, ds = [txts l] ∧ toks l) gLineOf
theorem ok_line_of (T : Txt K mg) (c_check_text : Con P w K mg base "check_text" p_check_text 6 sp_check_text) : Con P w K mg base "line_of" p_line_of 7 sp_line_of := by
  refine conF T.d_line_of sc_line_of (fun ds h => ?_) (fun f cdv A outer s H E hr => ⟨_, (pss_cons (ps_expr (pe_con c_check_text (hr.mono (by decide)) (by rfl) (pa_cons (pv 0) pa_nil)))
      (pss_one (ps_ret (pe_join pe_str (pv 0))))), fun ds h => ?_⟩)
  · obtain ⟨x, rfl, _⟩ := h
    rfl
  · obtain ⟨l, rfl, hl⟩ := h
    one_place
    refine dS_drop ?_
    one_place
    refine ⟨⟨_, rfl, hl⟩, ?_⟩
    one_place
    refine dE_join (dE_str ⟨_, rfl, ?_⟩)
    one_place
    refine ⟨l.map S, ?_, ?_, ?_⟩
    · show D.lst _ = D.lst _
      rw [List.map_map]
      rfl
    · have h1 := toks_sum fun t ht => (hl.2 t ht).2
      have h2 := hl.1
      rw [List.length_map]
      have h3 : (Str.ofString " ").length = 1 := rfl
      rw [h3]
      omega
    · show D.str _ = D.str _
      rw [txts_strs]
end
end K2
namespace K2
open PySem L2 Kr
local macro_rules | `(tactic| one_item) => `(tactic| first
  | (with_reducible refine dS_seq ?_) | (with_reducible refine dS_ret ?_) | (with_reducible refine dS_if ?_) | (with_reducible refine dS_next ?_) | (with_reducible refine dS_nextE ?_) | (with_reducible refine dS_brkE ?_) | (with_reducible refine dS_ctE ?_)
  | (with_reducible refine dT_B ?_) | (with_reducible refine dT_test ?_) | (with_reducible refine dT_and ?_) | (with_reducible refine dT_or ?_) | (with_reducible refine dT_not ?_)
  | (with_reducible refine dE_and ?_) | (with_reducible refine dE_or ?_) | (with_reducible refine dE_not ?_) | (with_reducible refine dE_if ?_)
  | (with_reducible refine dE_int ?_) | (with_reducible refine dE_str ?_) | (with_reducible refine dE_bl ?_) | (with_reducible refine dE_non ?_)
  | ((with_reducible refine dE_varE ?_); refine ⟨_, rfl, ?_⟩) | ((with_reducible refine dE_ownE ?_); refine ⟨_, rfl, ?_⟩)
  | (with_reducible refine dE_ix ?_) | (with_reducible refine dE_op2 ?_) | (with_reducible refine dE_chain ?_) | (with_reducible refine dE_un ?_) | (with_reducible refine dA_cons ?_) | (with_reducible refine dA_nil ?_) | (with_reducible refine dE_callF ?_) | (with_reducible refine dE_tup ?_)
  | (refine ⟨fun (_ : true = true) => ?_, fun z => Bool.noConfusion z⟩) | (refine ⟨fun z => Bool.noConfusion z, fun (_ : false = false) => ?_⟩)
  | (with_reducible refine dE_isStr ?_) | (with_reducible refine dE_isInt ?_) | (with_reducible refine dE_isBool ?_) | (with_reducible refine dE_isList ?_) | (with_reducible refine dE_isTup ?_) | (with_reducible refine dE_isDict ?_) | (with_reducible refine dE_cb ?_) | (with_reducible refine dE_lc ?_) | (with_reducible refine dE_lstF ?_) | (with_reducible refine dI_list ?_) | (with_reducible refine dI_tup ?_) | (with_reducible refine dI_str ?_) | (with_reducible refine dI_rng1 ?_) | (with_reducible refine dI_rng2 ?_) | (with_reducible refine dS_set ?_) | (with_reducible refine dS_augI ?_) | (with_reducible refine dS_brk ?_) | (with_reducible refine dS_ct ?_) | (with_reducible refine dO_none ?_) | (with_reducible refine dO_some ?_))
local macro_rules | `(tactic| one_place) => `(tactic| (repeat' one_item))
section
variable {P : Program} {w : World} {K : PySem.W.Frag} {mg : Str → Option Value} {base : Heap}
/-! ### run_together, tight_line -/
def kstr (x : Str) : Str := match kindS x with
  | .str k => k
  | _ => Str.ofString ""
def tok1 (x : Str) : Prop := isTok (.str x) = true ∧ x.length ≤ 1000000
theorem kind_tok {x : Str} (h : tok1 x) : kindD (.str x) = .str (kstr x) := by
  have h1 : (!(kindS x).isNon) = true := h.1
  show kindS x = .str (match kindS x with | .str k => k | _ => Str.ofString "")
  have key : (kindS x = .non) ∨ ∃ k, kindS x = .str k := by
    unfold kindS
    repeat' split
    all_goals first | exact .inl rfl | exact .inr ⟨_, rfl⟩
  rcases key with e | ⟨k, e⟩
  · rw [e] at h1
    exact absurd h1 (by decide)
  · rw [e]
def together (x y : Str) : Bool := if kstr y = Str.ofString "word" then decide (kstr x = Str.ofString "word") || decide (kstr x = Str.ofString "quoted") else decide (kstr x = Str.ofString "number") && decide (kstr y = Str.ofString "number")
def gTogether : List D → D
  | [.str x, .str y] => .bl (together x y)
  | _ => .non
abbrev sp_run_together : Sp := spF (fun ds => ∃ x y, ds = [.str x, .str y] ∧ tok1 x ∧ tok1 y) gTogether
theorem ok_run_together (T : Txt K mg) (c_kind_of : Con P w K mg base "kind_of" p_kind_of 4 sp_kind_of) : Con P w K mg base "run_together" p_run_together 5 sp_run_together := by
  refine conF T.d_run_together sc_run_together (fun ds h => ?_) (fun f cdv A outer s H E hr => ⟨_, (pss_cons (ps_if (pt_cmpR (op_eqA hr.units) (pe_con c_kind_of (hr.mono (by decide)) (by rfl) (pa_cons (pv 1) pa_nil)) pe_str (nomark _)) (pss_one (ps_ret (pe_cmpR (op_inA (units65 hr)) (pe_con c_kind_of (hr.mono (by decide)) (by rfl) (pa_cons (pv 0) pa_nil)) (pe_tup (pa_cons pe_str (pa_cons pe_str pa_nil))) rfl))) pss_nil)
      (pss_one (ps_ret (pe_and (pe_cmpR (op_eqA hr.units) (pe_con c_kind_of (hr.mono (by decide)) (by rfl) (pa_cons (pv 0) pa_nil)) pe_str (nomark _)) (pe_one (pe_cmpR (op_eqA hr.units) (pe_con c_kind_of (hr.mono (by decide)) (by rfl) (pa_cons (pv 1) pa_nil)) pe_str (nomark _))))))), fun ds h => ?_⟩)
  · obtain ⟨x, y, rfl, _⟩ := h
    rfl
  · obtain ⟨x, y, rfl, hx, hy⟩ := h
    have kx : gKind [.str x] = .str (kstr x) := kind_tok hx
    have ky : gKind [.str y] = .str (kstr y) := kind_tok hy
    one_place
    refine ⟨⟨_, rfl, hy.2⟩, ?_⟩
    rw [ky]
    one_place
    refine ⟨_, od_eqS, _, rfl, fun h1 => ?_, fun h1 => ?_⟩
    · one_place
      refine ⟨⟨_, rfl, hx.2⟩, ?_⟩
      rw [kx]
      one_place
      refine ⟨by decide, ?_⟩
      refine ⟨_, od_in rfl rfl, ?_⟩
      show D.bl _ = D.bl _
      unfold together
      rw [if_pos (of_decide_eq_true h1)]
      refine congrArg D.bl ?_
      show ((Str.ofString "word" == kstr x) || ((Str.ofString "quoted" == kstr x) || false)) = _
      have ec : ∀ a b : Str, (a == b) = decide (b = a) := fun a b => by
        rw [Bool.eq_iff_iff, beq_iff_eq, decide_eq_true_eq]
        exact eq_comm
      rw [Bool.or_false, ec, ec]
    · one_place
      refine ⟨⟨_, rfl, hx.2⟩, ?_⟩
      rw [kx]
      one_place
      refine ⟨_, od_eqS, _, rfl, fun h2 => ?_, fun h2 => ?_⟩
      · one_place
        refine ⟨⟨_, rfl, hy.2⟩, ?_⟩
        rw [ky]
        one_place
        refine ⟨_, od_eqS, ?_⟩
        show D.bl _ = D.bl _
        unfold together
        rw [if_neg (of_decide_eq_false h1), h2, Bool.true_and]
      · show D.bl _ = D.bl _
        unfold together
        rw [if_neg (of_decide_eq_false h1), h2, Bool.false_and]
/-- the tight line of the rest of a text -/
def tightL (b : List Nat) : List (List Nat) → List Nat
  | [] => []
  | t :: r => ((if together (S b) (S t) = true then [32] else []) ++ t) ++ tightL t r
theorem S_cat (a b : List Nat) : S a ++ S b = S (a ++ b) := by
  show (⟨a.toArray ++ b.toArray⟩ : Str) = _
  simp
theorem S_len (a : List Nat) : (S a).length = a.length := by simp [Str.length]
theorem tok_S {l : List (List Nat)} (h : toks l) {t : List Nat} (ht : t ∈ l) : tok1 (S t) := by
  refine ⟨(h.2 t ht).1, ?_⟩
  rw [S_len]
  have := (h.2 t ht).2
  omega
theorem tight_snoc (b : List Nat) : ∀ (l : List (List Nat)) (t : List Nat), tightL b (l ++ [t]) = tightL b l ++ ((if together (S ((b :: l).getLast (by simp))) (S t) = true then [32] else []) ++ t)
  | [], t => by
    simp [tightL]
    rfl
  | u :: l, t => by
    show ((if together (S b) (S u) = true then [32] else []) ++ u) ++ tightL u (l ++ [t]) = _
    rw [tight_snoc u l t]
    have e : (b :: u :: l).getLast (by simp) = (u :: l).getLast (by simp) := List.getLast_cons (by simp)
    rw [e]
    simp [tightL, List.append_assoc]
theorem tight_len {l : List (List Nat)} (h : ∀ t ∈ l, t.length ≤ 9) : ∀ b, (tightL b l).length ≤ 10 * l.length := by
  induction l with
  | nil => intro b; exact Nat.le_refl _
  | cons t l ih =>
    intro b
    have h1 := h t List.mem_cons_self
    have h2 := ih (fun x hx => h x (List.mem_cons_of_mem _ hx)) t
    unfold tightL
    rw [List.length_append, List.length_append, List.length_cons]
    split
    · rw [List.length_singleton]; omega
    · rw [List.length_nil]; omega
abbrev sp_tight_line : Sp := spD (fun ds => ∃ l, ds = [txts l] ∧ toks l) (fun ds d => ∀ l, ds = [txts l] → d = .str (S (tightL [40] l)))
theorem txts_inj {l m : List (List Nat)} (h : txts l = txts m) : l = m := by
  have h1 := D.lst.inj h
  have inj : ∀ a b : List Nat, D.str (S a) = D.str (S b) → a = b := fun a b e => by
    have e1 : S a = S b := D.str.inj e
    exact str_inj.mp e1
  have key : ∀ l m : List (List Nat), (l.map fun t => D.str (S t)) = (m.map fun t => D.str (S t)) → l = m := by
    intro l
    induction l with
    | nil =>
      intro m e
      cases m with
      | nil => rfl
      | cons t m => cases e
    | cons t l ih =>
      intro m e
      cases m with
      | nil => cases e
      | cons u m =>
        rw [List.map_cons, List.map_cons] at e
        injection e with e1 e2
        rw [inj _ _ e1, ih m e2]
  exact key l m h1
theorem txts_get {l : List (List Nat)} {j : Nat} {d : D} (h : (l.map fun t => D.str (S t))[j]? = some d) : ∃ t, l[j]? = some t ∧ d = .str (S t) := by
  rw [List.getElem?_map] at h
  cases e : l[j]? with
  | none => rw [e] at h; cases h
  | some c => rw [e] at h; exact ⟨c, rfl, (Option.some.inj h).symm⟩
theorem last_snoc {q p : List (List Nat)} {t : List Nat} (e : q = p ++ [t]) (h : [40] :: q ≠ []) : ([40] :: q).getLast h = t := by
  subst e
  show (([40] :: p) ++ [t]).getLast _ = t
  exact List.getLast_concat
theorem ok_tight_line (T : Txt K mg) (c_check_text : Con P w K mg base "check_text" p_check_text 6 sp_check_text) (c_run_together : Con P w K mg base "run_together" p_run_together 5 sp_run_together) : Con P w K mg base "tight_line" p_tight_line 7 sp_tight_line := by
  refine conD T.d_tight_line sc_tight_line (fun ds h => ?_) (fun f cdv A outer s H E hr => ⟨_, (pss_cons (ps_expr (pe_con c_check_text (hr.mono (by decide)) (by rfl) (pa_cons (pv 0) pa_nil)))
      (pss_cons (ps_asg (pe_tup (pa_cons pe_str (pa_cons pe_str pa_nil))) (pg_tup rfl (pgs_cons (pg_name (i := 1) sc_tight_line.nd rfl (.inl rfl)) (pgs_cons (pg_name (i := 2) sc_tight_line.nd rfl (.inl rfl)) pgs_nil))))
      (pss_cons (ps_for PassesOwn.never rfl (pi_list (pv 0)) (pg_name (i := 3) sc_tight_line.nd rfl (.inl rfl)) (pss_cons (ps_set (i := 1) sc_tight_line.nd rfl (.inl rfl) (pe_op op_addA (pv 1) (pe_ifExp (pt_val (pe_con c_run_together (hr.mono (by decide)) (by rfl) (pa_cons (pv 2) (pa_cons (pv 3) pa_nil)))) (pe_op op_addA pe_str (pv 3)) (pv 3))))
      (pss_one (ps_set (i := 2) sc_tight_line.nd rfl (.inl rfl) (pv 3)))))
      (pss_one (ps_ret (pv 1)))))), fun ds h => ?_⟩)
  · obtain ⟨x, rfl, _⟩ := h
    rfl
  · obtain ⟨l, rfl, hl⟩ := h
    one_place
    refine dS_drop ?_
    one_place
    refine ⟨⟨_, rfl, hl⟩, ?_⟩
    refine dS_seq (dS_unpack [1, 2] (dE_tup (dA_cons (dE_str (dA_cons (dE_str (dA_nil ⟨by decide, dG_tup rfl (dGs_cons (dG_name (by simp) (dGs_cons (dG_name (by simp) (dGs_nil ?_)))))⟩)))))))
    refine dS_seq (dS_for (vs := [3]) (dI_any 3 (dI_list (dE_varE ⟨_, rfl, _, rfl, fun j G => ∃ b : List Nat, G = [.imm (txts l), .imm (.str (S (tightL [40] (l.take j)))), .imm (.str (S b)), .any] ∧ ([40] :: l.take j).getLast (by simp) = b, ⟨[40], rfl, rfl⟩, fun j d G hd hG => ?_, fun G hG => ?_⟩))))
    · obtain ⟨b, rfl, hb⟩ := hG
      obtain ⟨t, ht, rfl⟩ := txts_get hd
      have htm : t ∈ l := List.mem_of_getElem? ht
      have hbt : tok1 (S b) := by
        rw [← hb]
        have hm := List.getLast_mem (l := [40] :: l.take j) (by simp)
        rcases List.mem_cons.mp hm with e | e
        · rw [e]
          exact ⟨by decide, by decide⟩
        · exact tok_S hl (List.mem_of_mem_take e)
      have et : l.take (j + 1) = l.take j ++ [t] := by rw [List.take_add_one, ht]; rfl
      refine dG_name (List.mem_singleton.mpr rfl) (dS_nxany 3 ?_)
      one_place
      refine ⟨⟨_, _, rfl, hbt, tok_S hl htm⟩, _, rfl, ?_⟩
      have hlen : (tightL [40] (l.take j)).length ≤ 1000 := by
        have h1 := tight_len (l := l.take j) (fun x hx => (hl.2 x (List.mem_of_mem_take hx)).2) [40]
        have h2 : (l.take j).length ≤ l.length := by rw [List.length_take]; omega
        have h3 := hl.1
        omega
      have htl := (hl.2 t htm).2
      have fin : ∀ u : List Nat, u = (if together (S b) (S t) = true then [32] else []) ++ t → tightL [40] (l.take j) ++ u = tightL [40] (l.take (j + 1)) := fun u hu => by
        rw [et, tight_snoc, hu, hb]
      refine ⟨fun h1 => ?_, fun h1 => ?_⟩
      · have e32 : Str.ofString " " = S [32] := rfl
        have hu : [32] ++ t = (if together (S b) (S t) = true then [32] else []) ++ t := by rw [if_pos h1]
        one_place
        rw [e32]
        refine ⟨_, od_cat ?_, ?_⟩
        · rw [S_len, S_len, sizeLine_eq]; simp; omega
        rw [S_cat]
        refine ⟨_, od_cat ?_, ?_⟩
        · rw [S_len, S_len, sizeLine_eq]; simp; omega
        rw [S_cat, fin _ hu]
        one_place
        exact ⟨t, rfl, last_snoc et _⟩
      · one_place
        have hu : t = (if together (S b) (S t) = true then [32] else []) ++ t := by rw [if_neg (by rw [h1]; exact Bool.false_ne_true)]; rfl
        refine ⟨_, od_cat ?_, ?_⟩
        · rw [S_len, S_len, sizeLine_eq]; omega
        rw [S_cat, fin _ hu]
        clear hu
        one_place
        exact ⟨t, rfl, last_snoc et _⟩
    · obtain ⟨b, rfl, hb⟩ := hG
      one_place
      intro m hm
      have hm' : l = m := txts_inj (List.cons.inj hm).1
      subst hm'
      rw [List.length_map, List.take_length]
end
end K2
namespace K2
open PySem L2 Kr
local macro_rules | `(tactic| one_item) => `(tactic| first
  | (with_reducible refine dS_seq ?_) | (with_reducible refine dS_ret ?_) | (with_reducible refine dS_if ?_) | (with_reducible refine dS_next ?_) | (with_reducible refine dS_nextE ?_) | (with_reducible refine dS_brkE ?_) | (with_reducible refine dS_ctE ?_)
  | (with_reducible refine dT_B ?_) | (with_reducible refine dT_test ?_) | (with_reducible refine dT_and ?_) | (with_reducible refine dT_or ?_) | (with_reducible refine dT_not ?_)
  | (with_reducible refine dE_and ?_) | (with_reducible refine dE_or ?_) | (with_reducible refine dE_not ?_) | (with_reducible refine dE_if ?_)
  | (with_reducible refine dE_int ?_) | (with_reducible refine dE_str ?_) | (with_reducible refine dE_bl ?_) | (with_reducible refine dE_non ?_)
  | ((with_reducible refine dE_varE ?_); refine ⟨_, rfl, ?_⟩) | ((with_reducible refine dE_ownE ?_); refine ⟨_, rfl, ?_⟩)
  | (with_reducible refine dE_ix ?_) | (with_reducible refine dE_op2 ?_) | (with_reducible refine dE_chain ?_) | (with_reducible refine dE_un ?_) | (with_reducible refine dA_cons ?_) | (with_reducible refine dA_nil ?_) | (with_reducible refine dE_callF ?_) | (with_reducible refine dE_tup ?_)
  | (refine ⟨fun (_ : true = true) => ?_, fun z => Bool.noConfusion z⟩) | (refine ⟨fun z => Bool.noConfusion z, fun (_ : false = false) => ?_⟩)
  | (with_reducible refine dE_isStr ?_) | (with_reducible refine dE_isInt ?_) | (with_reducible refine dE_isBool ?_) | (with_reducible refine dE_isList ?_) | (with_reducible refine dE_isTup ?_) | (with_reducible refine dE_isDict ?_) | (with_reducible refine dE_cb ?_) | (with_reducible refine dE_lc ?_) | (with_reducible refine dE_lstF ?_) | (with_reducible refine dI_list ?_) | (with_reducible refine dI_tup ?_) | (with_reducible refine dI_str ?_) | (with_reducible refine dI_rng1 ?_) | (with_reducible refine dI_rng2 ?_) | (with_reducible refine dS_set ?_) | (with_reducible refine dS_augI ?_) | (with_reducible refine dS_brk ?_) | (with_reducible refine dS_ct ?_) | (with_reducible refine dO_none ?_) | (with_reducible refine dO_some ?_))
local macro_rules | `(tactic| one_place) => `(tactic| (repeat' one_item))
section
variable {P : Program} {w : World} {K : PySem.W.Frag} {mg : Str → Option Value} {base : Heap}
/-! ### cut, of lines that are cut -/
/-- a line in pieces, n turns at most -/
def cutN : Nat → List Nat → List (List Nat)
  | 0, _ => []
  | _ + 1, [] => []
  | n + 1, c :: l => (if c = 32 then [] else [(c :: l).take (tokLen (c :: l))]) ++ cutN n ((c :: l).drop (tokLen (c :: l)))
def cutL (l : List Nat) : List (List Nat) := cutN l.length l
theorem tokLen_cons (c : Nat) (l : List Nat) : tokLen (c :: l) = if c ∈ LET then runLen LET (c :: l) else if c ∈ FIG then runLen FIG (c :: l) else if c = 39 then runLen LET l + 1 else 1 := rfl
theorem runLen_cons (y : List Nat) (c : Nat) (l : List Nat) : runLen y (c :: l) = if c ∈ y then runLen y l + 1 else 0 := rfl
theorem tokLen_pos (c : Nat) (l : List Nat) : 1 ≤ tokLen (c :: l) := by
  rw [tokLen_cons]
  by_cases h1 : c ∈ LET
  · rw [if_pos h1, runLen_cons, if_pos h1]; omega
  · rw [if_neg h1]
    by_cases h2 : c ∈ FIG
    · rw [if_pos h2, runLen_cons, if_pos h2]; omega
    · rw [if_neg h2]
      by_cases h3 : c = 39
      · rw [if_pos h3]; omega
      · rw [if_neg h3]; exact Nat.le_refl _
theorem tokLen_le : ∀ l : List Nat, tokLen l ≤ l.length
  | [] => Nat.le_refl _
  | c :: l => by
    have h1 := runLen_le LET (c :: l)
    have h2 := runLen_le FIG (c :: l)
    have h3 := runLen_le LET l
    rw [List.length_cons] at *
    rw [tokLen_cons]
    by_cases e1 : c ∈ LET
    · rw [if_pos e1]; exact h1
    · rw [if_neg e1]
      by_cases e2 : c ∈ FIG
      · rw [if_pos e2]; exact h2
      · rw [if_neg e2]
        by_cases e3 : c = 39
        · rw [if_pos e3]; omega
        · rw [if_neg e3]; omega
theorem cutN_nil (n : Nat) : cutN n [] = [] := by cases n <;> rfl
theorem cutN_more : ∀ (n m : Nat) (l : List Nat), l.length ≤ n → l.length ≤ m → cutN n l = cutN m l
  | 0, m, l, h, _ => by
    have e : l = [] := List.eq_nil_of_length_eq_zero (by omega)
    subst e
    rw [cutN_nil, cutN_nil]
  | n + 1, 0, l, _, h => by
    have e : l = [] := List.eq_nil_of_length_eq_zero (by omega)
    subst e
    rw [cutN_nil, cutN_nil]
  | n + 1, m + 1, [], _, _ => rfl
  | n + 1, m + 1, c :: l, h1, h2 => by
    have hp := tokLen_pos c l
    have hd : ((c :: l).drop (tokLen (c :: l))).length ≤ l.length := by rw [List.length_drop, List.length_cons]; omega
    rw [List.length_cons] at h1 h2
    unfold cutN
    rw [cutN_more n m _ (by omega) (by omega)]
theorem cutL_cons (c : Nat) (l : List Nat) : cutL (c :: l) = (if c = 32 then [] else [(c :: l).take (tokLen (c :: l))]) ++ cutL ((c :: l).drop (tokLen (c :: l))) := by
  have hp := tokLen_pos c l
  show cutN (l.length + 1) (c :: l) = _
  unfold cutN cutL
  congr 1
  refine cutN_more _ _ _ ?_ (Nat.le_refl _)
  rw [List.length_drop, List.length_cons]
  omega
def okCut (l : List Nat) : Bool := (cutL l).all fun t => isTok (.str (S t))
abbrev sp_cut : Sp := spL (fun ds => ∃ l : List Nat, ds = [.str (S l)] ∧ l.length ≤ 10000 ∧ okCut l = true) (fun ds es => ∀ l, ds = [.str (S l)] → es = (cutL l).map fun t => .str (S t))
theorem cutS_mid {l : List Nat} {a b : Nat} (h : a ≤ b) (hb : b ≤ l.length) : cutS (S l) (some (a : Int)) (some (b : Int)) = S ((l.drop a).take (b - a)) := by
  unfold cutS
  rw [HT.sIx_nat, HT.sIx_nat]
  have e : (S l).length = l.length := S_len l
  rw [e]
  rw [show min a l.length = a by omega, show min b l.length = b by omega]
theorem cut_piece_len : ∀ (n : Nat) (l : List Nat), ∀ t ∈ cutN n l, t.length ≤ l.length
  | 0, _, t, h => by cases h
  | n + 1, [], t, h => by cases h
  | n + 1, c :: l, t, h => by
    unfold cutN at h
    rcases List.mem_append.mp h with h | h
    · split at h
      · cases h
      · rw [List.mem_singleton.mp h, List.length_take]
        omega
    · have := cut_piece_len n _ t h
      rw [List.length_drop] at this
      omega
theorem cut_len : ∀ (n : Nat) (l : List Nat), (cutN n l).length ≤ n
  | 0, _ => Nat.le_refl _
  | n + 1, [] => Nat.zero_le _
  | n + 1, c :: l => by
    unfold cutN
    rw [List.length_append]
    have := cut_len n ((c :: l).drop (tokLen (c :: l)))
    split
    · rw [List.length_nil]; omega
    · rw [List.length_singleton]; omega
theorem oke_cut (T : Txt K mg) (c_token_end : Con P w K mg base "token_end" p_token_end 2 sp_token_end) (c_is_token : Con P w K mg base "is_token" p_is_token 5 sp_is_token) : ConE P w K mg base "cut" s_cut p_cut 6 sp_cut := by
  refine conLE T.d_cut sc_cut (fun ds h => ?_) (fun f cdv A outer s H E hr => ⟨_, (pss_cons (ps_if (pt_not (pt_val (pe_callB call_isi (by rfl) T.n_isinstance (by decide +kernel) (pa_cons (pv 0) (pa_cons (pe_bltn (v := .ty "str") (by rfl) T.n_str (by decide +kernel) rfl) pa_nil))))) (pss_one ps_never) pss_nil)
      (pss_cons (ps_par (i := 1) (j := 2) rfl sc_cut.nd rfl rfl (by decide) rfl rfl (pa_cons (pe_lst pa_nil) (pa_cons pe_int pa_nil)) rfl)
      (pss_cons (ps_while PassesOwn.never (pt_cmpR op_ltA (pv 2) (pe_callB call_lenA (by rfl) T.n_len (by decide +kernel) (pa_cons (pv 0) pa_nil)) (nomark _)) (pss_cons (ps_set (i := 3) sc_cut.nd rfl (.inl rfl) (pe_con c_token_end (hr.mono (by decide)) (by rfl) (pa_cons (pv 0) (pa_cons (pv 2) pa_nil))))
      (pss_cons (ps_if (pt_cmpR (op_neA hr.units) (pe_ix ix_seq (pv 0) (pv 2) (fun _ _ => rfl)) pe_str (nomark _)) (pss_one (ps_expr (pe_bm PySem.F.plainAttrs_list PySem.F.slot_list_append PySem.F.type_list_append mt_append (pv 1) (pa_cons (pe_slice sl_A (pv 0) (po_some (pv 2)) (po_some (pv 3))) pa_nil)))) pss_nil)
      (pss_one (ps_set (i := 2) sc_cut.nd rfl (.inl rfl) (pv 3))))))
      (pss_cons (ps_if (pt_not (pt_val (pe_callB (cr_all rfl) (by rfl) T.n_all (by decide +kernel) (pa_cons (pe_lc (own := [("token", 4)]) rfl sc_cut.nd (pi_list (pv 1)) (blkOk_by (own := [("token", 4)]) (N := n_cut) (sc := defScope s_cut) (by decide +kernel)) (fun _ _ _ _ _ => (pg_name (i := 4) sc_cut.nd rfl (Or.inl rfl))) (fun _ _ _ _ _ => pts_nil) (fun _ _ _ _ _ => (pe_con c_is_token (hr.mono (by decide)) (by rfl) (pa_cons (pv 4) pa_nil)))) pa_nil)))) (pss_one ps_never) pss_nil)
      (pss_one (ps_ret (pv 1))))))), fun ds h => ?_⟩)
  · obtain ⟨x, rfl, _⟩ := h
    rfl
  · obtain ⟨l, rfl, hl, hok⟩ := h
    have hsz : (S l).length ≤ 1000000 := by rw [S_len]; omega
    refine dSN_seq ?_
    one_place
    refine ⟨rfl, _, rfl, fun z => Bool.noConfusion z, fun _ => ?_⟩
    one_place
    refine dSN_seq ?_
    refine dS_parL (i := 1) (j := 2) (by decide) (dA_nil ⟨by decide, dE_int ?_⟩)
    refine dSN_seq (dS_while (fun m G => ∃ (a : Nat) (fd : List (List Nat)) (s3 : Sl), G = [.imm (.str (S l)), .own (fd.map fun t => D.str (S t)), .imm (.int a), s3, .any] ∧ a ≤ l.length ∧ m = l.length - a ∧ cutL l = fd ++ cutL (l.drop a) ∧ fd.length ≤ a) l.length ⟨0, [], .any, rfl, Nat.zero_le _, rfl, rfl, Nat.le_refl _⟩ ?_)
    · intro m G ⟨a, fd, s3, hG, ha, hm, hc, hf⟩
      subst hG
      one_place
      refine ⟨_, ca_len ⟨small hsz, rfl⟩, _, od_lt, _, rfl, ?_⟩
      rw [S_len]
      by_cases h1 : a < l.length
      · rw [decide_eq_true (show (a : Int) < (l.length : Int) by omega)]
        obtain ⟨c, hcx, hd⟩ := drop_cons (x := S l) (a := a) (by rw [S_len]; exact h1)
        have hd : l.drop a = c :: l.drop (a + 1) := hd
        have hp := tokLen_pos c (l.drop (a + 1))
        have hle := tokLen_le (l.drop a)
        rw [List.length_drop] at hle
        rw [← hd] at hp
        one_place
        refine ⟨⟨S l, a, rfl, hsz, by rw [S_len]; exact h1⟩, ?_⟩
        have e0 : gTokEnd [.str (S l), .int (a : Int)] = .int ((a + tokLen (l.drop a) : Nat) : Int) := by
          show D.int _ = D.int _
          refine congrArg D.int ?_
          rw [show (a : Int).toNat = a from rfl]
          push_cast
          rfl
        rw [e0]
        one_place
        refine ⟨a, .str ⟨#[c]⟩, rfl, .inr (.inr ⟨_, _, rfl, small hsz, atI_nat hcx, rfl⟩), ?_⟩
        one_place
        refine ⟨_, od_neS, _, rfl, ?_⟩
        have e32 : decide ((⟨#[c]⟩ : Str) = Str.ofString " ") = decide (c = 32) := by
          have : Str.ofString " " = ⟨#[32]⟩ := rfl
          rw [this]
          simp
        rw [e32]
        have hcut : cutL (l.drop a) = (if c = 32 then [] else [(l.drop a).take (tokLen (l.drop a))]) ++ cutL (l.drop (a + tokLen (l.drop a))) := by
          have := cutL_cons c (l.drop (a + 1))
          rw [← hd] at this
          rw [this, List.drop_drop]
        by_cases h2 : c = 32
        · rw [decide_eq_true h2]
          one_place
          rw [if_pos h2, List.nil_append] at hcut
          exact ⟨l.length - (a + tokLen (l.drop a)), by omega, a + tokLen (l.drop a), fd, .imm (.int ((a + tokLen (l.drop a) : Nat) : Int)), rfl, by omega, rfl, by rw [hc, hcut], by omega⟩
        · rw [decide_eq_false h2]
          one_place
          rw [if_neg h2] at hcut
          refine dS_append ?_ ⟨_, rfl⟩
          one_place
          refine dE_slS ?_
          one_place
          refine ⟨(a : Int), rfl, ?_⟩
          one_place
          refine ⟨((a + tokLen (l.drop a) : Nat) : Int), rfl, ?_⟩
          refine ⟨_, rfl, small hsz, ?_⟩
          rw [cutS_mid (by omega) (by omega), Nat.add_sub_cancel_left]
          one_place
          refine ⟨_, _, rfl, rfl, by rw [List.length_map]; omega, ?_⟩
          one_place
          refine ⟨l.length - (a + tokLen (l.drop a)), by omega, a + tokLen (l.drop a), fd ++ [(l.drop a).take (tokLen (l.drop a))], .imm (.int ((a + tokLen (l.drop a) : Nat) : Int)), ?_, by omega, rfl, by rw [hc, hcut, List.append_assoc], by rw [List.length_append, List.length_singleton]; omega⟩
          rw [List.map_append]
          rfl
      · rw [decide_eq_false (show ¬ (a : Int) < (l.length : Int) by omega)]
        have ea : a = l.length := by omega
        have ef : cutL l = fd := by
          rw [hc, ea, List.drop_length]
          show fd ++ [] = fd
          rw [List.append_nil]
        refine ⟨fun z => Bool.noConfusion z, fun _ => ?_⟩
        refine dSN_seq (dS_if (dT_borrow 1 rfl ?_))
        have hfit : ∀ t ∈ fd, t.length ≤ 10000 := fun t ht => by
          rw [← ef] at ht
          have := cut_piece_len l.length l t ht
          omega
        have hfl : fd.length ≤ 10000 := by omega
        one_place
        refine dL_map (dI_list (dE_varE ⟨_, rfl, _, rfl, fun e => .bl (isTok e), by rw [List.length_map]; omega, fun e he => ?_, ?_⟩))
        · obtain ⟨t, ht, rfl⟩ := List.mem_map.mp he
          one_place
          refine ⟨⟨_, rfl, ?_⟩, rfl, rfl⟩
          show (S t).length ≤ 1000000
          rw [S_len]
          have := hfit t ht
          omega
        · one_place
          have e1 : (fd.map fun t => D.str (S t)).map (fun e => D.bl (isTok e)) = ((fd.map fun t => isTok (.str (S t)))).map D.bl := by rw [List.map_map, List.map_map]; rfl
          rw [e1]
          refine ⟨_, ca_all, _, rfl, ?_⟩
          have e2 : (fd.map fun t => isTok (.str (S t))).all id = true := by
            unfold okCut at hok
            rw [ef] at hok
            rw [List.all_map]
            exact hok
          rw [e2]
          refine ⟨rfl, fun z => Bool.noConfusion z, fun _ => ?_⟩
          one_place
          refine dSN_retO 1 rfl fun m hm => ?_
          have hm' : l = m := str_inj.mp (D.str.inj (List.cons.inj hm).1)
          subst hm'
          rw [ef]
end
end K2
namespace K2
open PySem L2 Kr
local macro_rules | `(tactic| one_item) => `(tactic| first
  | (with_reducible refine dS_seq ?_) | (with_reducible refine dS_ret ?_) | (with_reducible refine dS_if ?_) | (with_reducible refine dS_next ?_) | (with_reducible refine dS_nextE ?_) | (with_reducible refine dS_brkE ?_) | (with_reducible refine dS_ctE ?_)
  | (with_reducible refine dT_B ?_) | (with_reducible refine dT_test ?_) | (with_reducible refine dT_and ?_) | (with_reducible refine dT_or ?_) | (with_reducible refine dT_not ?_)
  | (with_reducible refine dE_and ?_) | (with_reducible refine dE_or ?_) | (with_reducible refine dE_not ?_) | (with_reducible refine dE_if ?_)
  | (with_reducible refine dE_int ?_) | (with_reducible refine dE_str ?_) | (with_reducible refine dE_bl ?_) | (with_reducible refine dE_non ?_)
  | ((with_reducible refine dE_varE ?_); refine ⟨_, rfl, ?_⟩) | ((with_reducible refine dE_ownE ?_); refine ⟨_, rfl, ?_⟩)
  | (with_reducible refine dE_ix ?_) | (with_reducible refine dE_op2 ?_) | (with_reducible refine dE_chain ?_) | (with_reducible refine dE_un ?_) | (with_reducible refine dA_cons ?_) | (with_reducible refine dA_nil ?_) | (with_reducible refine dE_callF ?_) | (with_reducible refine dE_tup ?_)
  | (refine ⟨fun (_ : true = true) => ?_, fun z => Bool.noConfusion z⟩) | (refine ⟨fun z => Bool.noConfusion z, fun (_ : false = false) => ?_⟩)
  | (with_reducible refine dE_isStr ?_) | (with_reducible refine dE_isInt ?_) | (with_reducible refine dE_isBool ?_) | (with_reducible refine dE_isList ?_) | (with_reducible refine dE_isTup ?_) | (with_reducible refine dE_isDict ?_) | (with_reducible refine dE_cb ?_) | (with_reducible refine dE_lc ?_) | (with_reducible refine dE_lstF ?_) | (with_reducible refine dI_list ?_) | (with_reducible refine dI_tup ?_) | (with_reducible refine dI_str ?_) | (with_reducible refine dI_rng1 ?_) | (with_reducible refine dI_rng2 ?_) | (with_reducible refine dS_set ?_) | (with_reducible refine dS_augI ?_) | (with_reducible refine dS_brk ?_) | (with_reducible refine dS_ct ?_) | (with_reducible refine dO_none ?_) | (with_reducible refine dO_some ?_))
local macro_rules | `(tactic| one_place) => `(tactic| (repeat' one_item))
section
variable {P : Program} {w : World} {K : PySem.W.Frag} {mg : Str → Option Value} {base : Heap}
/-! ### what is refused -/
variable {C fI : Addr}
def _root_.Kr.D.un : D → D
  | .is _ d => d
  | d => d
theorem un_or (d : D) : (∃ a e, d = .is a e) ∨ d.un = d := by cases d <;> first | exact .inl ⟨_, _, rfl⟩ | exact .inr rfl
abbrev spx_check_text (C : Addr) : Sp := spX (fun ds => ∃ d, ds = [d] ∧ fitsT d.un) (fun ds d => d = .non ∧ ∀ x, ds = [x] → isText x.un = true) (fun ds C' d => C' = C ∧ ds = [d] ∧ isText d.un = false)
theorem okx_check_text (T : Txt K mg) (TE_InvalidText : PySem.Kex.ValTxt P K mg "InvalidText" C fI) (c_is_text : Con P w K mg base "is_text" p_is_text 5 sp_is_text) : ConX P w K mg base "check_text" p_check_text 6 (spx_check_text C) := by
  refine conX T.d_check_text sc_check_text (fun ds h => ?_) (fun f cdv A outer s H E hr => ⟨_, (pss_one (ps_if (pt_not (pt_val (pe_con c_is_text (hr.mono (by decide)) (by rfl) (pa_cons (pv 0) pa_nil)))) (pss_one (ps_raiseV rfl TE_InvalidText hr (takes_of rfl rfl rfl rfl) (pa_cons (pv 0) pa_nil) (by rfl) (by decide))) pss_nil)), fun ds h => ?_⟩)
  · obtain ⟨x, rfl, _⟩ := h
    rfl
  · obtain ⟨d, rfl, hd⟩ := h
    rcases un_or d with ⟨a, e, rfl⟩ | hu
    · have hd : fitsT e := hd
      refine dS_if (dT_un 0 rfl ?_)
      one_place
      refine ⟨⟨_, rfl, hd⟩, _, rfl, rfl, ?_⟩
      cases h : isText e with
      | true =>
        one_place
        exact ⟨rfl, fun x hx => by rw [← (List.cons.inj hx).1]; exact h⟩
      | false =>
        refine ⟨fun _ => ?_, fun z => Bool.noConfusion z⟩
        refine dS_raise ?_
        one_place
        exact ⟨_, rfl, rfl, rfl, h⟩
    · rw [hu] at hd
      one_place
      refine ⟨⟨_, rfl, hd⟩, _, rfl, ?_⟩
      cases e : isText d with
      | true =>
        one_place
        exact ⟨rfl, fun x hx => by rw [← (List.cons.inj hx).1, hu]; exact e⟩
      | false =>
        refine ⟨fun _ => ?_, fun z => Bool.noConfusion z⟩
        refine dS_raise ?_
        one_place
abbrev spx_cut (C : Addr) : Sp := spX (fun ds => ∃ d, ds = [d] ∧ d.un.noIns = true ∧ (d.isStr = false → d.un.isStr = false) ∧ ∀ l, d = .str (S l) → l.length ≤ 10000) (fun ds d => ∃ l, ds = [.str (S l)] ∧ okCut l = true ∧ d = txts (cutL l)) (fun ds C' d => C' = C ∧ ds = [d] ∧ ∀ l, d = .str (S l) → okCut l = false)
theorem str_S (x : Str) : x = S x.cps.toList := rfl
theorem okx_cut (T : Txt K mg) (TE_InvalidText : PySem.Kex.ValTxt P K mg "InvalidText" C fI) (c_token_end : Con P w K mg base "token_end" p_token_end 2 sp_token_end) (c_is_token : Con P w K mg base "is_token" p_is_token 5 sp_is_token) : ConX P w K mg base "cut" p_cut 6 (spx_cut C) := by
  refine conX T.d_cut sc_cut (fun ds h => ?_) (fun f cdv A outer s H E hr => ⟨_, (pss_cons (ps_if (pt_not (pt_val (pe_callB call_isi (by rfl) T.n_isinstance (by decide +kernel) (pa_cons (pv 0) (pa_cons (pe_bltn (v := .ty "str") (by rfl) T.n_str (by decide +kernel) rfl) pa_nil))))) (pss_one (ps_raiseV rfl TE_InvalidText hr (takes_of rfl rfl rfl rfl) (pa_cons (pv 0) pa_nil) (by rfl) (by decide))) pss_nil)
      (pss_cons (ps_par (i := 1) (j := 2) rfl sc_cut.nd rfl rfl (by decide) rfl rfl (pa_cons (pe_lst pa_nil) (pa_cons pe_int pa_nil)) rfl)
      (pss_cons (ps_while (passes_of rfl) (pt_cmpR op_ltA (pv 2) (pe_callB call_lenA (by rfl) T.n_len (by decide +kernel) (pa_cons (pv 0) pa_nil)) (nomark _)) (pss_cons (ps_set (i := 3) sc_cut.nd rfl (.inl rfl) (pe_con c_token_end (hr.mono (by decide)) (by rfl) (pa_cons (pv 0) (pa_cons (pv 2) pa_nil))))
      (pss_cons (ps_if (pt_cmpR (op_neA hr.units) (pe_ix ix_seq (pv 0) (pv 2) (fun _ _ => rfl)) pe_str (nomark _)) (pss_one (ps_expr (pe_bm PySem.F.plainAttrs_list PySem.F.slot_list_append PySem.F.type_list_append mt_append (pv 1) (pa_cons (pe_slice sl_A (pv 0) (po_some (pv 2)) (po_some (pv 3))) pa_nil)))) pss_nil)
      (pss_one (ps_set (i := 2) sc_cut.nd rfl (.inl rfl) (pv 3))))))
      (pss_cons (ps_if (pt_not (pt_val (pe_callB (cr_all rfl) (by rfl) T.n_all (by decide +kernel) (pa_cons (pe_lc (own := [("token", 4)]) rfl sc_cut.nd (pi_list (pv 1)) (blkOk_by (own := [("token", 4)]) (N := n_cut) (sc := defScope s_cut) (by decide +kernel)) (fun _ _ _ _ _ => (pg_name (i := 4) sc_cut.nd rfl (Or.inl rfl))) (fun _ _ _ _ _ => pts_nil) (fun _ _ _ _ _ => (pe_con c_is_token (hr.mono (by decide)) (by rfl) (pa_cons (pv 4) pa_nil)))) pa_nil)))) (pss_one (ps_raiseV rfl TE_InvalidText hr (takes_of rfl rfl rfl rfl) (pa_cons (pv 0) pa_nil) (by rfl) (by decide))) pss_nil)
      (pss_one (ps_ret (pv 1))))))), fun ds h => ?_⟩)
  · obtain ⟨x, rfl, _⟩ := h
    rfl
  · obtain ⟨d, rfl, hni, hun, hl⟩ := h
    by_cases hs : ∃ x, d = .str x
    · obtain ⟨x, rfl⟩ := hs
      rw [str_S x] at hl ⊢
      generalize x.cps.toList = l at hl ⊢
      have hl := hl l rfl
      have hsz : (S l).length ≤ 1000000 := by rw [S_len]; omega
      one_place
      refine ⟨rfl, _, rfl, fun z => Bool.noConfusion z, fun _ => ?_⟩
      one_place
      refine dS_parL (i := 1) (j := 2) (by decide) (dA_nil ⟨by decide, dE_int ?_⟩)
      refine dS_seq (dS_while (fun m G => ∃ (a : Nat) (fd : List (List Nat)) (s3 : Sl), G = [.imm (.str (S l)), .own (fd.map fun t => D.str (S t)), .imm (.int a), s3, .any] ∧ a ≤ l.length ∧ m = l.length - a ∧ cutL l = fd ++ cutL (l.drop a) ∧ fd.length ≤ a) l.length ⟨0, [], .any, rfl, Nat.zero_le _, rfl, rfl, Nat.le_refl _⟩ ?_)
      · intro m G ⟨a, fd, s3, hG, ha, hm, hc, hf⟩
        subst hG
        one_place
        refine ⟨_, ca_len ⟨small hsz, rfl⟩, _, od_lt, _, rfl, ?_⟩
        rw [S_len]
        by_cases h1 : a < l.length
        · rw [decide_eq_true (show (a : Int) < (l.length : Int) by omega)]
          obtain ⟨c, hcx, hd⟩ := drop_cons (x := S l) (a := a) (by rw [S_len]; exact h1)
          have hd : l.drop a = c :: l.drop (a + 1) := hd
          have hp := tokLen_pos c (l.drop (a + 1))
          have hle := tokLen_le (l.drop a)
          rw [List.length_drop] at hle
          rw [← hd] at hp
          one_place
          refine ⟨⟨S l, a, rfl, hsz, by rw [S_len]; exact h1⟩, ?_⟩
          have e0 : gTokEnd [.str (S l), .int (a : Int)] = .int ((a + tokLen (l.drop a) : Nat) : Int) := by
            show D.int _ = D.int _
            refine congrArg D.int ?_
            rw [show (a : Int).toNat = a from rfl]
            push_cast
            rfl
          rw [e0]
          one_place
          refine ⟨a, .str ⟨#[c]⟩, rfl, .inr (.inr ⟨_, _, rfl, small hsz, atI_nat hcx, rfl⟩), ?_⟩
          one_place
          refine ⟨_, od_neS, _, rfl, ?_⟩
          have e32 : decide ((⟨#[c]⟩ : Str) = Str.ofString " ") = decide (c = 32) := by
            have : Str.ofString " " = ⟨#[32]⟩ := rfl
            rw [this]
            simp
          rw [e32]
          have hcut : cutL (l.drop a) = (if c = 32 then [] else [(l.drop a).take (tokLen (l.drop a))]) ++ cutL (l.drop (a + tokLen (l.drop a))) := by
            have := cutL_cons c (l.drop (a + 1))
            rw [← hd] at this
            rw [this, List.drop_drop]
          by_cases h2 : c = 32
          · rw [decide_eq_true h2]
            one_place
            rw [if_pos h2, List.nil_append] at hcut
            exact ⟨l.length - (a + tokLen (l.drop a)), by omega, a + tokLen (l.drop a), fd, .imm (.int ((a + tokLen (l.drop a) : Nat) : Int)), rfl, by omega, rfl, by rw [hc, hcut], by omega⟩
          · rw [decide_eq_false h2]
            one_place
            rw [if_neg h2] at hcut
            refine dS_append ?_ ⟨_, rfl⟩
            one_place
            refine dE_slS ?_
            one_place
            refine ⟨(a : Int), rfl, ?_⟩
            one_place
            refine ⟨((a + tokLen (l.drop a) : Nat) : Int), rfl, ?_⟩
            refine ⟨_, rfl, small hsz, ?_⟩
            rw [cutS_mid (by omega) (by omega), Nat.add_sub_cancel_left]
            one_place
            refine ⟨_, _, rfl, rfl, by rw [List.length_map]; omega, ?_⟩
            one_place
            refine ⟨l.length - (a + tokLen (l.drop a)), by omega, a + tokLen (l.drop a), fd ++ [(l.drop a).take (tokLen (l.drop a))], .imm (.int ((a + tokLen (l.drop a) : Nat) : Int)), ?_, by omega, rfl, by rw [hc, hcut, List.append_assoc], by rw [List.length_append, List.length_singleton]; omega⟩
            rw [List.map_append]
            rfl
        · rw [decide_eq_false (show ¬ (a : Int) < (l.length : Int) by omega)]
          have ea : a = l.length := by omega
          have ef : cutL l = fd := by
            rw [hc, ea, List.drop_length]
            show fd ++ [] = fd
            rw [List.append_nil]
          refine ⟨fun z => Bool.noConfusion z, fun _ => ?_⟩
          refine dS_freeze 1 rfl ?_
          have hfit : ∀ t ∈ fd, t.length ≤ 10000 := fun t ht => by
            rw [← ef] at ht
            have := cut_piece_len l.length l t ht
            omega
          have hfl : fd.length ≤ 10000 := by omega
          one_place
          refine dL_map (dI_list (dE_varE ⟨_, rfl, _, rfl, fun e => .bl (isTok e), by rw [List.length_map]; omega, fun e he => ?_, ?_⟩))
          · obtain ⟨t, ht, rfl⟩ := List.mem_map.mp he
            one_place
            refine ⟨⟨_, rfl, ?_⟩, rfl, rfl⟩
            show (S t).length ≤ 1000000
            rw [S_len]
            have := hfit t ht
            omega
          · one_place
            have e1 : (fd.map fun t => D.str (S t)).map (fun e => D.bl (isTok e)) = ((fd.map fun t => isTok (.str (S t)))).map D.bl := by rw [List.map_map, List.map_map]; rfl
            rw [e1]
            refine ⟨_, ca_all, _, rfl, ?_⟩
            have e2 : (fd.map fun t => isTok (.str (S t))).all id = okCut l := by
              unfold okCut
              rw [ef, List.all_map]
              rfl
            rw [e2]
            cases e3 : okCut l with
            | true =>
              refine ⟨fun z => Bool.noConfusion z, fun _ => ?_⟩
              one_place
              refine ⟨l, rfl, e3, ?_⟩
              rw [ef]
              rfl
            | false =>
              refine ⟨fun _ => ?_, fun z => Bool.noConfusion z⟩
              refine dS_raise ?_
              one_place
    · have hn : d.isStr = false := by
        cases d with
        | str x => exact (hs ⟨x, rfl⟩).elim
        | _ => rfl
      rcases un_or d with ⟨a, e, rfl⟩ | hu
      · have hne : e.isStr = false := hun rfl
        refine dS_seq ?_
        refine dS_if (dT_un 0 rfl ?_)
        one_place
        refine ⟨hni, _, rfl, rfl, fun _ => ?_, fun z => ?_⟩
        · refine dS_raise ?_
          one_place
        · rw [hne] at z
          cases z
      · rw [hu] at hni
        one_place
        refine ⟨hni, _, rfl, fun _ => ?_, fun z => ?_⟩
        · refine dS_raise ?_
          one_place
        · rw [hn] at z
          cases z
abbrev spx_line_of (C : Addr) : Sp := spX (fun ds => ∃ d, ds = [d] ∧ fitsT d.un ∧ isText d.un = false) (fun ds d => False) (fun ds C' d => C' = C ∧ ds = [d])
theorem okx_line_of (T : Txt K mg) (cx_check_text : ConX P w K mg base "check_text" p_check_text 6 (spx_check_text C)) : ConX P w K mg base "line_of" p_line_of 7 (spx_line_of C) := by
  refine conX T.d_line_of sc_line_of (fun ds h => ?_) (fun f cdv A outer s H E hr => ⟨_, (pss_cons (ps_expr (pe_conX cx_check_text (hr.mono (by decide)) (takes_of rfl rfl rfl rfl) (by rfl) (pa_cons (pv 0) pa_nil)))
      (pss_one (ps_ret (pe_join pe_str (pv 0))))), fun ds h => ?_⟩)
  · obtain ⟨x, rfl, _⟩ := h
    rfl
  · obtain ⟨d, rfl, hd, hf⟩ := h
    refine dS_seq (dS_drop (dE_callX ?_))
    one_place
theorem okx_tight_line (T : Txt K mg) (cx_check_text : ConX P w K mg base "check_text" p_check_text 6 (spx_check_text C)) (c_run_together : Con P w K mg base "run_together" p_run_together 5 sp_run_together) : ConX P w K mg base "tight_line" p_tight_line 7 (spx_line_of C) := by
  refine conX T.d_tight_line sc_tight_line (fun ds h => ?_) (fun f cdv A outer s H E hr => ⟨_, (pss_cons (ps_expr (pe_conX cx_check_text (hr.mono (by decide)) (takes_of rfl rfl rfl rfl) (by rfl) (pa_cons (pv 0) pa_nil)))
      (pss_cons (ps_asg (pe_tup (pa_cons pe_str (pa_cons pe_str pa_nil))) (pg_tup rfl (pgs_cons (pg_name (i := 1) sc_tight_line.nd rfl (.inl rfl)) (pgs_cons (pg_name (i := 2) sc_tight_line.nd rfl (.inl rfl)) pgs_nil))))
      (pss_cons (ps_for (passes_of rfl) rfl (pi_list (pv 0)) (pg_name (i := 3) sc_tight_line.nd rfl (.inl rfl)) (pss_cons (ps_set (i := 1) sc_tight_line.nd rfl (.inl rfl) (pe_op op_addA (pv 1) (pe_ifExp (pt_val (pe_con c_run_together (hr.mono (by decide)) (by rfl) (pa_cons (pv 2) (pa_cons (pv 3) pa_nil)))) (pe_op op_addA pe_str (pv 3)) (pv 3))))
      (pss_one (ps_set (i := 2) sc_tight_line.nd rfl (.inl rfl) (pv 3)))))
      (pss_one (ps_ret (pv 1)))))), fun ds h => ?_⟩)
  · obtain ⟨x, rfl, _⟩ := h
    rfl
  · obtain ⟨d, rfl, hd, hf⟩ := h
    refine dS_seq (dS_drop (dE_callX ?_))
    one_place
end
end K2
namespace K2
open PySem L2 Kr
local macro_rules | `(tactic| one_item) => `(tactic| first
  | (with_reducible refine dS_seq ?_) | (with_reducible refine dS_ret ?_) | (with_reducible refine dS_if ?_) | (with_reducible refine dS_next ?_) | (with_reducible refine dS_nextE ?_) | (with_reducible refine dS_brkE ?_) | (with_reducible refine dS_ctE ?_)
  | (with_reducible refine dT_B ?_) | (with_reducible refine dT_test ?_) | (with_reducible refine dT_and ?_) | (with_reducible refine dT_or ?_) | (with_reducible refine dT_not ?_)
  | (with_reducible refine dE_and ?_) | (with_reducible refine dE_or ?_) | (with_reducible refine dE_not ?_) | (with_reducible refine dE_if ?_)
  | (with_reducible refine dE_int ?_) | (with_reducible refine dE_str ?_) | (with_reducible refine dE_bl ?_) | (with_reducible refine dE_non ?_)
  | ((with_reducible refine dE_varE ?_); refine ⟨_, rfl, ?_⟩) | ((with_reducible refine dE_ownE ?_); refine ⟨_, rfl, ?_⟩)
  | (with_reducible refine dE_ix ?_) | (with_reducible refine dE_op2 ?_) | (with_reducible refine dE_chain ?_) | (with_reducible refine dE_un ?_) | (with_reducible refine dA_cons ?_) | (with_reducible refine dA_nil ?_) | (with_reducible refine dE_callF ?_) | (with_reducible refine dE_tup ?_)
  | (refine ⟨fun (_ : true = true) => ?_, fun z => Bool.noConfusion z⟩) | (refine ⟨fun z => Bool.noConfusion z, fun (_ : false = false) => ?_⟩)
  | (with_reducible refine dE_isStr ?_) | (with_reducible refine dE_isInt ?_) | (with_reducible refine dE_isBool ?_) | (with_reducible refine dE_isList ?_) | (with_reducible refine dE_isTup ?_) | (with_reducible refine dE_isDict ?_) | (with_reducible refine dE_cb ?_) | (with_reducible refine dE_lc ?_) | (with_reducible refine dE_lstF ?_) | (with_reducible refine dI_list ?_) | (with_reducible refine dI_tup ?_) | (with_reducible refine dI_str ?_) | (with_reducible refine dI_rng1 ?_) | (with_reducible refine dI_rng2 ?_) | (with_reducible refine dS_set ?_) | (with_reducible refine dS_augI ?_) | (with_reducible refine dS_brk ?_) | (with_reducible refine dS_ct ?_) | (with_reducible refine dO_none ?_) | (with_reducible refine dO_some ?_))
local macro_rules | `(tactic| one_place) => `(tactic| (repeat' one_item))
section
variable {P : Program} {w : World} {K : PySem.W.Frag} {mg : Str → Option Value} {base : Heap}
/-! ### the law's purse -/
abbrev sp_mixed : Sp := spD (fun ds => ∃ a b c : Int, ds = [.int a, .int b, .int c] ∧ 0 ≤ a ∧ a < 2147483648 ∧ 0 ≤ b ∧ b ≤ 1000000000 ∧ 0 ≤ c ∧ c < 1000) (fun _ d => ∃ n : Int, d = .int n ∧ 0 ≤ n ∧ n < 2147483587)
theorem ok_mixed (T : Txt K mg) : Con P w K mg base "_law_mixed" p__law_mixed 2 sp_mixed := by
  refine conD T.d__law_mixed sc__law_mixed (fun ds h => ?_) (fun f cdv A outer s H E hr => ⟨_, (pss_cons (ps_set (i := 3) sc__law_mixed.nd rfl (.inl rfl) (pe_op op_addA (pe_op op_mulA (pv 0) pe_int) (pe_op op_mulA (pe_op op_mulA pe_int (pv 1)) (pv 1))))
      (pss_cons (ps_set (i := 3) sc__law_mixed.nd rfl (.inl rfl) (pe_op op_modA (pe_callTy call_intA (by rfl) T.n_int (by decide +kernel) (pa_cons (pe_op op_addA (pe_op op_addA (pv 3) (pe_op op_mulA pe_int (pv 2))) (pv 1)) pa_nil)) pe_int))
      (pss_cons (ps_set (i := 3) sc__law_mixed.nd rfl (.inl rfl) (pe_op op_modA (pe_callTy call_intA (by rfl) T.n_int (by decide +kernel) (pa_cons (pe_op op_addA (pe_op op_mulA (pv 3) (pv 3)) pe_int) pa_nil)) pe_int))
      (pss_one (ps_ret (pe_op op_modA (pe_callTy call_intA (by rfl) T.n_int (by decide +kernel) (pa_cons (pe_op op_mulA (pv 3) pe_int) pa_nil)) pe_int)))))), fun ds h => ?_⟩)
  · obtain ⟨a, b, c, rfl, _⟩ := h
    rfl
  · obtain ⟨a, b, c, rfl, ha, ha2, hb, hb2, hc, hc2⟩ := h
    one_place
    refine ⟨_, od_mul (.inr ⟨by decide, by decide⟩), ?_⟩
    one_place
    refine ⟨_, od_mul (.inl ⟨by decide, by decide⟩), ?_⟩
    one_place
    refine ⟨_, od_mul (.inr ⟨by omega, by omega⟩), ?_⟩
    refine ⟨_, od_add, ?_⟩
    one_place
    refine ⟨_, od_mul (.inl ⟨by decide, by decide⟩), _, od_add, ?_⟩
    one_place
    refine ⟨_, od_add, ?_⟩
    one_place
    refine ⟨_, ca_int, ?_⟩
    one_place
    refine ⟨_, od_mod (by decide), ?_⟩
    generalize hm : (a * 69069 + 104729 * b * b + 7919 * c + b) % 2147483647 = m
    have hm1 : 0 ≤ m ∧ m < 2147483647 := by
      rw [← hm]
      exact ⟨Int.emod_nonneg _ (by decide), Int.emod_lt_of_pos _ (by decide)⟩
    one_place
    refine ⟨_, od_mul (.inl ⟨by omega, by omega⟩), ?_⟩
    one_place
    refine ⟨_, od_add, ?_⟩
    one_place
    refine ⟨_, ca_int, ?_⟩
    one_place
    refine ⟨_, od_mod (by decide), ?_⟩
    generalize hn : (m * m + 40503) % 2147483629 = n
    have hn1 : 0 ≤ n ∧ n < 2147483629 := by
      rw [← hn]
      exact ⟨Int.emod_nonneg _ (by decide), Int.emod_lt_of_pos _ (by decide)⟩
    one_place
    refine ⟨_, od_mul (.inl ⟨by omega, by omega⟩), ?_⟩
    one_place
    refine ⟨_, ca_int, ?_⟩
    one_place
    refine ⟨_, od_mod (by decide), ?_⟩
    exact ⟨_, rfl, Int.emod_nonneg _ (by decide), Int.emod_lt_of_pos _ (by decide)⟩
theorem bits_le {m : Int} (h1 : 1 ≤ m) (h2 : m ≤ 1000000) : Builtin.Int.intBits m ≤ 20 := by
  unfold Builtin.Int.intBits
  split
  · omega
  · have h0 : m.natAbs ≠ 0 := by omega
    have : m.natAbs.log2 < 20 := (Nat.log2_lt h0).mpr (by omega)
    omega
abbrev sp_draw : Sp := spP (fun ds => ∃ m : Int, ds = [.int m] ∧ 1 ≤ m ∧ m ≤ 1000000) (fun ds d => ∃ m n : Int, ds = [.int m] ∧ d = .int n ∧ 0 ≤ n ∧ n < m) 1
theorem ok_draw (T : Txt K mg) (c__law_mixed : Con P w K mg base "_law_mixed" p__law_mixed 2 sp_mixed) : Con P w K mg base "_law_draw" p__law_draw 3 sp_draw := by
  refine conP T.d__law_draw sc__law_draw (fun ds h => ?_) (fun f cdv A outer s H E hr => ⟨_, (pss_cons (ps_if (pt_cmpR op_gtA (pe_ix ix_seq (pv 0) pe_int (fun _ _ => rfl)) pe_int (nomark _)) (pss_cons (ps_set (i := 2) sc__law_draw.nd rfl (.inl rfl) (pe_op op_modA (pe_callTy call_intA (by rfl) T.n_int (by decide +kernel) (pa_cons (pe_ix ix_seq (pv 0) pe_int (fun _ _ => rfl)) pa_nil)) (pv 1)))
      (pss_cons (ps_asg (pe_op op_divA (pe_ix ix_seq (pv 0) pe_int (fun _ _ => rfl)) (pv 1)) (pg_sub (pv 0) pe_int set_list))
      (pss_one (ps_ret (pv 2))))) pss_nil)
      (pss_cons (ps_set (i := 3) sc__law_draw.nd rfl (.inl rfl) pe_int)
      (pss_cons (ps_for PassesOwn.never rfl (pi_range1 (by rfl) T.n_range (pa_cons (pe_op op_addA pe_int (pe_op op_divA (pe_bits (pv 1)) pe_int)) pa_nil)) (pg_name (i := 4) sc__law_draw.nd rfl (.inl rfl)) (pss_cons (ps_asg (pe_op op_addA (pe_ix ix_seq (pv 0) pe_int (fun _ _ => rfl)) pe_int) (pg_sub (pv 0) pe_int set_list))
      (pss_one (ps_set (i := 3) sc__law_draw.nd rfl (.inl rfl) (pe_op op_addA (pe_op op_mulA (pv 3) pe_int) (pe_con c__law_mixed (hr.mono (by decide)) (by rfl) (pa_cons (pe_ix ix_seq (pv 0) pe_int (fun _ _ => rfl)) (pa_cons (pe_ix ix_seq (pv 0) pe_int (fun _ _ => rfl)) (pa_cons (pe_ix ix_seq (pv 0) pe_int (fun _ _ => rfl)) pa_nil)))))))))
      (pss_one (ps_ret (pe_op op_modA (pe_callTy call_intA (by rfl) T.n_int (by decide +kernel) (pa_cons (pv 3) pa_nil)) (pv 1))))))), fun ds p n h hn => ?_⟩)
  · obtain ⟨m, rfl, _⟩ := h
    rfl
  · obtain ⟨m, rfl, h1, h2⟩ := h
    refine dS_seq (dS_if (dT_test (dE_op2 (dE_pur (i := 0) rfl (by decide) fun x hx => ?_))))
    one_place
    refine ⟨_, od_gt, _, rfl, ?_⟩
    cases hx0 : decide (0 < x) with
    | true =>
      refine ⟨fun _ => ?_, fun z => Bool.noConfusion z⟩
      refine dS_seq (dS_set (dE_op2 (dE_cb (dA_cons (dE_pur (i := 0) rfl (by decide) fun y hy => ?_)))))
      one_place
      refine ⟨_, ca_int, ?_⟩
      one_place
      refine ⟨_, od_mod (by omega), ?_⟩
      one_place
      refine dS_seq (dS_pur ⟨_, rfl⟩ (by decide) (dE_op2 (dE_pur (i := 0) rfl (by decide) fun z hz => ?_)))
      one_place
      refine ⟨_, od_div ⟨by omega, by omega⟩, _, n, n, rfl, rfl, Nat.le_refl _, ⟨Int.ediv_nonneg hz.1 (by omega), Int.lt_of_le_of_lt (Int.ediv_le_self _ hz.1) hz.2⟩, ?_⟩
      one_place
      exact ⟨⟨m, _, rfl, rfl, Int.emod_nonneg _ (by omega), Int.emod_lt_of_pos _ (by omega)⟩, n, by omega, rfl⟩
    | false =>
      refine ⟨fun z => Bool.noConfusion z, fun _ => ?_⟩
      one_place
      refine dS_for (vs := [4]) ?_
      refine dI_rng1 (dA_cons (dE_op2 (dE_int (dE_op2 (dE_bits ?_)))))
      one_place
      refine ⟨m, rfl, ?_⟩
      one_place
      have hb := bits_le h1 h2
      refine ⟨_, od_div ⟨by decide, by decide⟩, _, od_add, ?_⟩
      one_place
      refine ⟨_, rfl, by omega, by omega, ?_⟩
      have e1 : (1 + ((Builtin.Int.intBits m : Nat) : Int) / 28).toNat = 1 := by omega
      rw [e1]
      refine ⟨fun j G' => ∃ (F : Int) (n' : Nat) (s4 : Sl), 0 ≤ F ∧ (j = 0 → F = 0) ∧ n' ≤ n + j ∧ G' = [.pur p n', .imm (.int m), .any, .imm (.int F), s4], ⟨0, n, .any, by decide, fun _ => rfl, by omega, rfl⟩, fun j d G' hd ⟨F, n', s4, hF, hF0, hn', hG⟩ => ?_, fun G' ⟨F, n', s4, hF, hF0, hn', hG⟩ => ?_⟩
      · subst hG
        have hj : j = 0 := by
          have := (List.getElem?_eq_some_iff.mp hd).1
          rw [nats_length] at this
          omega
        subst hj
        have hF0 := hF0 rfl
        subst hF0
        refine dG_name (by decide) ?_
        refine dS_seq (dS_pur ⟨_, rfl⟩ (by decide) (dE_op2 (dE_pur (i := 0) rfl (by decide) fun x hx => ?_)))
        one_place
        refine ⟨_, od_add, _, n', n' + 1, rfl, rfl, by omega, ⟨?_, ?_⟩, ?_⟩
        · have := hx.1
          omega
        · have := hx.2
          omega
        refine dS_set (dE_op2 (dE_op2 (dE_varE ⟨_, rfl, dE_int ?_⟩)))
        refine ⟨_, od_mul (.inl ⟨by decide, by decide⟩), ?_⟩
        refine dE_call (dA_cons (dE_pur (i := 0) rfl (by decide) fun a ha => dA_cons (dE_pur (i := 0) rfl (by decide) fun b hb => dA_cons (dE_pur (i := 0) rfl (by decide) fun c hc => dA_nil ⟨⟨a, b, c, rfl, ha.1, ha.2, hb.1, ?_, hc.1, hc.2⟩, fun d ⟨r, hd, hr1, hr2⟩ => ?_⟩))))
        · have := hb.2
          omega
        · subst hd
          refine ⟨_, od_add, ?_⟩
          exact ⟨_, n' + 1, .imm d, by omega, fun z => by omega, by omega, rfl⟩
      · subst hG
        one_place
        refine ⟨_, ca_int, ?_⟩
        one_place
        refine ⟨_, od_mod (by omega), ?_⟩
        refine ⟨⟨m, _, rfl, rfl, Int.emod_nonneg _ (by omega), Int.emod_lt_of_pos _ (by omega)⟩, n', ?_, rfl⟩
        rw [nats_length] at hn'
        exact hn'
end
end K2
namespace K2
open PySem L2 Kr
local macro_rules | `(tactic| one_item) => `(tactic| first
  | (with_reducible refine dS_seq ?_) | (with_reducible refine dS_ret ?_) | (with_reducible refine dS_if ?_) | (with_reducible refine dS_next ?_) | (with_reducible refine dS_nextE ?_) | (with_reducible refine dS_brkE ?_) | (with_reducible refine dS_ctE ?_)
  | (with_reducible refine dT_B ?_) | (with_reducible refine dT_test ?_) | (with_reducible refine dT_and ?_) | (with_reducible refine dT_or ?_) | (with_reducible refine dT_not ?_)
  | (with_reducible refine dE_and ?_) | (with_reducible refine dE_or ?_) | (with_reducible refine dE_not ?_) | (with_reducible refine dE_if ?_)
  | (with_reducible refine dE_int ?_) | (with_reducible refine dE_str ?_) | (with_reducible refine dE_bl ?_) | (with_reducible refine dE_non ?_)
  | ((with_reducible refine dE_varE ?_); refine ⟨_, rfl, ?_⟩) | ((with_reducible refine dE_ownE ?_); refine ⟨_, rfl, ?_⟩)
  | (with_reducible refine dE_ix ?_) | (with_reducible refine dE_op2 ?_) | (with_reducible refine dE_chain ?_) | (with_reducible refine dE_un ?_) | (with_reducible refine dA_cons ?_) | (with_reducible refine dA_nil ?_) | (with_reducible refine dE_callF ?_) | (with_reducible refine dE_tup ?_)
  | (refine ⟨fun (_ : true = true) => ?_, fun z => Bool.noConfusion z⟩) | (refine ⟨fun z => Bool.noConfusion z, fun (_ : false = false) => ?_⟩)
  | (with_reducible refine dE_callP (i := 0) rfl ?_)
  | (with_reducible refine dE_isStr ?_) | (with_reducible refine dE_isInt ?_) | (with_reducible refine dE_isBool ?_) | (with_reducible refine dE_isList ?_) | (with_reducible refine dE_isTup ?_) | (with_reducible refine dE_isDict ?_) | (with_reducible refine dE_cb ?_) | (with_reducible refine dE_lc ?_) | (with_reducible refine dE_lstF ?_) | (with_reducible refine dI_list ?_) | (with_reducible refine dI_tup ?_) | (with_reducible refine dI_str ?_) | (with_reducible refine dI_rng1 ?_) | (with_reducible refine dI_rng2 ?_) | (with_reducible refine dS_set ?_) | (with_reducible refine dS_augI ?_) | (with_reducible refine dS_brk ?_) | (with_reducible refine dS_ct ?_) | (with_reducible refine dO_none ?_) | (with_reducible refine dO_some ?_))
local macro_rules | `(tactic| one_place) => `(tactic| (repeat' one_item))
section
variable {P : Program} {w : World} {K : PySem.W.Frag} {mg : Str → Option Value} {base : Heap}
/-! ### words, numbers, tokens drawn -/
theorem join_S (a : List Nat) (l : List (List Nat)) : Txt.join (S a) (l.map S) = S (TL.joinL a l) := by
  have h := TL.tl_join (S a) (l.map S)
  have h2 : Txt.join (S a) (l.map S) = Str.join (S a) (l.map S) := StrLaws.glued_eq_join _ _
  rw [h2]
  have e : ((l.map S).map fun x : Str => x.cps.toList) = l := by
    rw [List.map_map]
    exact List.map_id' l
  have h3 : (Str.join (S a) (l.map S)).cps.toList = TL.joinL a ((l.map S).map fun x : Str => x.cps.toList) := h
  rw [e] at h3
  exact congrArg (fun z : List Nat => (⟨z.toArray⟩ : Str)) h3
theorem joinL_nil : ∀ l : List (List Nat), TL.joinL [] l = l.flatten
  | [] => rfl
  | [p] => by simp [TL.joinL]
  | p :: q :: r => by
    show p ++ ([] ++ TL.joinL [] (q :: r)) = _
    rw [List.nil_append, joinL_nil (q :: r)]
    simp
theorem chars {es : List D} {Pc : Nat → Prop} (h : ∀ (j : Nat) e, es[j]? = some e → ∃ c, e = .str ⟨#[c]⟩ ∧ Pc c) : ∃ cs : List Nat, es = (cs.map fun c => S [c]).map D.str ∧ cs.length = es.length ∧ ∀ c ∈ cs, Pc c := by
  induction es with
  | nil => exact ⟨[], rfl, rfl, fun c z => by cases z⟩
  | cons e es ih =>
    obtain ⟨c, rfl, hc⟩ := h 0 e rfl
    obtain ⟨cs, e1, e2, e3⟩ := ih fun j e z => h (j + 1) e z
    refine ⟨c :: cs, by rw [e1]; rfl, by rw [List.length_cons, e2, List.length_cons], fun x hx => ?_⟩
    rcases List.mem_cons.mp hx with z | z
    · rw [z]; exact hc
    · exact e3 x z
theorem flat_ones : ∀ cs : List Nat, (cs.map fun c => [c]).flatten = cs
  | [] => rfl
  | c :: cs => by
    rw [List.map_cons, List.flatten_cons, flat_ones cs]
    rfl
theorem join_chars (cs : List Nat) : Txt.join (Str.ofString "") (cs.map fun c => S [c]) = S cs := by
  have h := join_S [] (cs.map fun c => [c])
  rw [joinL_nil, List.map_map, flat_ones] at h
  exact h
theorem chars_sum (cs : List Nat) : ((cs.map fun c => S [c]).map (·.length)).sum = cs.length := by
  induction cs with
  | nil => rfl
  | cons c cs ih =>
    rw [List.map_cons, List.map_cons, List.sum_cons, ih, List.length_cons]
    have : (S [c]).length = 1 := rfl
    omega
abbrev sp_one_of : Sp := spP (fun ds => ∃ l, ds = [.lst l] ∧ 1 ≤ l.length ∧ l.length ≤ 1000) (fun ds d => ∀ l, ds = [.lst l] → d ∈ l) 1
theorem ok_one_of (T : Txt K mg) (c__law_draw : Con P w K mg base "_law_draw" p__law_draw 3 sp_draw) : Con P w K mg base "_law_one_of" p__law_one_of 4 sp_one_of := by
  refine conP T.d__law_one_of sc__law_one_of (fun ds h => ?_) (fun f cdv A outer s H E hr => ⟨_, (pss_one (ps_ret (pe_ix ix_seq (pv 1) (pe_con c__law_draw (hr.mono (by decide)) (by rfl) (pa_cons (pv 0) (pa_cons (pe_callB call_lenA (by rfl) T.n_len (by decide +kernel) (pa_cons (pv 1) pa_nil)) pa_nil))) (fun _ _ => rfl)))), fun ds p n h hn => ?_⟩)
  · obtain ⟨m, rfl, _⟩ := h
    rfl
  · obtain ⟨l, rfl, h1, h2⟩ := h
    one_place
    refine ⟨_, ca_len rfl, ?_⟩
    one_place
    refine ⟨n, rfl, ⟨_, rfl, by omega, by omega⟩, by omega, fun d ⟨m, r, e1, e2, r1, r2⟩ => ?_⟩
    subst e2
    cases e1
    have hz : l[r.toNat]? = some l[r.toNat] := List.getElem?_eq_getElem (by omega)
    refine ⟨r, l[r.toNat]'(by omega), rfl, .inl ⟨l, rfl, ?_⟩, fun m hm => ?_, n + 1, by omega, rfl⟩
    · have := atI_nat hz
      rwa [Int.toNat_of_nonneg r1] at this
    · cases hm
      exact List.getElem_mem _
theorem at_str {x : Str} {r : Int} (h0 : 0 ≤ r) (h1 : r < x.cps.toList.length) : ∃ c, atI x.cps.toList r = some c ∧ c ∈ x.cps.toList := by
  have hz : x.cps.toList[r.toNat]? = some x.cps.toList[r.toNat] := List.getElem?_eq_getElem (by omega)
  refine ⟨x.cps.toList[r.toNat]'(by omega), ?_, List.getElem_mem _⟩
  have := atI_nat hz
  rwa [Int.toNat_of_nonneg h0] at this
abbrev sp_word : Sp := spP (fun ds => ds = []) (fun _ d => ∃ l : List Nat, d = .str (S l) ∧ 1 ≤ l.length ∧ l.length ≤ 8 ∧ ∀ c ∈ l, c ∈ LET) 10
theorem ok_word (T : Txt K mg) (c__law_draw : Con P w K mg base "_law_draw" p__law_draw 3 sp_draw) : Con P w K mg base "_law_word" p__law_word 4 sp_word := by
  refine conP T.d__law_word sc__law_word (fun ds h => ?_) (fun f cdv A outer s H E hr => ⟨_, (pss_cons (ps_set (i := 1) sc__law_word.nd rfl (.inl rfl) (pe_op op_addA pe_int (pe_con c__law_draw (hr.mono (by decide)) (by rfl) (pa_cons (pv 0) (pa_cons (pe_ifExp (pt_cmpR (op_eqA hr.units) (pe_con c__law_draw (hr.mono (by decide)) (by rfl) (pa_cons (pv 0) (pa_cons pe_int pa_nil))) pe_int (nomark _)) pe_int pe_int) pa_nil)))))
      (pss_one (ps_ret (pe_join pe_str (pe_lc (own := [("_law_turn", 2)]) rfl sc__law_word.nd (pi_range1 (by rfl) T.n_range (pa_cons (pv 1) pa_nil)) (blkOk_by (own := [("_law_turn", 2)]) (N := n__law_word) (sc := defScope s__law_word) (by decide +kernel)) (fun _ _ _ _ _ => (pg_name (i := 2) sc__law_word.nd rfl (Or.inl rfl))) (fun _ _ _ _ _ => pts_nil) (fun _ _ _ _ _ => (pe_ix (show IxR _ (rIx K) from ix_seq) pe_str (pe_con c__law_draw (hr.mono (by decide)) (by rfl) (pa_cons (pv 0) (pa_cons pe_int pa_nil))) (fun _ _ => rfl)))))))), fun ds p n h hn => ?_⟩)
  · subst h
    rfl
  · subst h
    refine dS_seq (dS_set (dE_op2 (dE_int (dE_callP (i := 0) rfl (dA_cons (dE.imp (Q := fun d G1 => ∃ q : Int, d = .int q ∧ 1 ≤ q ∧ q ≤ 8 ∧ G1 = [.pur p (n + 1), .any, .any]) (dE_if ?_) fun d G1 ⟨q, e1, h1, h2, e2⟩ => ?_))))))
    · one_place
      refine ⟨n, rfl, ⟨3, rfl, by decide, by decide⟩, by omega, fun d ⟨m, r, e1, e2, r1, r2⟩ => ?_⟩
      subst e2
      one_place
      refine ⟨_, od_eqI, _, rfl, fun _ => ?_, fun _ => ?_⟩
      · refine dE_int ⟨8, rfl, by decide, by decide, rfl⟩
      · refine dE_int ⟨3, rfl, by decide, by decide, rfl⟩
    subst e1 e2
    one_place
    refine ⟨n + 1, rfl, ⟨q, rfl, by omega, by omega⟩, by omega, fun d ⟨m, r, e1, e2, r1, r2⟩ => ?_⟩
    cases e1
    subst e2
    refine ⟨_, od_add, ?_⟩
    one_place
    refine dE_join (dE_str ⟨_, rfl, dE_lc (dL_gen (dI_rng1 (dA_cons (dE_varE ⟨_, rfl, dA_nil ⟨_, rfl, by omega, by omega, n + 2, 1, fun _ y => ∃ c, y = .str ⟨#[c]⟩ ∧ c ∈ LET, rfl, by decide, ?_, fun j d hd => ?_, fun es hl he => ?_⟩⟩))))⟩)
    · rw [nats_length]; omega
    · have hj := (List.getElem?_eq_some_iff.mp hd).1
      rw [nats_length] at hj
      one_place
      refine ⟨n + 2 + 1 * j, rfl, ⟨26, rfl, by decide, by decide⟩, by omega, fun d ⟨m, r, e1, e2, r1, r2⟩ => ?_⟩
      cases e1
      subst e2
      obtain ⟨c, hc, hm⟩ := at_str (x := k_LETTERS) r1 r2
      exact ⟨r, _, rfl, .inr (.inr ⟨_, c, rfl, by rw [sizeLine_eq]; decide, hc, rfl⟩), ⟨c, rfl, hm⟩, rfl⟩
    · obtain ⟨cs, e1, e2, e3⟩ := chars he
      rw [nats_length] at hl
      refine ⟨_, by rw [e1], ?_, ?_⟩
      · rw [chars_sum, List.length_map]
        have : (Str.ofString "").length = 0 := rfl
        rw [this]
        omega
      · rw [join_chars]
        refine ⟨⟨cs, rfl, by omega, by omega, e3⟩, _, ?_, rfl⟩
        rw [nats_length]
        omega
end
end K2
namespace K2
open PySem L2 Kr
local macro_rules | `(tactic| one_item) => `(tactic| first
  | (with_reducible refine dS_seq ?_) | (with_reducible refine dS_ret ?_) | (with_reducible refine dS_if ?_) | (with_reducible refine dS_next ?_) | (with_reducible refine dS_nextE ?_) | (with_reducible refine dS_brkE ?_) | (with_reducible refine dS_ctE ?_)
  | (with_reducible refine dT_B ?_) | (with_reducible refine dT_test ?_) | (with_reducible refine dT_and ?_) | (with_reducible refine dT_or ?_) | (with_reducible refine dT_not ?_)
  | (with_reducible refine dE_and ?_) | (with_reducible refine dE_or ?_) | (with_reducible refine dE_not ?_) | (with_reducible refine dE_if ?_)
  | (with_reducible refine dE_int ?_) | (with_reducible refine dE_str ?_) | (with_reducible refine dE_bl ?_) | (with_reducible refine dE_non ?_)
  | ((with_reducible refine dE_varE ?_); refine ⟨_, rfl, ?_⟩) | ((with_reducible refine dE_ownE ?_); refine ⟨_, rfl, ?_⟩)
  | (with_reducible refine dE_ix ?_) | (with_reducible refine dE_op2 ?_) | (with_reducible refine dE_chain ?_) | (with_reducible refine dE_un ?_) | (with_reducible refine dA_cons ?_) | (with_reducible refine dA_nil ?_) | (with_reducible refine dE_callF ?_) | (with_reducible refine dE_tup ?_)
  | (refine ⟨fun (_ : true = true) => ?_, fun z => Bool.noConfusion z⟩) | (refine ⟨fun z => Bool.noConfusion z, fun (_ : false = false) => ?_⟩)
  | (with_reducible refine dE_callP (i := 0) rfl ?_)
  | (with_reducible refine dE_isStr ?_) | (with_reducible refine dE_isInt ?_) | (with_reducible refine dE_isBool ?_) | (with_reducible refine dE_isList ?_) | (with_reducible refine dE_isTup ?_) | (with_reducible refine dE_isDict ?_) | (with_reducible refine dE_cb ?_) | (with_reducible refine dE_lc ?_) | (with_reducible refine dE_lstF ?_) | (with_reducible refine dI_list ?_) | (with_reducible refine dI_tup ?_) | (with_reducible refine dI_str ?_) | (with_reducible refine dI_rng1 ?_) | (with_reducible refine dI_rng2 ?_) | (with_reducible refine dS_set ?_) | (with_reducible refine dS_augI ?_) | (with_reducible refine dS_brk ?_) | (with_reducible refine dS_ct ?_) | (with_reducible refine dO_none ?_) | (with_reducible refine dO_some ?_))
local macro_rules | `(tactic| one_place) => `(tactic| (repeat' one_item))
section
variable {P : Program} {w : World} {K : PySem.W.Frag} {mg : Str → Option Value} {base : Heap}
theorem num_tok {d : D} (h : isNum d = true) : isTok d = true := by
  obtain ⟨x, rfl, _⟩ := run_str (show isRun d FIG = true by unfold isNum at h; rw [Bool.and_eq_true] at h; exact h.1)
  unfold isTok
  show (!(kindS x).isNon) = true
  unfold kindS
  split
  · rfl
  · first | rfl | (rw [if_pos h]; rfl)
theorem word_tok {d : D} (h : isWord d = true) : isTok d = true := by
  obtain ⟨x, rfl, _⟩ := run_str h
  unfold isTok
  show (!(kindS x).isNon) = true
  unfold kindS
  rw [if_pos h]
  rfl
theorem run_of {l : List Nat} {y : List Nat} (h1 : 1 ≤ l.length) (h2 : l.length ≤ 8) (h3 : ∀ c ∈ l, c ∈ y) : isRun (.str (S l)) y = true := by
  show (decide (0 < (S l).length) && decide ((S l).length ≤ 8) && hasOnly l y) = true
  rw [S_len, decide_eq_true (show 0 < l.length by omega), decide_eq_true h2]
  show hasOnly l y = true
  unfold hasOnly
  rw [List.all_eq_true]
  exact fun c hc => decide_eq_true (h3 c hc)
abbrev sp_tokR (m : Nat) : Sp := spP (fun ds => ds = []) (fun _ d => ∃ l : List Nat, d = .str (S l) ∧ isTok (.str (S l)) = true ∧ 1 ≤ l.length ∧ l.length ≤ 9) m
theorem ok_number (T : Txt K mg) (c__law_draw : Con P w K mg base "_law_draw" p__law_draw 3 sp_draw) : Con P w K mg base "_law_number" p__law_number 4 (sp_tokR 10) := by
  refine conP T.d__law_number sc__law_number (fun ds h => ?_) (fun f cdv A outer s H E hr => ⟨_, (pss_cons (ps_set (i := 1) sc__law_number.nd rfl (.inl rfl) (pe_con c__law_draw (hr.mono (by decide)) (by rfl) (pa_cons (pv 0) (pa_cons pe_int pa_nil))))
      (pss_cons (ps_if (pt_cmpR (op_eqA hr.units) (pe_con c__law_draw (hr.mono (by decide)) (by rfl) (pa_cons (pv 0) (pa_cons pe_int pa_nil))) pe_int (nomark _)) (pss_one (ps_ret pe_str)) pss_nil)
      (pss_one (ps_ret (pe_op op_addA (pe_ix ix_seq pe_str (pe_con c__law_draw (hr.mono (by decide)) (by rfl) (pa_cons (pv 0) (pa_cons pe_int pa_nil))) (fun _ _ => rfl)) (pe_join pe_str (pe_lc (own := [("_law_turn", 2)]) rfl sc__law_number.nd (pi_range1 (by rfl) T.n_range (pa_cons (pv 1) pa_nil)) (blkOk_by (own := [("_law_turn", 2)]) (N := n__law_number) (sc := defScope s__law_number) (by decide +kernel)) (fun _ _ _ _ _ => (pg_name (i := 2) sc__law_number.nd rfl (Or.inl rfl))) (fun _ _ _ _ _ => pts_nil) (fun _ _ _ _ _ => (pe_ix (show IxR _ (rIx K) from ix_seq) pe_str (pe_con c__law_draw (hr.mono (by decide)) (by rfl) (pa_cons (pv 0) (pa_cons pe_int pa_nil))) (fun _ _ => rfl)))))))))), fun ds p n h hn => ?_⟩)
  · subst h
    rfl
  · subst h
    one_place
    refine ⟨n, rfl, ⟨8, rfl, by decide, by decide⟩, by omega, fun d ⟨m, q, e1, e2, q1, q2⟩ => ?_⟩
    cases e1
    subst e2
    one_place
    refine ⟨n + 1, rfl, ⟨5, rfl, by decide, by decide⟩, by omega, fun d ⟨m, r, e1, e2, r1, r2⟩ => ?_⟩
    subst e2
    one_place
    refine ⟨_, od_eqI, _, rfl, fun _ => ?_, fun _ => ?_⟩
    · one_place
      exact ⟨⟨[48], rfl, by decide +kernel, by decide, by decide⟩, n + 2, by omega, rfl⟩
    one_place
    refine ⟨n + 2, rfl, ⟨9, rfl, by decide, by decide⟩, by omega, fun d ⟨m, r, e1, e2, r1, r2⟩ => ?_⟩
    cases e1
    subst e2
    obtain ⟨c, hc, hm⟩ := at_str (x := Str.ofString "123456789") r1 r2
    refine ⟨r, _, rfl, .inr (.inr ⟨_, c, rfl, by rw [sizeLine_eq]; decide, hc, rfl⟩), ?_⟩
    refine dE_join (dE_str ⟨_, rfl, dE_lc (dL_gen (dI_rng1 (dA_cons (dE_varE ⟨_, rfl, dA_nil ⟨_, rfl, by omega, by omega, n + 3, 1, fun _ y => ∃ c, y = .str ⟨#[c]⟩ ∧ c ∈ FIG, rfl, by decide, ?_, fun j d hd => ?_, fun es hl he => ?_⟩⟩))))⟩)
    · rw [nats_length]; omega
    · have hj := (List.getElem?_eq_some_iff.mp hd).1
      rw [nats_length] at hj
      one_place
      refine ⟨n + 3 + 1 * j, rfl, ⟨10, rfl, by decide, by decide⟩, by omega, fun d ⟨m, r, e1, e2, r1, r2⟩ => ?_⟩
      cases e1
      subst e2
      obtain ⟨c, hc, hm⟩ := at_str (x := k_FIGURES) r1 r2
      exact ⟨r, _, rfl, .inr (.inr ⟨_, c, rfl, by rw [sizeLine_eq]; decide, hc, rfl⟩), ⟨c, rfl, hm⟩, rfl⟩
    · obtain ⟨cs, e1, e2, e3⟩ := chars he
      rw [nats_length] at hl
      refine ⟨_, by rw [e1], ?_, ?_⟩
      · rw [chars_sum, List.length_map]
        have : (Str.ofString "").length = 0 := rfl
        rw [this]
        omega
      · rw [join_chars]
        refine ⟨_, od_cat ?_, ?_⟩
        · have h1 : (⟨#[c]⟩ : Str).length = 1 := rfl
          have h2 := S_len cs
          rw [sizeLine_eq]
          omega
        have e4 : (⟨#[c]⟩ : Str) ++ S cs = S (c :: cs) := S_cat [c] cs
        rw [e4]
        have hm1 : c ∈ [49, 50, 51, 52, 53, 54, 55, 56, 57] := hm
        have hmF : c ∈ FIG := (show ∀ c ∈ [49, 50, 51, 52, 53, 54, 55, 56, 57], c ∈ FIG by decide +kernel) c hm1
        refine ⟨⟨c :: cs, rfl, num_tok ?_, by simp, by rw [List.length_cons]; omega⟩, _, ?_, rfl⟩
        · show (isRun (.str (S (c :: cs))) FIG && (decide (S (c :: cs) = Str.ofString "0") || !decide ((c :: cs).head? = some 48))) = true
          rw [run_of (by simp) (by rw [List.length_cons]; omega) fun x hx => by
            rcases List.mem_cons.mp hx with z | z
            · rw [z]; exact hmF
            · exact e3 x z]
          have : c ≠ 48 := fun z => by subst z; exact absurd hm1 (by decide)
          simp [this]
        · rw [nats_length]
          omega
theorem quote_tok {l : List Nat} (h : isWord (.str (S l)) = true) (h1 : 1 ≤ l.length) : isTok (.str (S (39 :: l))) = true := by
  have n39 : ∀ y : List Nat, 39 ∉ y → hasOnly (39 :: l) y = false := fun y hy => by
    unfold hasOnly
    rw [List.all_cons, decide_eq_false hy]
    rfl
  have a1 : isWord (.str (S (39 :: l))) = false := by
    show (_ && hasOnly (39 :: l) LET) = false
    rw [n39 LET (by decide +kernel), Bool.and_false]
  have a2 : isNum (.str (S (39 :: l))) = false := by
    show ((_ && hasOnly (39 :: l) FIG) && _) = false
    rw [n39 FIG (by decide +kernel), Bool.and_false, Bool.false_and]
  have ne : ∀ c : Nat, c ≠ 39 → ∀ m : List Nat, S (39 :: l) ≠ S (c :: m) := fun c hc m z => by
    have := str_inj.mp z
    exact hc (List.cons.inj this).1.symm
  have a3 : ¬ S (39 :: l) = Str.ofString "" := fun z => by
    have : (39 :: l) = [] := str_inj.mp z
    cases this
  have a4 : ¬ S (39 :: l) = Str.ofString "(" := ne 40 (by decide) []
  have a5 : ¬ S (39 :: l) = Str.ofString ")" := ne 41 (by decide) []
  have a6 : ¬ ((S (39 :: l)).length = 1) := by rw [S_len, List.length_cons]; omega
  unfold isTok
  show (!(kindS (S (39 :: l))).isNon) = true
  unfold kindS
  rw [a1, a2, if_neg a3, if_neg a4, if_neg a5, decide_eq_false a6, Bool.false_and]
  have a7 : (decide ((S (39 :: l)).cps.toList.head? = some 39) && isWord (.str ⟨(S (39 :: l)).cps.toList.tail.toArray⟩)) = true := by
    show (decide ((39 :: l).head? = some 39) && isWord (.str (S l))) = true
    rw [h]
    rfl
  rw [a7]
  rfl
theorem ok_token (T : Txt K mg) (c__law_draw : Con P w K mg base "_law_draw" p__law_draw 3 sp_draw) (c__law_word : Con P w K mg base "_law_word" p__law_word 4 sp_word) (c__law_number : Con P w K mg base "_law_number" p__law_number 4 (sp_tokR 10)) (c__law_one_of : Con P w K mg base "_law_one_of" p__law_one_of 4 sp_one_of) : Con P w K mg base "_law_token" p__law_token 5 (sp_tokR 12) := by
  refine conP T.d__law_token sc__law_token (fun ds h => ?_) (fun f cdv A outer s H E hr => ⟨_, (pss_cons (ps_set (i := 1) sc__law_token.nd rfl (.inl rfl) (pe_con c__law_draw (hr.mono (by decide)) (by rfl) (pa_cons (pv 0) (pa_cons pe_int pa_nil))))
      (pss_cons (ps_if (pt_cmpR op_ltA (pv 1) pe_int (nomark _)) (pss_one (ps_ret (pe_con c__law_word (hr.mono (by decide)) (by rfl) (pa_cons (pv 0) pa_nil)))) pss_nil)
      (pss_cons (ps_if (pt_cmpR (op_eqA hr.units) (pv 1) pe_int (nomark _)) (pss_one (ps_ret (pe_con c__law_number (hr.mono (by decide)) (by rfl) (pa_cons (pv 0) pa_nil)))) pss_nil)
      (pss_cons (ps_if (pt_cmpR (op_eqA hr.units) (pv 1) pe_int (nomark _)) (pss_one (ps_ret (pe_op op_addA pe_str (pe_con c__law_word (hr.mono (by decide)) (by rfl) (pa_cons (pv 0) pa_nil))))) pss_nil)
      (pss_one (ps_ret (pe_con c__law_one_of (hr.mono (by decide)) (by rfl) (pa_cons (pv 0) (pa_cons (pe_ifExp (pt_cmpR (op_eqA hr.units) (pv 1) pe_int (nomark _)) (pe_callTy (call_listA rfl) (by rfl) T.n_list (by decide +kernel) (pa_cons pe_str pa_nil)) (pe_callTy (call_listA rfl) (by rfl) T.n_list (by decide +kernel) (pa_cons pe_str pa_nil))) pa_nil))))))))), fun ds p n h hn => ?_⟩)
  · subst h
    rfl
  · subst h
    one_place
    refine ⟨n, rfl, ⟨6, rfl, by decide, by decide⟩, by omega, fun d ⟨m, q, e1, e2, q1, q2⟩ => ?_⟩
    cases e1
    subst e2
    one_place
    refine ⟨_, od_lt, _, rfl, fun _ => ?_, fun _ => ?_⟩
    · one_place
      refine ⟨n + 1, rfl, rfl, by omega, fun d ⟨l, e, h1, h2, h3⟩ => ?_⟩
      subst e
      exact ⟨⟨l, rfl, word_tok (run_of h1 h2 h3), h1, by omega⟩, _, by omega, rfl⟩
    one_place
    refine ⟨_, od_eqI, _, rfl, fun _ => ?_, fun _ => ?_⟩
    · one_place
    one_place
    refine ⟨_, od_eqI, _, rfl, fun _ => ?_, fun _ => ?_⟩
    · one_place
      refine ⟨n + 1, rfl, rfl, by omega, fun d ⟨l, e, h1, h2, h3⟩ => ?_⟩
      subst e
      refine ⟨_, od_cat (by have h1 := S_len l; have h2 : (Str.ofString "'").length = 1 := rfl; rw [sizeLine_eq]; omega), ?_⟩
      have e4 : Str.ofString "'" ++ S l = S (39 :: l) := S_cat [39] l
      rw [e4]
      exact ⟨⟨39 :: l, rfl, quote_tok (run_of h1 h2 h3) h1, by simp, by rw [List.length_cons]; omega⟩, _, by omega, rfl⟩
    first | refine dS_nextE ?_ | refine dS_next ?_ | skip
    refine dS_ret (dE_callP (p := p) (n := n + 1) (i := 0) rfl (dA_cons (dE.imp (Q := fun d G1 => G1 = [.pur p (n + 1), .imm (.int q)] ∧ ∃ l, d = .lst l ∧ 1 ≤ l.length ∧ l.length ≤ 1000 ∧ ∀ e ∈ l, ∃ c, e = .str (S [c]) ∧ isTok (.str (S [c])) = true) (dE_if ?_) fun d G1 ⟨e1, l, e2, h1, h2, h3⟩ => ?_)))
    · have key : ∀ (x : Str), (∀ c ∈ x.cps.toList, isTok (.str (S [c])) = true) → ∀ e ∈ signs x, ∃ c, e = .str (S [c]) ∧ isTok (.str (S [c])) = true := fun x hx e he => by
        obtain ⟨c, hc, rfl⟩ := List.mem_map.mp he
        exact ⟨c, rfl, hx c hc⟩
      one_place
      refine ⟨_, od_eqI, _, rfl, fun _ => ?_, fun _ => ?_⟩
      · refine dE_L (dL_listS (dA_cons (dE_str (dA_nil ⟨_, rfl, by rw [sizeLine_eq]; decide, rfl, _, rfl, by decide, by decide, key _ ?_⟩))))
        decide +kernel
      · refine dE_L (dL_listS (dA_cons (dE_str (dA_nil ⟨_, rfl, by rw [sizeLine_eq]; decide, rfl, _, rfl, by decide, by decide, key _ ?_⟩))))
        decide +kernel
    subst e1 e2
    one_place
    refine ⟨n + 1, rfl, ⟨l, rfl, h1, h2⟩, by omega, fun d hd => ?_⟩
    obtain ⟨c, e, ht⟩ := h3 d (hd l rfl)
    subst e
    exact ⟨⟨[c], rfl, ht, by simp, by simp⟩, _, by omega, rfl⟩
abbrev sp_wild : Sp := spP (fun ds => ds = []) (fun _ d => ∃ l : List Nat, d = .str (S l) ∧ l.length ≤ 30 ∧ ∀ c ∈ l, c < 1114112) 32
theorem ok_wild (T : Txt K mg) (c__law_draw : Con P w K mg base "_law_draw" p__law_draw 3 sp_draw) (c__law_one_of : Con P w K mg base "_law_one_of" p__law_one_of 4 sp_one_of) : Con P w K mg base "_law_wild" p__law_wild 5 sp_wild := by
  refine conP T.d__law_wild sc__law_wild (fun ds h => ?_) (fun f cdv A outer s H E hr => ⟨_, (pss_cons (ps_set (i := 1) sc__law_wild.nd rfl (.inl rfl) (pe_lst (pa_cons pe_str (pa_cons pe_str (pa_cons pe_str (pa_cons pe_str pa_nil))))))
      (pss_cons (ps_set (i := 1) sc__law_wild.nd rfl (.inl rfl) (pe_op op_addA (pv 1) (pe_lst (pa_cons pe_str pa_nil))))
      (pss_cons (ps_set (i := 2) sc__law_wild.nd rfl (.inr rfl) (pe_con c__law_one_of (hr.mono (by decide)) (by rfl) (pa_cons (pv 0) (pa_cons (pe_op op_addA (pv 1) (pe_lst (pa_cons (pe_ix ix_seq (pv 1) pe_int (fun _ _ => rfl)) (pa_cons pe_str pa_nil)))) pa_nil))))
      (pss_one (ps_ret (pe_join pe_str (pe_lc (own := [("_law_turn", 3)]) rfl sc__law_wild.nd (pi_range1 (by rfl) T.n_range (pa_cons (pe_con c__law_draw (hr.mono (by decide)) (by rfl) (pa_cons (pv 0) (pa_cons pe_int pa_nil))) pa_nil)) (blkOk_by (own := [("_law_turn", 3)]) (N := n__law_wild) (sc := defScope s__law_wild) (by decide +kernel)) (fun _ _ _ _ _ => (pg_name (i := 3) sc__law_wild.nd rfl (Or.inl rfl))) (fun _ _ _ _ _ => pts_nil) (fun _ _ _ _ _ => (pe_ix (show IxR _ (rIx K) from ix_seq) (pv 2) (pe_con c__law_draw (hr.mono (by decide)) (by rfl) (pa_cons (pv 0) (pa_cons (pe_callB (show CallR _ (.builtin "len") (rLenA K) from call_lenA) (by rfl) T.n_len (by decide +kernel) (pa_cons (pv 2) pa_nil)) pa_nil))) (fun _ _ => rfl)))))))))), fun ds p n h hn => ?_⟩)
  · subst h
    rfl
  · subst h
    refine dS_seq (dS_set (dE_lst (dA_cons (dE_str (dA_cons (dE_str (dA_cons (dE_str (dA_cons (dE_str (dA_nil ⟨by decide, ?_⟩)))))))))))
    refine dS_seq (dS_set (dE_L (dL_cat (dE_varE ⟨_, rfl, dE_lst (dA_cons (dE_str (dA_nil ⟨by decide, _, _, rfl, rfl, by decide, ?_⟩)))⟩))))
    refine dS_seq (dS_set (dE_callP (p := p) (n := n) (i := 0) rfl (dA_cons (dE_L (dL_cat (dE_varE ⟨_, rfl, dE_lst (dA_cons (dE_ix (dE_varE ⟨_, rfl, dE_int ⟨4, _, rfl, .inl ⟨_, rfl, rfl⟩, dA_cons (dE_str (dA_nil ⟨by decide, _, _, rfl, rfl, by decide, dA_nil ⟨n, rfl, ⟨_, rfl, by decide, by decide⟩, by omega, fun d hd => ?_⟩⟩))⟩⟩)))⟩))))))
    have hd := hd _ rfl
    obtain ⟨x, rfl, h1, h2, h3⟩ : ∃ x : Str, d = .str x ∧ 1 ≤ x.length ∧ x.length ≤ 1000 ∧ ∀ c ∈ x.cps.toList, c < 1114112 := by
      rcases List.mem_cons.mp hd with rfl | hd
      · exact ⟨_, rfl, by decide, by decide, by decide +kernel⟩
      rcases List.mem_cons.mp hd with rfl | hd
      · exact ⟨_, rfl, by decide, by decide, by decide +kernel⟩
      rcases List.mem_cons.mp hd with rfl | hd
      · exact ⟨_, rfl, by decide, by decide, by decide +kernel⟩
      rcases List.mem_cons.mp hd with rfl | hd
      · exact ⟨_, rfl, by decide, by decide, by decide +kernel⟩
      rcases List.mem_cons.mp hd with rfl | hd
      · exact ⟨_, rfl, by decide, by decide, by decide +kernel⟩
      rcases List.mem_cons.mp hd with rfl | hd
      · exact ⟨_, rfl, by decide, by decide, by decide +kernel⟩
      rcases List.mem_cons.mp hd with rfl | hd
      · exact ⟨_, rfl, by decide, by decide, by decide +kernel⟩
      · cases hd
    refine dS_ret (dE_join (dE_str ⟨_, rfl, dE_lc (dL_gen (p := p) (dI_rng1 (dA_cons (dE_callP (p := p) (n := n + 1) (i := 0) rfl (dA_cons (dE_int (dA_nil ⟨n + 1, rfl, ⟨31, rfl, by decide, by decide⟩, by omega, fun d ⟨m, q, e1, e2, q1, q2⟩ => ?_⟩)))))))⟩))
    cases e1
    subst e2
    refine dA_nil ⟨q, rfl, by omega, by omega, n + 2, 1, fun _ y => ∃ c, y = .str ⟨#[c]⟩ ∧ c < 1114112, rfl, by decide, ?_, fun j d hd => ?_, fun es hl he => ?_⟩
    · rw [nats_length]; omega
    · have hj := (List.getElem?_eq_some_iff.mp hd).1
      rw [nats_length] at hj
      one_place
      refine ⟨_, ca_len ⟨by rw [sizeLine_eq]; omega, rfl⟩, ?_⟩
      one_place
      refine ⟨n + 2 + 1 * j, rfl, ⟨_, rfl, by omega, by omega⟩, by omega, fun d ⟨m, r, e1, e2, r1, r2⟩ => ?_⟩
      cases e1
      subst e2
      obtain ⟨c, hc, hm⟩ := at_str (x := x) r1 (by rw [Array.length_toList]; exact r2)
      exact ⟨r, _, rfl, .inr (.inr ⟨_, c, rfl, by rw [sizeLine_eq]; omega, hc, rfl⟩), ⟨c, rfl, h3 c hm⟩, rfl⟩
    · obtain ⟨cs, e1, e2, e3⟩ := chars he
      rw [nats_length] at hl
      refine ⟨_, by rw [e1], ?_, ?_⟩
      · rw [chars_sum, List.length_map]
        have : (Str.ofString "").length = 0 := rfl
        rw [this]
        omega
      · rw [join_chars]
        refine ⟨⟨cs, rfl, by omega, e3⟩, _, ?_, rfl⟩
        rw [nats_length]
        omega
end
end K2
namespace K2
open PySem L2 Kr
local macro_rules | `(tactic| one_item) => `(tactic| first
  | (with_reducible refine dS_seq ?_) | (with_reducible refine dS_ret ?_) | (with_reducible refine dS_if ?_) | (with_reducible refine dS_next ?_) | (with_reducible refine dS_nextE ?_) | (with_reducible refine dS_brkE ?_) | (with_reducible refine dS_ctE ?_)
  | (with_reducible refine dT_B ?_) | (with_reducible refine dT_test ?_) | (with_reducible refine dT_and ?_) | (with_reducible refine dT_or ?_) | (with_reducible refine dT_not ?_)
  | (with_reducible refine dE_and ?_) | (with_reducible refine dE_or ?_) | (with_reducible refine dE_not ?_) | (with_reducible refine dE_if ?_)
  | (with_reducible refine dE_int ?_) | (with_reducible refine dE_str ?_) | (with_reducible refine dE_bl ?_) | (with_reducible refine dE_non ?_)
  | ((with_reducible refine dE_varE ?_); refine ⟨_, rfl, ?_⟩) | ((with_reducible refine dE_ownE ?_); refine ⟨_, rfl, ?_⟩)
  | (with_reducible refine dE_ix ?_) | (with_reducible refine dE_op2 ?_) | (with_reducible refine dE_chain ?_) | (with_reducible refine dE_un ?_) | (with_reducible refine dA_cons ?_) | (with_reducible refine dA_nil ?_) | (with_reducible refine dE_callF ?_) | (with_reducible refine dE_tup ?_)
  | (refine ⟨fun (_ : true = true) => ?_, fun z => Bool.noConfusion z⟩) | (refine ⟨fun z => Bool.noConfusion z, fun (_ : false = false) => ?_⟩)
  | (with_reducible refine dE_callP (i := 0) rfl ?_)
  | (with_reducible refine dE_isStr ?_) | (with_reducible refine dE_isInt ?_) | (with_reducible refine dE_isBool ?_) | (with_reducible refine dE_isList ?_) | (with_reducible refine dE_isTup ?_) | (with_reducible refine dE_isDict ?_) | (with_reducible refine dE_cb ?_) | (with_reducible refine dE_lc ?_) | (with_reducible refine dE_lstF ?_) | (with_reducible refine dI_list ?_) | (with_reducible refine dI_tup ?_) | (with_reducible refine dI_str ?_) | (with_reducible refine dI_rng1 ?_) | (with_reducible refine dI_rng2 ?_) | (with_reducible refine dS_set ?_) | (with_reducible refine dS_augI ?_) | (with_reducible refine dS_brk ?_) | (with_reducible refine dS_ct ?_) | (with_reducible refine dO_none ?_) | (with_reducible refine dO_some ?_))
local macro_rules | `(tactic| one_place) => `(tactic| (repeat' one_item))
section
variable {P : Program} {w : World} {K : PySem.W.Frag} {mg : Str → Option Value} {base : Heap}
/-! ### purses; the law's own kinds -/
theorem bits_big : CPowW (10 ^ 60) 8 := ⟨by decide, by decide +kernel⟩
theorem cut_ints (ns : List Int) (lo hi : Option Int) : ∃ ms : List Int, cutD (ns.map D.int) lo hi = ms.map D.int := by
  unfold cutD
  rw [← List.map_drop, ← List.map_take]
  exact ⟨_, rfl⟩
abbrev preP (K : PySem.W.Frag) : List D → Prop := fun ds => ∃ (d : D) (ns : List Int) (t : Int), ds = [d, .int t] ∧ ScrD K d ns ∧ 0 ≤ t ∧ t < 1000
abbrev sp_purse (K : PySem.W.Frag) : Sp := spL (preP K) fun _ es => newPur es
theorem ok_purse (T : Txt K mg) : Con P w K mg base "_law_purse" p__law_purse 2 (sp_purse K) := by
  refine conL T.d__law_purse sc__law_purse (fun ds h => ?_) (fun f cdv A outer s H E hr => ⟨_, (pss_cons (ps_set (i := 2) sc__law_purse.nd rfl (.inl rfl) (pe_callB (cr_sum rfl) (by rfl) T.n_sum (by decide +kernel) (pa_cons (pe_slice sl_A (pv 0) (po_some (pv 1)) (po_some (pe_op op_addA (pv 1) pe_int))) pa_nil)))
      (pss_one (ps_ret (pe_lst (pa_cons (pe_op op_modA (pe_callTy call_intA (by rfl) T.n_int (by decide +kernel) (pa_cons (pe_callB (call_maxA rfl) (by rfl) T.n_max (by decide +kernel) (pa_cons (pe_op op_subA (pv 2) (pe_op op_powA pe_int pe_int)) (pa_cons pe_int pa_nil))) pa_nil)) (pe_op op_powA (pe_op op_powA pe_int pe_int) pe_int)) (pa_cons (pe_op op_modA (pe_callTy call_intA (by rfl) T.n_int (by decide +kernel) (pa_cons (pv 2) pa_nil)) pe_int) (pa_cons pe_int (pa_cons (pv 1) pa_nil)))))))), fun ds h => ?_⟩)
  · obtain ⟨d, ns, t, rfl, _⟩ := h
    rfl
  · obtain ⟨d, ns, t, rfl, hd, h1, h2⟩ := h
    refine dSN_seq (dS_set (dE_cb (dA_cons (dE_L (dL_slScr (dE_varE ⟨_, rfl, dO_some (dE_varE ⟨_, rfl, t, rfl, dO_some (dE_op2 (dE_varE ⟨_, rfl, dE_int ⟨_, od_add, t + 1, rfl, ns, hd, ?_⟩⟩))⟩)⟩))))))
    obtain ⟨ms, hms⟩ := cut_ints ns (some t) (some (t + 1))
    rw [hms]
    refine dA_nil ⟨_, ca_sum, ?_⟩
    refine dSN_retL (dL_lst ?_)
    one_place
    refine ⟨_, od_pow ⟨by decide, by decide +kernel⟩, _, od_sub, ?_⟩
    one_place
    refine ⟨_, ca_max, ?_⟩
    one_place
    refine ⟨_, ca_int, ?_⟩
    one_place
    refine ⟨_, od_pow ⟨by decide, by decide +kernel⟩, ?_⟩
    one_place
    refine ⟨_, od_pow bits_big, _, od_mod (by decide +kernel), ?_⟩
    one_place
    refine ⟨_, ca_int, ?_⟩
    one_place
    refine ⟨_, od_mod (by decide +kernel), ?_⟩
    one_place
    refine ⟨(by decide : 4 ≤ 1000), _, _, t, rfl, Int.emod_nonneg _ (by decide +kernel), ?_, Int.emod_nonneg _ (by decide +kernel), ?_, h1, h2⟩
    · refine Int.lt_of_lt_of_le (Int.emod_lt_of_pos _ (by decide +kernel)) ?_
      decide +kernel
    · refine Int.lt_of_lt_of_le (Int.emod_lt_of_pos _ (by decide +kernel)) ?_
      decide +kernel
abbrev sp_purses (K : PySem.W.Frag) : Sp := spPs fun ds => ∃ (d : D) (ns : List Int) (m : Int), ds = [d, .int m] ∧ ScrD K d ns ∧ m ≤ 100
theorem ok_purses (T : Txt K mg) (c__law_purse : Con P w K mg base "_law_purse" p__law_purse 2 (sp_purse K)) : Con P w K mg base "_law_purses" p__law_purses 3 (sp_purses K) := by
  refine conPs T.d__law_purses sc__law_purses (fun ds h => ?_) (fun f cdv A outer s H E hr => ⟨_, (pss_one (ps_ret (pe_lc (own := [("_law_at", 2)]) rfl sc__law_purses.nd (pi_range1 (by rfl) T.n_range (pa_cons (pe_callB (call_maxA rfl) (by rfl) T.n_max (by decide +kernel) (pa_cons pe_int (pa_cons (pe_callB (call_minA rfl) (by rfl) T.n_min (by decide +kernel) (pa_cons (pv 1) (pa_cons (pe_callB call_lenA (by rfl) T.n_len (by decide +kernel) (pa_cons (pv 0) pa_nil)) pa_nil))) pa_nil))) pa_nil)) (blkOk_by (own := [("_law_at", 2)]) (N := n__law_purses) (sc := defScope s__law_purses) (by decide +kernel)) (fun _ _ _ _ _ => (pg_name (i := 2) sc__law_purses.nd rfl (Or.inl rfl))) (fun _ _ _ _ _ => pts_nil) (fun _ _ _ _ _ => (pe_con c__law_purse (hr.mono (by decide)) (by rfl) (pa_cons (pv 0) (pa_cons (pv 2) pa_nil))))))), fun ds h β A σ H Q hZ en q => ?_⟩)
  · obtain ⟨d, ns, t, rfl, _⟩ := h
    rfl
  · obtain ⟨d, ns, m, rfl, hd, h1⟩ := h
    refine raw_purses (E := E0) (ex := fun _ _ => False) en (fun _ _ _ _ _ z => z.elim) rfl (by decide) (show 2 < 3 by decide) rfl ?_ (fun j hj => ⟨d, ns, (j : Int), rfl, hd, by omega, by omega⟩) q hZ
    one_place
    refine ⟨_, ca_lenScr hd, ?_⟩
    one_place
    refine ⟨_, ca_min, ?_⟩
    one_place
    refine ⟨_, ca_max, ?_⟩
    one_place
    refine ⟨Int.toNat (if (if (ns.length : Int) < m then (ns.length : Int) else m) > 1 then (if (ns.length : Int) < m then (ns.length : Int) else m) else 1), ?_, ?_⟩
    · rw [Int.toNat_of_nonneg (by split <;> omega)]
    · split <;> (split <;> omega)
end
end K2
namespace K2
open PySem L2 Kr
local macro_rules | `(tactic| one_item) => `(tactic| first
  | (with_reducible refine dS_seq ?_) | (with_reducible refine dS_ret ?_) | (with_reducible refine dS_if ?_) | (with_reducible refine dS_next ?_) | (with_reducible refine dS_nextE ?_) | (with_reducible refine dS_brkE ?_) | (with_reducible refine dS_ctE ?_)
  | (with_reducible refine dT_B ?_) | (with_reducible refine dT_test ?_) | (with_reducible refine dT_and ?_) | (with_reducible refine dT_or ?_) | (with_reducible refine dT_not ?_)
  | (with_reducible refine dE_and ?_) | (with_reducible refine dE_or ?_) | (with_reducible refine dE_not ?_) | (with_reducible refine dE_if ?_)
  | (with_reducible refine dE_int ?_) | (with_reducible refine dE_str ?_) | (with_reducible refine dE_bl ?_) | (with_reducible refine dE_non ?_)
  | ((with_reducible refine dE_varE ?_); refine ⟨_, rfl, ?_⟩) | ((with_reducible refine dE_ownE ?_); refine ⟨_, rfl, ?_⟩)
  | (with_reducible refine dE_ix ?_) | (with_reducible refine dE_op2 ?_) | (with_reducible refine dE_chain ?_) | (with_reducible refine dE_un ?_) | (with_reducible refine dA_cons ?_) | (with_reducible refine dA_nil ?_) | (with_reducible refine dE_callF ?_) | (with_reducible refine dE_tup ?_)
  | (refine ⟨fun (_ : true = true) => ?_, fun z => Bool.noConfusion z⟩) | (refine ⟨fun z => Bool.noConfusion z, fun (_ : false = false) => ?_⟩)
  | (with_reducible refine dE_callP (i := 0) rfl ?_)
  | (with_reducible refine dE_isStr ?_) | (with_reducible refine dE_isInt ?_) | (with_reducible refine dE_isBool ?_) | (with_reducible refine dE_isList ?_) | (with_reducible refine dE_isTup ?_) | (with_reducible refine dE_isDict ?_) | (with_reducible refine dE_cb ?_) | (with_reducible refine dE_lc ?_) | (with_reducible refine dE_lstF ?_) | (with_reducible refine dI_list ?_) | (with_reducible refine dI_tup ?_) | (with_reducible refine dI_str ?_) | (with_reducible refine dI_rng1 ?_) | (with_reducible refine dI_rng2 ?_) | (with_reducible refine dS_set ?_) | (with_reducible refine dS_augI ?_) | (with_reducible refine dS_brk ?_) | (with_reducible refine dS_ct ?_) | (with_reducible refine dO_none ?_) | (with_reducible refine dO_some ?_))
local macro_rules | `(tactic| one_place) => `(tactic| (repeat' one_item))
section
variable {P : Program} {w : World} {K : PySem.W.Frag} {mg : Str → Option Value} {base : Heap}
/-! ### the law's own kinds, lines and scanner -/
def isL (c : Nat) : Bool := decide (97 ≤ c) && decide (c ≤ 122)
def isF (c : Nat) : Bool := decide (48 ≤ c) && decide (c ≤ 57)
theorem mem_let {c : Nat} : decide (c ∈ LET) = isL c := by
  have e : LET = (List.range 26).map (· + 97) := by decide +kernel
  rw [e]
  unfold isL
  rw [← Bool.decide_and]
  congr 1
  simp only [List.mem_map, List.mem_range, eq_iff_iff]
  exact ⟨fun ⟨a, h1, h2⟩ => by omega, fun h => ⟨c - 97, by omega, by omega⟩⟩
theorem mem_fig {c : Nat} : decide (c ∈ FIG) = isF c := by
  have e : FIG = (List.range 10).map (· + 48) := by decide +kernel
  rw [e]
  unfold isF
  rw [← Bool.decide_and]
  congr 1
  simp only [List.mem_map, List.mem_range, eq_iff_iff]
  exact ⟨fun ⟨a, h1, h2⟩ => by omega, fun h => ⟨c - 48, by omega, by omega⟩⟩
theorem le_str (a c : Nat) : (!decide ((⟨#[c]⟩ : Str).cps.toList < (⟨#[a]⟩ : Str).cps.toList)) = decide (a ≤ c) := by
  have : ((⟨#[c]⟩ : Str).cps.toList < (⟨#[a]⟩ : Str).cps.toList) ↔ c < a := by
    show ([c] < [a]) ↔ _
    constructor
    · intro h
      cases h with
      | rel h => exact h
      | cons h => cases h
    · exact fun h => .rel h
  by_cases h : c < a
  · rw [decide_eq_true (this.mpr h), decide_eq_false (show ¬ a ≤ c by omega)]; rfl
  · rw [decide_eq_false (fun z => h (this.mp z)), decide_eq_true (show a ≤ c by omega)]; rfl
theorem dE_rng {E : XK} {ex : Addr → D → Prop} {f : Bool} {G : List Sl} {te : TE} {Q : D → List Sl → Prop} {x y : Str} (a b : Nat) (hx : x = ⟨#[a]⟩) (hy : y = ⟨#[b]⟩) (h : dE E ex false te G fun d G1 => ∃ c, d = .str ⟨#[c]⟩ ∧ Q (.bl (decide (a ≤ c) && decide (c ≤ b))) G1) :
    dE E ex f (tChain rLeA rLeA (tC (.str x)) te (tC (.str y))) G Q := by
  subst hx hy
  refine dE_chain (dE_str (h.imp fun d G1 ⟨c, e, q⟩ => ?_))
  subst e
  refine ⟨decide (a ≤ c), by rw [← le_str a c]; exact od_leS, fun h1 => dE_str ⟨.bl (decide (c ≤ b)), by rw [← le_str c b]; exact od_leS, ?_⟩, fun h1 => ?_⟩
  · rw [h1, Bool.true_and] at q
    exact q
  · rw [h1, Bool.false_and] at q
    exact q
theorem eq_str (a c : Nat) : decide ((⟨#[c]⟩ : Str) = (⟨#[a]⟩ : Str)) = decide (c = a) := by simp
def lkind : List Nat → Str
  | [] => "sign"
  | c :: _ => if c = 39 then "quoted" else if isL c = true then "word" else if isF c = true then "number" else "sign"
theorem lkind_cons (c : Nat) (l : List Nat) : lkind (c :: l) = if c = 39 then ("quoted" : Str) else if isL c = true then ("word" : Str) else if isF c = true then ("number" : Str) else ("sign" : Str) := rfl
def gKindL : List D → D
  | [.str x] => .str (lkind x.cps.toList)
  | _ => .non
abbrev sp_kindL : Sp := spF (fun ds => ∃ c l, ds = [.str (S (c :: l))] ∧ (c :: l).length ≤ 1000000) gKindL
theorem ok_kindL (T : Txt K mg) : Con P w K mg base "_law_kind" p__law_kind 1 sp_kindL := by
  refine conF T.d__law_kind sc__law_kind (fun ds h => ?_) (fun f cdv A outer s H E hr => ⟨_, (pss_cons (ps_if (pt_cmpR (op_eqA hr.units) (pe_ix ix_seq (pv 0) pe_int (fun _ _ => rfl)) pe_str (nomark _)) (pss_one (ps_ret pe_str)) pss_nil)
      (pss_cons (ps_if (pt_chain op_leA op_leA pe_str (pe_ix ix_seq (pv 0) pe_int (fun _ _ => rfl)) pe_str) (pss_one (ps_ret pe_str)) pss_nil)
      (pss_one (ps_ret (pe_ifExp (pt_chain op_leA op_leA pe_str (pe_ix ix_seq (pv 0) pe_int (fun _ _ => rfl)) pe_str) pe_str pe_str))))), fun ds h => ?_⟩)
  · obtain ⟨c, l, rfl, _⟩ := h
    rfl
  · obtain ⟨c, l, rfl, hl⟩ := h
    have hsz : (S (c :: l)).length ≤ sizeLine := by rw [S_len, sizeLine_eq]; omega
    have it : ItD (.str (S (c :: l))) 0 (.str ⟨#[c]⟩) := .inr (.inr ⟨_, c, rfl, hsz, at0, rfl⟩)
    one_place
    refine ⟨0, _, rfl, it, ?_⟩
    one_place
    refine ⟨_, od_eqS, _, rfl, ?_⟩
    rw [show (decide ((⟨#[c]⟩ : Str) = Str.ofString "'")) = decide (c = 39) from eq_str 39 c]
    show (decide (c = 39) = true → _) ∧ _
    by_cases h1 : c = 39
    · rw [decide_eq_true h1]
      one_place
      show _ = D.str (lkind (c :: l))
      rw [lkind_cons, if_pos h1]
    rw [decide_eq_false h1]
    refine ⟨fun z => Bool.noConfusion z, fun _ => dS_next ?_⟩
    refine dS_seq (dS_if (dT_B (dE_rng 97 122 rfl rfl ?_)))
    one_place
    refine ⟨0, _, rfl, it, c, rfl, _, rfl, fun h2 => ?_, fun h2 => ?_⟩
    · one_place
      show _ = D.str (lkind (c :: l))
      rw [lkind_cons, if_neg h1, if_pos (show isL c = true from h2)]
    have h2' : ¬ isL c = true := by unfold isL; rw [h2]; exact Bool.noConfusion
    refine dS_next ?_
    refine dS_ret (dE_if (dT_test (dE_rng 48 57 rfl rfl ?_)))
    one_place
    refine ⟨0, _, rfl, it, c, rfl, _, rfl, fun h3 => ?_, fun h3 => ?_⟩
    · one_place
      show _ = D.str (lkind (c :: l))
      rw [lkind_cons, if_neg h1, if_neg h2', if_pos (show isF c = true from h3)]
    · one_place
      show _ = D.str (lkind (c :: l))
      have h3' : ¬ isF c = true := by unfold isF; rw [h3]; exact Bool.noConfusion
      rw [lkind_cons, if_neg h1, if_neg h2', if_neg h3']
theorem lkind_cases (l : List Nat) : lkind l = "quoted" ∨ lkind l = "word" ∨ lkind l = "number" ∨ lkind l = "sign" := by
  cases l with
  | nil => exact .inr (.inr (.inr rfl))
  | cons c l =>
    rw [lkind_cons]
    by_cases h1 : c = 39
    · rw [if_pos h1]; exact .inl rfl
    rw [if_neg h1]
    by_cases h2 : isL c = true
    · rw [if_pos h2]; exact .inr (.inl rfl)
    rw [if_neg h2]
    by_cases h3 : isF c = true
    · rw [if_pos h3]; exact .inr (.inr (.inl rfl))
    · rw [if_neg h3]; exact .inr (.inr (.inr rfl))
def joinK (a b : Str) : Bool := (decide (b = "word") && (decide (a = "word") || decide (a = "quoted"))) || (decide (a = "number") && decide (b = "number"))
def joinT (p t : List Nat) : Bool := joinK (lkind p) (lkind t)
def gJoined : List D → D
  | [.str x, .str y] => .bl (joinT x.cps.toList y.cps.toList)
  | _ => .non
abbrev sp_joined : Sp := spF (fun ds => ∃ c l e m, ds = [.str (S (c :: l)), .str (S (e :: m))] ∧ (c :: l).length ≤ 1000000 ∧ (e :: m).length ≤ 1000000) gJoined
abbrev joinDs : List D := [.tup [.str "word", .str "word"], .tup [.str "quoted", .str "word"], .tup [.str "number", .str "number"]]
theorem joined_eq {a b : Str} (ha : a = "quoted" ∨ a = "word" ∨ a = "number" ∨ a = "sign") (hb : b = "quoted" ∨ b = "word" ∨ b = "number" ∨ b = "sign") : (D.tup [.str a, .str b]).ok = true ∧ (joinDs.any fun z => D.eq z (.tup [.str a, .str b])) = joinK a b := by
  rcases ha with rfl | rfl | rfl | rfl <;> rcases hb with rfl | rfl | rfl | rfl <;> decide +kernel
theorem ok_joined (T : Txt K mg) (c__law_kind : Con P w K mg base "_law_kind" p__law_kind 1 sp_kindL) : Con P w K mg base "_law_joined" p__law_joined 2 sp_joined := by
  refine conF T.d__law_joined sc__law_joined (fun ds h => ?_) (fun f cdv A outer s H E hr => ⟨_, (pss_one (ps_ret (pe_cmpR (op_inA (units65 hr)) (pe_tup (pa_cons (pe_con c__law_kind (hr.mono (by decide)) (by rfl) (pa_cons (pv 0) pa_nil)) (pa_cons (pe_con c__law_kind (hr.mono (by decide)) (by rfl) (pa_cons (pv 1) pa_nil)) pa_nil))) (pe_lst (pa_cons (pe_tup (pa_cons pe_str (pa_cons pe_str pa_nil))) (pa_cons (pe_tup (pa_cons pe_str (pa_cons pe_str pa_nil))) (pa_cons (pe_tup (pa_cons pe_str (pa_cons pe_str pa_nil))) pa_nil)))) rfl))), fun ds h => ?_⟩)
  · obtain ⟨c, l, e, m, rfl, _⟩ := h
    rfl
  · obtain ⟨c, l, e, m, rfl, h1, h2⟩ := h
    one_place
    refine ⟨⟨c, l, rfl, h1⟩, ?_⟩
    one_place
    refine ⟨⟨e, m, rfl, h2⟩, ?_⟩
    one_place
    refine ⟨(by decide : 2 ≤ 1000), ?_⟩
    one_place
    refine ⟨(by decide : 2 ≤ 1000), ?_⟩
    one_place
    refine ⟨(by decide : 2 ≤ 1000), ?_⟩
    one_place
    refine ⟨(by decide : 2 ≤ 1000), ?_⟩
    one_place
    refine ⟨(by decide : 3 ≤ 1000), ?_⟩
    obtain ⟨q1, q2⟩ := joined_eq (lkind_cases (c :: l)) (lkind_cases (e :: m))
    refine ⟨_, od_inD q1 (by decide +kernel), ?_⟩
    show D.bl _ = D.bl _
    exact congrArg D.bl q2
/-! ### good tokens -/
abbrev SG : List Nat := (Str.ofString "+-*/<>=.,;:!?&|@^~[]{}()").cps.toList
def goodL : List Nat → Bool
  | [] => false
  | c :: l => if isL c = true ∨ c = 39 then decide (0 < ((c :: l).filter fun x => !decide (x = 39)).length) && decide (((c :: l).filter fun x => !decide (x = 39)).length < 9)
    else if isF c = true then decide (S (c :: l) = Str.ofString "0") || (!decide (c = 48) && decide ((c :: l).length < 9))
    else SG.any fun z => decide (S [z] = S (c :: l))
theorem goodL_cons (c : Nat) (l : List Nat) : goodL (c :: l) = if isL c = true ∨ c = 39 then decide (0 < ((c :: l).filter fun x => !decide (x = 39)).length) && decide (((c :: l).filter fun x => !decide (x = 39)).length < 9)
    else if isF c = true then decide (S (c :: l) = Str.ofString "0") || (!decide (c = 48) && decide ((c :: l).length < 9))
    else SG.any fun z => decide (S [z] = S (c :: l)) := rfl
def gGood : List D → D
  | [.str x] => .bl (goodL x.cps.toList)
  | _ => .non
abbrev sp_good : Sp := spF (fun ds => ∃ c l, ds = [.str (S (c :: l))] ∧ (c :: l).length ≤ 100000) gGood
def noQ : D → Bool
  | .str x => !decide (x = Str.ofString "'")
  | _ => false
theorem filter_signs (l : List Nat) : (((signs (S l)).filter noQ).map id).length = (l.filter fun x => !decide (x = 39)).length := by
  rw [List.length_map]
  unfold signs
  rw [List.filter_map, List.length_map]
  congr 1
  refine List.filter_congr fun c _ => ?_
  show (!decide ((⟨#[c]⟩ : Str) = ⟨#[39]⟩)) = _
  rw [eq_str]
theorem ok_good (T : Txt K mg) : Con P w K mg base "_law_good" p__law_good 1 sp_good := by
  refine conF T.d__law_good sc__law_good (fun ds h => ?_) (fun f cdv A outer s H E hr => ⟨_, (pss_cons (ps_if (PW.pt (pw_or (pt_chain op_leA op_leA pe_str (pe_ix ix_seq (pv 0) pe_int (fun _ _ => rfl)) pe_str) (pw_or1 (pt_cmpR (op_eqA hr.units) (pe_ix ix_seq (pv 0) pe_int (fun _ _ => rfl)) pe_str (nomark _))))) (pss_one (ps_ret (pe_chain op_ltA op_ltA pe_int (pe_callB call_lenA (by rfl) T.n_len (by decide +kernel) (pa_cons (pe_lc (own := [("_law_sign", 1)]) rfl sc__law_good.nd (pi_str (pv 0)) (blkOk_by (own := [("_law_sign", 1)]) (N := n__law_good) (sc := defScope s__law_good) (by decide +kernel)) (fun _ _ _ _ _ => (pg_name (i := 1) sc__law_good.nd rfl (Or.inl rfl))) (fun _ _ _ _ _ => (pts_one (pt_cmpR (show OpR _ (compareOp .NotEq) (rNeA K) from (op_neA hr.units)) (pv 1) pe_str (nomark _)))) (fun _ _ _ _ _ => (pv 1))) pa_nil)) pe_int))) pss_nil)
      (pss_cons (ps_if (pt_chain op_leA op_leA pe_str (pe_ix ix_seq (pv 0) pe_int (fun _ _ => rfl)) pe_str) (pss_one (ps_ret (pe_or (pe_cmpR (op_eqA hr.units) (pv 0) pe_str (nomark _)) (pe_one (pe_and (pe_cmpR (op_neA hr.units) (pe_ix ix_seq (pv 0) pe_int (fun _ _ => rfl)) pe_str (nomark _)) (pe_one (pe_cmpR op_ltA (pe_callB call_lenA (by rfl) T.n_len (by decide +kernel) (pa_cons (pv 0) pa_nil)) pe_int (nomark _)))))))) pss_nil)
      (pss_one (ps_ret (pe_cmpR (op_inA (units65 hr)) (pv 0) (pe_callTy (call_listA rfl) (by rfl) T.n_list (by decide +kernel) (pa_cons pe_str pa_nil)) rfl))))), fun ds h => ?_⟩)
  · obtain ⟨c, l, rfl, _⟩ := h
    rfl
  · obtain ⟨c, l, rfl, hl⟩ := h
    have hsz : (S (c :: l)).length ≤ sizeLine := by rw [S_len, sizeLine_eq]; omega
    have it : ItD (.str (S (c :: l))) 0 (.str ⟨#[c]⟩) := .inr (.inr ⟨_, c, rfl, hsz, at0, rfl⟩)
    refine dS_seq (dS_if (dT.imp (QB := fun b G' => b = (isL c || decide (c = 39)) ∧ G' = [.imm (.str (S (c :: l))), .any]) (dT_or (dT_B (dE_rng 97 122 rfl rfl ?_))) fun b G' ⟨e1, e2⟩ => ?_))
    · one_place
      refine ⟨0, _, rfl, it, c, rfl, _, rfl, fun h => ⟨?_, rfl⟩, fun h => ?_⟩
      · show true = (isL c || decide (c = 39))
        rw [show isL c = true from h, Bool.true_or]
      · one_place
        refine ⟨0, _, rfl, it, ?_⟩
        one_place
        refine ⟨_, od_eqS, _, rfl, ?_, rfl⟩
        show decide ((⟨#[c]⟩ : Str) = ⟨#[39]⟩) = (isL c || decide (c = 39))
        rw [show isL c = false from h, Bool.false_or, eq_str]
    subst e2
    refine ⟨fun hb => ?_, fun hb => ?_⟩
    · rw [e1, Bool.or_eq_true, decide_eq_true_eq] at hb
      refine dS_ret (dE_chain (dE_int (dE_cb (dA_cons (dE_L (dL_filter (dI_str (dE_varE ⟨_, rfl, S (c :: l), rfl, noQ, id, ?_, fun d hd => ?_, dA_nil ⟨_, ca_len rfl, ?_⟩⟩)))))))) 
      · rw [signs_length]
        show (c :: l).length ≤ _
        omega
      · obtain ⟨x, hx, rfl⟩ := List.mem_map.mp hd
        one_place
        refine ⟨_, od_neS, _, rfl, rfl, rfl, fun _ => ?_⟩
        one_place
      · rw [filter_signs]
        generalize hk : ((c :: l).filter fun x => !decide (x = 39)).length = k
        refine ⟨decide (0 < k), ?_, fun h1 => ?_, fun h1 => ?_⟩
        · have := od_lt (a := 0) (b := (k : Int))
          rwa [show decide ((0 : Int) < (k : Int)) = decide (0 < k) by simp] at this
        · one_place
          refine ⟨_, od_lt, ?_⟩
          show D.bl _ = D.bl (goodL (c :: l))
          rw [goodL_cons, if_pos hb, hk, h1, Bool.true_and]
          exact congrArg D.bl (decide_eq_decide.mpr (by omega))
        · show D.bl _ = D.bl (goodL (c :: l))
          rw [goodL_cons, if_pos hb, hk, h1, Bool.false_and]
    · rw [e1, Bool.or_eq_false_iff, decide_eq_false_iff_not] at hb
      have hb' : ¬ (isL c = true ∨ c = 39) := fun z => by
        rcases z with z | z
        · rw [hb.1] at z; cases z
        · exact hb.2 z
      refine dS_next ?_
      refine dS_seq (dS_if (dT_B (dE_rng 48 57 rfl rfl ?_)))
      one_place
      refine ⟨0, _, rfl, it, c, rfl, _, rfl, fun h => ?_, fun h => ?_⟩
      · one_place
        refine ⟨_, od_eqS, _, rfl, fun h2 => ?_, fun h2 => ?_⟩
        · show D.bl _ = D.bl (goodL (c :: l))
          rw [goodL_cons, if_neg hb', if_pos (show isF c = true from h), h2, Bool.true_or]
        one_place
        refine ⟨0, _, rfl, it, ?_⟩
        one_place
        refine ⟨_, od_neS, _, rfl, ?_⟩
        rw [show (decide ((⟨#[c]⟩ : Str) = Str.ofString "0")) = decide (c = 48) from eq_str 48 c]
        refine ⟨fun h3 => ?_, fun h3 => ?_⟩
        · one_place
          refine ⟨_, ca_len ⟨hsz, rfl⟩, ?_⟩
          one_place
          refine ⟨_, od_lt, ?_⟩
          show D.bl _ = D.bl (goodL (c :: l))
          rw [goodL_cons, if_neg hb', if_pos (show isF c = true from h), h2, Bool.false_or, h3, Bool.true_and, S_len]
          exact congrArg D.bl (decide_eq_decide.mpr (by omega))
        · show D.bl _ = D.bl (goodL (c :: l))
          rw [goodL_cons, if_neg hb', if_pos (show isF c = true from h), h2, Bool.false_or, h3, Bool.false_and]
      · refine dS_next ?_
        refine dS_ret (dE_op2 (dE_varE ⟨_, rfl, dE_L (dL_listS (dA_cons (dE_str (dA_nil ⟨_, rfl, by rw [sizeLine_eq]; decide, ?_⟩))))⟩))
        refine ⟨_, od_inL rfl ?_, ?_⟩
        · rw [List.all_eq_true]
          intro z hz
          obtain ⟨x, hx, rfl⟩ := List.mem_map.mp hz
          rfl
        · show D.bl _ = D.bl (goodL (c :: l))
          rw [goodL_cons, if_neg hb', if_neg (show ¬ isF c = true by unfold isF; rw [h]; exact Bool.noConfusion)]
          unfold signs
          rw [List.any_map]
          refine congrArg D.bl ?_
          refine congrArg (fun p => SG.any p) ?_
          funext z
          show ((⟨#[z]⟩ : Str) == S (c :: l)) = _
          rfl
end
end K2
namespace K2
open PySem L2 Kr
local macro_rules | `(tactic| one_item) => `(tactic| first
  | (with_reducible refine dS_seq ?_) | (with_reducible refine dS_ret ?_) | (with_reducible refine dS_if ?_) | (with_reducible refine dS_next ?_) | (with_reducible refine dS_nextE ?_) | (with_reducible refine dS_brkE ?_) | (with_reducible refine dS_ctE ?_)
  | (with_reducible refine dT_B ?_) | (with_reducible refine dT_test ?_) | (with_reducible refine dT_and ?_) | (with_reducible refine dT_or ?_) | (with_reducible refine dT_not ?_)
  | (with_reducible refine dE_and ?_) | (with_reducible refine dE_or ?_) | (with_reducible refine dE_not ?_) | (with_reducible refine dE_if ?_)
  | (with_reducible refine dE_int ?_) | (with_reducible refine dE_str ?_) | (with_reducible refine dE_bl ?_) | (with_reducible refine dE_non ?_)
  | ((with_reducible refine dE_varE ?_); refine ⟨_, rfl, ?_⟩) | ((with_reducible refine dE_ownE ?_); refine ⟨_, rfl, ?_⟩)
  | (with_reducible refine dE_ix ?_) | (with_reducible refine dE_op2 ?_) | (with_reducible refine dE_chain ?_) | (with_reducible refine dE_un ?_) | (with_reducible refine dA_cons ?_) | (with_reducible refine dA_nil ?_) | (with_reducible refine dE_callF ?_) | (with_reducible refine dE_tup ?_)
  | (refine ⟨fun (_ : true = true) => ?_, fun z => Bool.noConfusion z⟩) | (refine ⟨fun z => Bool.noConfusion z, fun (_ : false = false) => ?_⟩)
  | (with_reducible refine dE_callP (i := 0) rfl ?_)
  | (with_reducible refine dE_isStr ?_) | (with_reducible refine dE_isInt ?_) | (with_reducible refine dE_isBool ?_) | (with_reducible refine dE_isList ?_) | (with_reducible refine dE_isTup ?_) | (with_reducible refine dE_isDict ?_) | (with_reducible refine dE_cb ?_) | (with_reducible refine dE_lc ?_) | (with_reducible refine dE_lstF ?_) | (with_reducible refine dI_list ?_) | (with_reducible refine dI_tup ?_) | (with_reducible refine dI_str ?_) | (with_reducible refine dI_rng1 ?_) | (with_reducible refine dI_rng2 ?_) | (with_reducible refine dS_set ?_) | (with_reducible refine dS_augI ?_) | (with_reducible refine dS_brk ?_) | (with_reducible refine dS_ct ?_) | (with_reducible refine dO_none ?_) | (with_reducible refine dO_some ?_))
local macro_rules | `(tactic| one_place) => `(tactic| (repeat' one_item))
section
variable {P : Program} {w : World} {K : PySem.W.Frag} {mg : Str → Option Value} {base : Heap}
/-! ### the law's line and scanner -/
theorem rep_sp (n : Nat) (x : Str) (hx : x = S [32]) : (⟨((List.replicate n x.cps.toList).flatten).toArray⟩ : Str) = S (List.replicate n 32) := by
  subst hx
  have : (List.replicate n (S [32]).cps.toList).flatten = List.replicate n 32 := by
    induction n with
    | zero => rfl
    | succ n ih =>
      rw [List.replicate_succ, List.flatten_cons, ih, List.replicate_succ]
      rfl
  rw [this]
def need : Option (List Nat) → List Nat → Nat
  | none, _ => 0
  | some p, t => if joinT p t = true then 1 else 0
def lineL : Option (List Nat) → List (List Nat) → List Nat → List Nat
  | _, [], gs => List.replicate (gs.headD 0) 32
  | p, t :: l, gs => List.replicate (gs.headD 0 + need p t) 32 ++ (t ++ lineL (some t) l gs.tail)
def prevT (l : List (List Nat)) : Nat → Option (List Nat)
  | 0 => none
  | j + 1 => l[j]?
abbrev sp_lineL : Sp := spD (fun ds => ∃ (l : List (List Nat)) (gs : List Nat), ds = [txts l, .lst (gs.map fun g => .int (g : Nat))] ∧ l.length < gs.length ∧ l.length ≤ 100 ∧ (∀ t ∈ l, t ≠ [] ∧ t.length ≤ 9) ∧ ∀ g ∈ gs, g ≤ 10) (fun ds d => ∀ (l : List (List Nat)) (gs : List Nat), ds = [txts l, .lst (gs.map fun g => .int (g : Nat))] → d = .str (S (lineL none l gs)))
theorem ints_inj {gs hs : List Nat} (h : D.lst (gs.map fun g => .int (g : Nat)) = D.lst (hs.map fun g => .int (g : Nat))) : gs = hs := by
  have h := D.lst.inj h
  induction gs generalizing hs with
  | nil =>
    cases hs with
    | nil => rfl
    | cons b hs => cases h
  | cons a gs ih =>
    cases hs with
    | nil => cases h
    | cons b hs =>
      rw [List.map_cons, List.map_cons] at h
      have h1 := Int.ofNat.inj (D.int.inj (List.cons.inj h).1)
      rw [h1, ih (congrArg D.lst (List.cons.inj h).2) (List.cons.inj h).2]
theorem ok_lineL (T : Txt K mg) (c__law_joined : Con P w K mg base "_law_joined" p__law_joined 2 sp_joined) : Con P w K mg base "_law_line" p__law_line 3 sp_lineL := by
  refine conD T.d__law_line sc__law_line (fun ds h => ?_) (fun f cdv A outer s H E hr => ⟨_, (pss_cons (ps_set (i := 2) sc__law_line.nd rfl (.inl rfl) pe_str)
      (pss_cons (ps_for PassesOwn.never rfl (pi_range1 (by rfl) T.n_range (pa_cons (pe_callB call_lenA (by rfl) T.n_len (by decide +kernel) (pa_cons (pv 0) pa_nil)) pa_nil)) (pg_name (i := 3) sc__law_line.nd rfl (.inl rfl)) (pss_cons (ps_set (i := 4) sc__law_line.nd rfl (.inl rfl) (pe_and (pe_cmpR op_gtA (pv 3) pe_int (nomark _)) (pe_one (pe_con c__law_joined (hr.mono (by decide)) (by rfl) (pa_cons (pe_ix ix_seq (pv 0) (pe_op op_subA (pv 3) pe_int) (fun _ _ => rfl)) (pa_cons (pe_ix ix_seq (pv 0) (pv 3) (fun _ _ => rfl)) pa_nil))))))
      (pss_one (ps_set (i := 2) sc__law_line.nd rfl (.inl rfl) (pe_op op_addA (pe_op op_addA (pv 2) (pe_op op_mulA pe_str (pe_op op_addA (pe_ix ix_seq (pv 1) (pv 3) (fun _ _ => rfl)) (pe_callTy call_intA (by rfl) T.n_int (by decide +kernel) (pa_cons (pv 4) pa_nil))))) (pe_ix ix_seq (pv 0) (pv 3) (fun _ _ => rfl)))))))
      (pss_one (ps_ret (pe_op op_addA (pv 2) (pe_op op_mulA pe_str (pe_ix ix_seq (pv 1) (pe_callB call_lenA (by rfl) T.n_len (by decide +kernel) (pa_cons (pv 0) pa_nil)) (fun _ _ => rfl)))))))), fun ds h => ?_⟩)
  · obtain ⟨l, gs, rfl, _⟩ := h
    rfl
  · obtain ⟨l, gs, rfl, hlg, hll, ht, hg⟩ := h
    refine dS_seq (dS_set (dE_str ?_))
    refine dS_seq (dS_for (vs := [3]) (dI_rng1 (dA_cons (dE_cb (dA_cons (dE_varE ⟨_, rfl, dA_nil ⟨_, ca_len rfl, dA_nil ⟨_, rfl, by omega, by rw [List.length_map]; omega, ?_⟩⟩⟩))))))
    rw [Int.toNat_natCast, List.length_map]
    refine ⟨fun j G => ∃ (acc : List Nat) (s3 s4 : Sl), G = [.imm (txts l), .imm (.lst (gs.map fun g => .int (g : Nat))), .imm (.str (S acc)), s3, s4] ∧ lineL none l gs = acc ++ lineL (prevT l j) (l.drop j) (gs.drop j) ∧ acc.length ≤ 30 * j, ⟨[], .any, .any, rfl, rfl, Nat.zero_le _⟩, fun j d G' hd ⟨acc, s3, s4, hG, hq, hz⟩ => ?_, fun G' ⟨acc, s3, s4, hG, hq, hz⟩ => ?_⟩
    · subst hG
      have hj : j < l.length := by
        have := (List.getElem?_eq_some_iff.mp hd).1
        rwa [nats_length] at this
      have hd : d = .int (j : Nat) := by
        unfold nats at hd
        rw [List.getElem?_map, List.getElem?_range hj] at hd
        have := (Option.some.inj hd).symm
        rw [this]
        show D.int (0 + (j : Int)) = _
        rw [Int.zero_add]
      subst hd
      have htj : l[j]? = some l[j] := List.getElem?_eq_getElem hj
      have hgj : gs[j]? = some gs[j] := List.getElem?_eq_getElem (by omega)
      generalize htt : l[j] = t at *
      generalize hgg : gs[j] = g at *
      have hdl : l.drop j = t :: l.drop (j + 1) := by rw [← List.getElem_cons_drop hj, htt]
      have hdg : gs.drop j = g :: gs.drop (j + 1) := by rw [← List.getElem_cons_drop (show j < gs.length by omega), hgg]
      obtain ⟨htn, htl⟩ := ht t (List.mem_of_getElem? htj)
      have hg10 := hg g (List.mem_of_getElem? hgj)
      refine dG_name (by decide) ?_
      refine dS_seq (dS_set (dE.imp (Q := fun d G' => G' = [.imm (txts l), .imm (.lst (gs.map fun g => .int (g : Nat))), .imm (.str (S acc)), .imm (.int (j : Nat)), s4] ∧ ∃ b : Bool, d = .bl b ∧ need (prevT l j) t = if b = true then 1 else 0) ?_ fun d G' ⟨eG, b, ed, hb⟩ => ?_))
      · one_place
        refine ⟨_, od_gt, _, rfl, fun h1 => ?_, fun h1 => ?_⟩
        · have h1 := of_decide_eq_true h1
          obtain ⟨i, rfl⟩ : ∃ i, j = i + 1 := ⟨j - 1, by omega⟩
          have hi : l[i]? = some l[i] := List.getElem?_eq_getElem (by omega)
          generalize hpp : l[i] = p at *
          obtain ⟨hpn, hpl⟩ := ht p (List.mem_of_getElem? hi)
          have ip : ItD (txts l) (((i + 1 : Nat) : Int) - 1) (.str (S p)) := .inl ⟨_, rfl, by
            rw [show (((i + 1 : Nat) : Int) - 1) = (i : Int) by omega]
            exact atI_nat (by rw [List.getElem?_map, hi]; rfl)⟩
          have iq : ItD (txts l) ((i + 1 : Nat) : Int) (.str (S t)) := .inl ⟨_, rfl, atI_nat (by rw [List.getElem?_map, htj]; rfl)⟩
          one_place
          refine ⟨_, od_sub, ?_⟩
          refine ⟨_, _, rfl, ip, ?_⟩
          one_place
          refine ⟨_, _, rfl, iq, ?_⟩
          one_place
          cases p with
          | nil => exact absurd rfl hpn
          | cons c p =>
            cases t with
            | nil => exact absurd rfl htn
            | cons e t =>
              refine ⟨⟨c, p, e, t, rfl, by omega, by omega⟩, ?_⟩
              refine ⟨rfl, joinT (c :: p) (e :: t), rfl, ?_⟩
              show need (l[i]?) _ = _
              rw [hi]
              rfl
        · have h1 := of_decide_eq_false h1
          have : j = 0 := by omega
          subst this
          exact ⟨rfl, false, rfl, rfl⟩
      subst eG ed
      have ig : ItD (.lst (gs.map fun g => .int (g : Nat))) (j : Int) (.int (g : Nat)) := .inl ⟨_, rfl, atI_nat (by rw [List.getElem?_map, hgj]; rfl)⟩
      have iq : ItD (txts l) (j : Int) (.str (S t)) := .inl ⟨_, rfl, atI_nat (by rw [List.getElem?_map, htj]; rfl)⟩
      one_place
      refine ⟨_, _, rfl, ig, ?_⟩
      one_place
      refine ⟨_, ca_intB, _, od_add, ?_⟩
      have eb : (g : Int) + (if b = true then 1 else 0) = ((g + need (prevT l j) t : Nat) : Int) := by
        rw [hb]
        cases b <;> simp
      rw [eb]
      have hn1 : need (prevT l j) t ≤ 1 := by rw [hb]; cases b <;> simp
      refine ⟨_, od_rep (by omega) (by omega) (by decide), ?_⟩
      rw [Int.toNat_natCast, rep_sp _ (Str.ofString " ") rfl]
      refine ⟨_, od_cat (by rw [S_len, S_len, List.length_replicate, sizeLine_eq]; omega), ?_⟩
      rw [S_cat]
      one_place
      refine ⟨_, _, rfl, iq, _, od_cat (by rw [S_len, S_len, List.length_append, List.length_replicate, sizeLine_eq]; omega), ?_⟩
      rw [S_cat]
      refine ⟨_, .imm (.int (j : Nat)), .imm (.bl b), rfl, ?_, by rw [List.length_append, List.length_append, List.length_replicate]; omega⟩
      rw [hq, hdl, hdg]
      show acc ++ (List.replicate (g + need (prevT l j) t) 32 ++ (t ++ lineL (some t) (l.drop (j + 1)) (gs.drop (j + 1)))) = _
      have ep : prevT l (j + 1) = some t := htj
      rw [ep, List.append_assoc, List.append_assoc]
    · subst hG
      have hgl : gs[l.length]? = some gs[l.length] := List.getElem?_eq_getElem hlg
      generalize hgg : gs[l.length] = g at *
      have ig : ItD (.lst (gs.map fun g => .int (g : Nat))) (l.length : Int) (.int (g : Nat)) := .inl ⟨_, rfl, atI_nat (by rw [List.getElem?_map, hgl]; rfl)⟩
      have hg10 := hg g (List.mem_of_getElem? hgl)
      rw [nats_length] at hq hz
      one_place
      refine ⟨_, ca_len rfl, ?_⟩
      rw [List.length_map]
      refine ⟨_, _, rfl, ig, ?_⟩
      refine ⟨_, od_rep (by omega) (by omega) (by decide), ?_⟩
      rw [Int.toNat_natCast, rep_sp _ (Str.ofString " ") rfl]
      refine ⟨_, od_cat (by rw [S_len, S_len, List.length_replicate, sizeLine_eq]; omega), ?_⟩
      rw [S_cat]
      intro m hs e
      have e1 := (List.cons.inj e).1
      have e2 := (List.cons.inj (List.cons.inj e).2).1
      have e3 := txts_inj e1
      have e4 := ints_inj e2
      subst e3 e4
      rw [hq, List.drop_length]
      have e5 : gs.drop l.length = g :: gs.drop (l.length + 1) := by rw [← List.getElem_cons_drop hlg, hgg]
      rw [e5]
      rfl
/-! scanning -/
def grp (c : Nat) : Nat := if isL c = true then 97 else if isF c = true then 48 else c
def scStep (s : List (List Nat) × Nat) (c : Nat) : List (List Nat) × Nat :=
  (if (grp c = s.2 ∧ (grp c = 97 ∨ grp c = 48)) ∨ (grp c = 97 ∧ s.2 = 39) then s.1.dropLast ++ [s.1.getLast?.getD [] ++ [c]] else if grp c = 32 ∧ c = 32 then s.1 else s.1 ++ [[c]], grp c)
def scanL (l : List Nat) : List (List Nat) := (l.foldl scStep ([], 32)).1
def gScan : List D → D
  | [.str x] => if (scanL x.cps.toList).all goodL = true then txts (scanL x.cps.toList) else .non
  | _ => .non
abbrev sp_scan : Sp := spF (fun ds => ∃ l : List Nat, ds = [.str (S l)] ∧ l.length ≤ 10000 ∧ ∀ c ∈ l, c < 1114112) gScan
/-- what stands of the pieces behind each sign -/
def ScOk (n : Nat) (s : List (List Nat) × Nat) : Prop := s.1.length ≤ n ∧ (∀ t ∈ s.1, t ≠ [] ∧ t.length ≤ n ∧ ∀ c ∈ t, c < 1114112) ∧ ((s.2 = 97 ∨ s.2 = 48 ∨ s.2 = 39) → s.1 ≠ [])
theorem scOk_step {n : Nat} {s : List (List Nat) × Nat} {c : Nat} (h : ScOk n s) (hc : c < 1114112) : ScOk (n + 1) (scStep s c) := by
  obtain ⟨h1, h2, h3⟩ := h
  unfold scStep
  split
  · rename_i hif
    have hne : s.1 ≠ [] := h3 (by rcases hif with ⟨a, b | b⟩ | ⟨a, b⟩ <;> omega)
    obtain ⟨t, ht⟩ : ∃ t, s.1.getLast? = some t := by
      cases hh : s.1.getLast? with
      | none => exact absurd (List.getLast?_eq_none_iff.mp hh) hne
      | some t => exact ⟨t, rfl⟩
    have hm : t ∈ s.1 := List.mem_of_getLast? ht
    refine ⟨?_, fun x hx => ?_, fun _ => by simp⟩
    · show (s.1.dropLast ++ [_]).length ≤ _
      rw [List.length_append, List.length_dropLast, List.length_singleton]
      have := List.length_pos_iff.mpr hne
      omega
    · rcases List.mem_append.mp hx with z | z
      · obtain ⟨a, b, d⟩ := h2 x (List.dropLast_subset _ z)
        exact ⟨a, by omega, d⟩
      · rw [List.mem_singleton.mp z, ht]
        obtain ⟨a, b, d⟩ := h2 t hm
        refine ⟨by simp, by show (t ++ [c]).length ≤ _; rw [List.length_append, List.length_singleton]; omega, fun y hy => ?_⟩
        rcases List.mem_append.mp hy with q | q
        · exact d y q
        · rw [List.mem_singleton.mp q]; exact hc
  · split
    · rename_i hif h32
      refine ⟨by show s.1.length ≤ _; omega, fun x hx => ?_, fun z => ?_⟩
      · obtain ⟨a, b, d⟩ := h2 x hx
        exact ⟨a, by omega, d⟩
      · have z : grp c = 97 ∨ grp c = 48 ∨ grp c = 39 := z
        omega
    · refine ⟨?_, fun x hx => ?_, fun _ => by simp⟩
      · show (s.1 ++ [[c]]).length ≤ _
        rw [List.length_append, List.length_singleton]
        omega
      · rcases List.mem_append.mp hx with z | z
        · obtain ⟨a, b, d⟩ := h2 x z
          exact ⟨a, by omega, d⟩
        · rw [List.mem_singleton.mp z]
          refine ⟨by simp, by simp, fun y hy => ?_⟩
          rw [List.mem_singleton.mp hy]
          exact hc
theorem grp_cases (c : Nat) : (isL c = true ∧ grp c = 97) ∨ (isL c = false ∧ isF c = true ∧ grp c = 48) ∨ (isL c = false ∧ isF c = false ∧ grp c = c) := by
  unfold grp
  cases h1 : isL c with
  | true => exact .inl ⟨rfl, rfl⟩
  | false =>
    cases h2 : isF c with
    | true => exact .inr (.inl ⟨rfl, rfl, rfl⟩)
    | false => exact .inr (.inr ⟨rfl, rfl, rfl⟩)
theorem scOk_all {l : List Nat} (hl : ∀ c ∈ l, c < 1114112) : ∀ j, j ≤ l.length → ScOk j ((l.take j).foldl scStep ([], 32))
  | 0, _ => ⟨Nat.le_refl _, fun t z => (by cases z), fun z => by rcases z with z | z | z <;> cases z⟩
  | j + 1, h => by
    have hj : l[j]? = some l[j] := List.getElem?_eq_getElem (by omega)
    rw [List.take_add_one, hj, List.foldl_append]
    exact scOk_step (scOk_all hl j (by omega)) (hl _ (List.getElem_mem _))
theorem strs_ok {l : List D} (h : ∀ d ∈ l, ∃ t : List Nat, d = .str (S t) ∧ ∀ c ∈ t, c < 1114112) : (D.lst l).ok = true := by
  have key : ∀ l : List D, (∀ d ∈ l, ∃ t : List Nat, d = .str (S t) ∧ ∀ c ∈ t, c < 1114112) → D.plains l = true ∧ D.deeps l = 0 := fun l => by
    induction l with
    | nil => exact fun _ => ⟨rfl, rfl⟩
    | cons d l ih =>
      intro h
      obtain ⟨t, rfl, ht⟩ := h d List.mem_cons_self
      obtain ⟨h1, h2⟩ := ih fun x hx => h x (List.mem_cons_of_mem _ hx)
      refine ⟨?_, ?_⟩
      · show (PyData.strOk (S t) && D.plains l) = true
        rw [h1, Bool.and_true]
        show t.toArray.all (· < 0x110000) = true
        rw [Array.all_eq_true_iff_forall_mem]
        intro c hc
        exact decide_eq_true (ht c (by simpa using hc))
      · show max 0 (D.deeps l) = 0
        rw [h2]
        rfl
  obtain ⟨h1, h2⟩ := key l h
  show (D.plains l && decide (D.deeps l + 1 ≤ 60)) = true
  rw [h1, h2]
  rfl
theorem eqv_nil (l : List D) : D.eq (.lst l) (.lst []) = decide (l = []) := by
  cases l with
  | nil => decide +kernel
  | cons x l =>
    rw [decide_eq_false (by simp)]
    show PyData.eqv (.list (x.toP :: D.toPs l)) (.list []) = false
    first | rfl | simp [PyData.eqv] | (unfold PyData.eqv; rfl)
theorem ok_scan (T : Txt K mg) (c__law_good : Con P w K mg base "_law_good" p__law_good 1 sp_good) : Con P w K mg base "_law_scanned" p__law_scanned 2 sp_scan := by
  refine conF T.d__law_scanned sc__law_scanned (fun ds h => ?_) (fun f cdv A outer s H E hr => ⟨_, (pss_cons (ps_par (i := 1) (j := 2) rfl sc__law_scanned.nd rfl rfl (by decide) rfl rfl (pa_cons (pe_lst pa_nil) (pa_cons pe_str pa_nil)) rfl)
      (pss_cons (ps_for PassesOwn.never rfl (pi_str (pv 0)) (pg_name (i := 3) sc__law_scanned.nd rfl (.inl rfl)) (pss_cons (ps_set (i := 4) sc__law_scanned.nd rfl (.inl rfl) (pe_ifExp (pt_chain op_leA op_leA pe_str (pv 3) pe_str) pe_str (pe_ifExp (pt_chain op_leA op_leA pe_str (pv 3) pe_str) pe_str (pv 3))))
      (pss_cons (ps_if (PW.pt (pw_or (PW.pt (pw_and (pt_cmpR (op_eqA hr.units) (pv 4) (pv 2) (nomark _)) (pw_and1 (pt_cmpR (op_inA (units65 hr)) (pv 4) (pe_tup (pa_cons pe_str (pa_cons pe_str pa_nil))) rfl)))) (pw_or1 (PW.pt (pw_and (pt_cmpR (op_eqA hr.units) (pv 4) pe_str (nomark _)) (pw_and1 (pt_cmpR (op_eqA hr.units) (pv 2) pe_str (nomark _)))))))) (pss_one (ps_asg (pe_op op_addA (pe_ix ix_seq (pv 1) (pe_un un_neg pe_int) (fun _ _ => rfl)) (pv 3)) (pg_sub (pv 1) (pe_un un_neg pe_int) set_list))) (pss_one (ps_if (pt_cmpR (op_neA hr.units) (pv 3) pe_str (nomark _)) (pss_one (ps_expr (pe_bm PySem.F.plainAttrs_list PySem.F.slot_list_append PySem.F.type_list_append mt_append (pv 1) (pa_cons (pv 3) pa_nil)))) pss_nil)))
      (pss_one (ps_set (i := 2) sc__law_scanned.nd rfl (.inl rfl) (pv 4))))))
      (pss_one (ps_ret (pe_ifExp (pt_cmpR (op_eqA hr.units) (pe_lc (own := [("_law_token_here", 5)]) rfl sc__law_scanned.nd (pi_list (pv 1)) (blkOk_by (own := [("_law_token_here", 5)]) (N := n__law_scanned) (sc := defScope s__law_scanned) (by decide +kernel)) (fun _ _ _ _ _ => (pg_name (i := 5) sc__law_scanned.nd rfl (Or.inl rfl))) (fun _ _ _ _ _ => (pts_one (pt_not (pt_val (pe_con c__law_good (hr.mono (by decide)) (by rfl) (pa_cons (pv 5) pa_nil)))))) (fun _ _ _ _ _ => (pv 5))) (pe_lst pa_nil) (nomark _)) (pv 1) pe_non))))), fun ds h => ?_⟩)
  · obtain ⟨l, rfl, _⟩ := h
    rfl
  · obtain ⟨l, rfl, hl, hc⟩ := h
    refine dS_seq (dS_parL (i := 1) (j := 2) (by decide) (dA_nil ⟨by decide, dE_str ?_⟩))
    refine dS_seq (dS_for (vs := [3]) (dI_str (dE_varE ⟨_, rfl, _, rfl, ?_⟩)))
    refine ⟨fun j G => ∃ (s3 s4 : Sl) (x : Str), x = ⟨#[((l.take j).foldl scStep ([], 32)).2]⟩ ∧ G = [.imm (.str (S l)), .own (((l.take j).foldl scStep ([], 32)).1.map fun t => D.str (S t)), .imm (.str x), s3, s4, .any], ⟨.any, .any, _, rfl, rfl⟩, fun j d G' hd ⟨s3, s4, x, hx, hG⟩ => ?_, fun G' ⟨s3, s4, x, hx, hG⟩ => ?_⟩
    · subst hG hx
      obtain ⟨c, hcj, rfl⟩ := signs_get hd
      have hcj : l[j]? = some c := hcj
      have hj := (List.getElem?_eq_some_iff.mp hcj).1
      have ok := scOk_all hc j (by omega)
      have etk : (l.take (j + 1)).foldl scStep ([], 32) = scStep ((l.take j).foldl scStep ([], 32)) c := by
        rw [List.take_add_one, hcj, List.foldl_append]
        rfl
      generalize (l.take j).foldl scStep ([], 32) = st at *
      obtain ⟨fd, run⟩ := st
      refine dG_name (by decide) ?_
      refine dS_seq (dS_set (dE.imp (Q := fun d G' => G' = [.imm (.str (S l)), .own (fd.map fun t => D.str (S t)), .imm (.str ⟨#[run]⟩), .imm (.str ⟨#[c]⟩), s4, .any] ∧ d = .str ⟨#[grp c]⟩) (dE_if (dT_test (dE_rng 97 122 rfl rfl (dE_varE ⟨_, rfl, c, rfl, ?_⟩)))) fun d G' ⟨eG, ed⟩ => ?_))
      · refine ⟨_, rfl, fun h1 => ?_, fun h1 => dE_if (dT_test (dE_rng 48 57 rfl rfl (dE_varE ⟨_, rfl, c, rfl, _, rfl, fun h2 => ?_, fun h2 => ?_⟩)))⟩
        · have : grp c = 97 := by unfold grp; rw [show isL c = true from h1]; rfl
          rw [this]
          exact dE_str ⟨rfl, rfl⟩
        · have : grp c = 48 := by unfold grp; rw [show isL c = false from h1, show isF c = true from h2]; rfl
          rw [this]
          exact dE_str ⟨rfl, rfl⟩
        · have : grp c = c := by unfold grp; rw [show isL c = false from h1, show isF c = false from h2]; rfl
          rw [this]
          exact dE_varE ⟨_, rfl, rfl, rfl⟩
      subst eG ed
      refine dS_seq (dS_if (dT.imp (QB := fun b G' => G' = [.imm (.str (S l)), .own (fd.map fun t => D.str (S t)), .imm (.str ⟨#[run]⟩), .imm (.str ⟨#[c]⟩), .imm (.str ⟨#[grp c]⟩), .any] ∧ b = decide ((grp c = run ∧ (grp c = 97 ∨ grp c = 48)) ∨ (grp c = 97 ∧ run = 39))) ?_ fun b G' ⟨eG, eb⟩ => ?_))
      · have k1 : decide ((⟨#[grp c]⟩ : Str) = ⟨#[run]⟩) = decide (grp c = run) := eq_str run (grp c)
        have k2 : decide ((⟨#[grp c]⟩ : Str) = Str.ofString "a") = decide (grp c = 97) := eq_str 97 (grp c)
        have k3 : decide ((⟨#[run]⟩ : Str) = Str.ofString "'") = decide (run = 39) := eq_str 39 run
        have k4 : (([D.str (Str.ofString "a"), D.str (Str.ofString "0")]).any fun z => D.feq z (.str ⟨#[grp c]⟩)) = decide (grp c = 97 ∨ grp c = 48) := by
          show ((Str.ofString "a" == (⟨#[grp c]⟩ : Str)) || ((Str.ofString "0" == (⟨#[grp c]⟩ : Str)) || false)) = _
          have e1 : (Str.ofString "a" == (⟨#[grp c]⟩ : Str)) = decide (grp c = 97) := by
            rw [← eq_str 97 (grp c)]
            show decide (Str.ofString "a" = (⟨#[grp c]⟩ : Str)) = _
            exact decide_eq_decide.mpr ⟨fun z => z.symm, fun z => z.symm⟩
          have e2 : (Str.ofString "0" == (⟨#[grp c]⟩ : Str)) = decide (grp c = 48) := by
            rw [← eq_str 48 (grp c)]
            show decide (Str.ofString "0" = (⟨#[grp c]⟩ : Str)) = _
            exact decide_eq_decide.mpr ⟨fun z => z.symm, fun z => z.symm⟩
          rw [e1, e2, Bool.or_false, ← Bool.decide_or]
        refine dT_or (dT.imp (QB := fun b G' => G' = [.imm (.str (S l)), .own (fd.map fun t => D.str (S t)), .imm (.str ⟨#[run]⟩), .imm (.str ⟨#[c]⟩), .imm (.str ⟨#[grp c]⟩), .any] ∧ b = decide (grp c = run ∧ (grp c = 97 ∨ grp c = 48))) ?_ fun b G' ⟨eG, eb⟩ => ?_)
        · refine dT_and (dT_test (dE_op2 (dE_varE ⟨_, rfl, dE_varE ⟨_, rfl, ?_⟩⟩)))
          refine ⟨_, od_eqS, _, rfl, fun h1 => ?_, fun h1 => ?_⟩
          · rw [k1, decide_eq_true_eq] at h1
            refine dT_test (dE_op2 (dE_varE ⟨_, rfl, dE_tup (dA_cons (dE_str (dA_cons (dE_str (dA_nil ⟨by decide, _, od_in rfl rfl, _, rfl, rfl, ?_⟩)))))⟩))
            rw [k4]
            exact decide_eq_decide.mpr ⟨fun z => ⟨h1, z⟩, fun z => z.2⟩
          · rw [k1, decide_eq_false_iff_not] at h1
            exact ⟨rfl, (decide_eq_false fun z => h1 z.1).symm⟩
        subst eG
        refine ⟨fun hb => ?_, fun hb => ?_⟩
        · rw [hb] at eb
          exact ⟨rfl, (decide_eq_true (.inl (of_decide_eq_true eb.symm))).symm⟩
        · rw [hb] at eb
          have hn := of_decide_eq_false eb.symm
          refine dT_and (dT_test (dE_op2 (dE_varE ⟨_, rfl, dE_str ⟨_, od_eqS, _, rfl, fun h1 => ?_, fun h1 => ?_⟩⟩)))
          · rw [k2, decide_eq_true_eq] at h1
            refine dT_test (dE_op2 (dE_varE ⟨_, rfl, dE_str ⟨_, od_eqS, _, rfl, rfl, ?_⟩⟩))
            rw [k3]
            exact decide_eq_decide.mpr ⟨fun z => .inr ⟨h1, z⟩, fun z => z.elim (fun y => absurd y hn) fun y => y.2⟩
          · rw [k2, decide_eq_false_iff_not] at h1
            exact ⟨rfl, (decide_eq_false fun z => z.elim hn fun y => h1 y.1).symm⟩
      subst eG
      have done : ∀ (fd' : List (List Nat)), scStep (fd, run) c = (fd', grp c) → ∃ (s3 s4 : Sl) (x : Str), x = ⟨#[((l.take (j + 1)).foldl scStep ([], 32)).2]⟩ ∧ [Sl.imm (.str (S l)), .own (fd'.map fun t => D.str (S t)), .imm (.str ⟨#[grp c]⟩), .imm (.str ⟨#[c]⟩), .imm (.str ⟨#[grp c]⟩), .any] = [.imm (.str (S l)), .own (((l.take (j + 1)).foldl scStep ([], 32)).1.map fun t => D.str (S t)), .imm (.str x), s3, s4, .any] := fun fd' e => by
        rw [etk, e]
        exact ⟨_, _, _, rfl, rfl⟩
      refine ⟨fun hb => ?_, fun hb => ?_⟩
      · rw [hb] at eb
        have hif := of_decide_eq_true eb.symm
        have hne : fd ≠ [] := ok.2.2 (by rcases hif with ⟨a, b | b⟩ | ⟨a, b⟩ <;> (show run = 97 ∨ run = 48 ∨ run = 39; omega))
        obtain ⟨fd0, t, rfl⟩ : ∃ fd0 t, fd = fd0 ++ [t] := ⟨fd.dropLast, fd.getLast hne, (List.dropLast_concat_getLast hne).symm⟩
        obtain ⟨_, htl, _⟩ := ok.2.1 t (by simp)
        have hlen : ((fd0 ++ [t]).map fun t => D.str (S t)).length = fd0.length + 1 := by simp
        have hix : ixN ((fd0 ++ [t]).map fun t => D.str (S t)).length (-1) = some fd0.length := by
          rw [hlen]
          unfold ixN
          rw [if_neg (by decide), if_pos (by omega)]
          congr 1
          omega
        have iz : ItD (.lst ((fd0 ++ [t]).map fun t => D.str (S t))) (-1) (.str (S t)) := .inl ⟨_, rfl, by
          unfold atI
          rw [hix]
          show ((fd0 ++ [t]).map fun t => D.str (S t))[fd0.length]? = _
          rw [List.map_append, List.getElem?_append_right (by simp)]
          simp⟩
        refine dS_setAt ⟨_, rfl⟩ (dE_op2 (dE_ix (dE_ownE ⟨_, rfl, dE_un (dE_int ⟨_, od_neg, -1, _, rfl, iz, dE_varE ⟨_, rfl, ?_⟩⟩)⟩)))
        refine ⟨_, od_cat (by rw [S_len, sizeLine_eq]; have : (⟨#[c]⟩ : Str).length = 1 := rfl; omega), ⟨_, rfl⟩, dE_un (dE_int ⟨_, od_neg, -1, fd0.length, _, rfl, rfl, hix, ?_⟩)⟩
        refine dS_set (dE_varE ⟨_, rfl, ?_⟩)
        have e1 : ((fd0 ++ [t]).map fun t => D.str (S t)).set fd0.length (.str (S t ++ ⟨#[c]⟩)) = (fd0 ++ [t ++ [c]]).map fun t => D.str (S t) := by
          rw [List.map_append, List.set_append_right _ _ (by simp), List.length_map, Nat.sub_self, List.map_append]
          show _ ++ [D.str (S t ++ S [c])] = _
          rw [S_cat]
          rfl
        have := done (fd0 ++ [t ++ [c]]) (by
          unfold scStep
          rw [if_pos hif]
          simp)
        rw [← e1] at this
        exact this
      · rw [hb] at eb
        have hif := of_decide_eq_false eb.symm
        refine dS_if (dT_test (dE_op2 (dE_varE ⟨_, rfl, dE_str ⟨_, od_neS, _, rfl, fun h => ?_, fun h => ?_⟩⟩)))
        · rw [show decide ((⟨#[c]⟩ : Str) = Str.ofString " ") = decide (c = 32) from eq_str 32 c] at h
          have h32 : c ≠ 32 := by simpa using h
          refine dS_append ?_ ⟨_, rfl⟩
          refine dA_cons (dE_varE ⟨_, rfl, dA_nil ⟨_, _, rfl, rfl, ?_, ?_⟩⟩)
          · rw [List.length_map]
            have := ok.1
            have : fd.length ≤ j := ok.1
            omega
          · refine dS_set (dE_varE ⟨_, rfl, ?_⟩)
            have := done (fd ++ [[c]]) (by
              unfold scStep
              rw [if_neg hif, if_neg (fun z => h32 z.2)])
            rw [List.map_append] at this
            exact this
        · rw [show decide ((⟨#[c]⟩ : Str) = Str.ofString " ") = decide (c = 32) from eq_str 32 c] at h
          have h32 : c = 32 := by simpa using h
          refine dS_next ?_
          refine dS_set (dE_varE ⟨_, rfl, ?_⟩)
          exact done fd (by
            unfold scStep
            rw [if_neg hif, if_pos ⟨by rw [h32]; decide, h32⟩])
    · subst hG hx
      rw [signs_length]
      have el : l.take (S l).cps.size = l := List.take_of_length_le (by simp)
      rw [el]
      have ok := scOk_all hc l.length (Nat.le_refl _)
      rw [List.take_length] at ok
      show dS _ _ _ [.imm (.str (S l)), .own ((scanL l).map fun t => D.str (S t)), .imm (.str ⟨#[(l.foldl scStep ([], 32)).2]⟩), s3, s4, .any] _
      have ok1 : (scanL l).length ≤ l.length := ok.1
      have ok2 : ∀ t ∈ scanL l, t ≠ [] ∧ t.length ≤ l.length ∧ ∀ c ∈ t, c < 1114112 := ok.2.1
      generalize hfd : scanL l = fd at *
      refine dS_ret (dE_if (dT_borrow 1 rfl (dT_test (dE_op2 (dE_L (dL_filter (dI_list (dE_varE ⟨_, rfl, _, rfl, (fun d => match d with | .str x => !goodL x.cps.toList | _ => false), id, ?_, fun d hd => ?_, ?_⟩))))))))
      · rw [List.length_map]; omega
      · obtain ⟨t, ht, rfl⟩ := List.mem_map.mp hd
        obtain ⟨h1, h2, _⟩ := ok2 t ht
        cases t with
        | nil => exact absurd rfl h1
        | cons c t =>
          one_place
          refine ⟨⟨c, t, rfl, by omega⟩, _, rfl, rfl, rfl, fun _ => ?_⟩
          one_place
      · refine dE_lst (dA_nil ⟨by decide, _, od_eq ?_ (by decide +kernel), _, rfl, rfl, ?_⟩)
        · refine strs_ok fun d hd => ?_
          rw [List.map_id] at hd
          obtain ⟨t, ht, rfl⟩ := List.mem_map.mp (List.mem_filter.mp hd).1
          exact ⟨t, rfl, (ok2 t ht).2.2⟩
        · rw [eqv_nil, List.map_id]
          have key : (List.filter (fun d => match d with | D.str x => !goodL x.cps.toList | _ => false) (fd.map fun t => D.str (S t)) = []) ↔ fd.all goodL = true := by
            rw [List.filter_eq_nil_iff, List.all_eq_true]
            constructor
            · intro h t ht
              have := h _ (List.mem_map.mpr ⟨t, ht, rfl⟩)
              simpa using this
            · intro h d hd
              obtain ⟨t, ht, rfl⟩ := List.mem_map.mp hd
              have := h t ht
              simpa using this
          refine ⟨fun h => ?_, fun h => ?_⟩
          · refine dE_ownE ⟨_, rfl, ?_⟩
            show _ = gScan [D.str (S l)]
            have h1 := key.mp (of_decide_eq_true h)
            show _ = (if (scanL l).all goodL = true then txts (scanL l) else D.non)
            rw [hfd, if_pos h1]
            rfl
          · refine dE_non ?_
            have h1 := of_decide_eq_false h
            show _ = (if (scanL l).all goodL = true then txts (scanL l) else D.non)
            rw [hfd, if_neg (fun z => h1 (key.mpr z))]
end
end K2
namespace K2
open PySem L2 Kr
local macro_rules | `(tactic| one_item) => `(tactic| first
  | (with_reducible refine dS_seq ?_) | (with_reducible refine dS_ret ?_) | (with_reducible refine dS_if ?_) | (with_reducible refine dS_next ?_) | (with_reducible refine dS_nextE ?_) | (with_reducible refine dS_brkE ?_) | (with_reducible refine dS_ctE ?_)
  | (with_reducible refine dT_B ?_) | (with_reducible refine dT_test ?_) | (with_reducible refine dT_and ?_) | (with_reducible refine dT_or ?_) | (with_reducible refine dT_not ?_)
  | (with_reducible refine dE_and ?_) | (with_reducible refine dE_or ?_) | (with_reducible refine dE_not ?_) | (with_reducible refine dE_if ?_)
  | (with_reducible refine dE_int ?_) | (with_reducible refine dE_str ?_) | (with_reducible refine dE_bl ?_) | (with_reducible refine dE_non ?_)
  | ((with_reducible refine dE_varE ?_); refine ⟨_, rfl, ?_⟩) | ((with_reducible refine dE_ownE ?_); refine ⟨_, rfl, ?_⟩)
  | (with_reducible refine dE_ix ?_) | (with_reducible refine dE_op2 ?_) | (with_reducible refine dE_chain ?_) | (with_reducible refine dE_un ?_) | (with_reducible refine dA_cons ?_) | (with_reducible refine dA_nil ?_) | (with_reducible refine dE_callF ?_) | (with_reducible refine dE_tup ?_)
  | (refine ⟨fun (_ : true = true) => ?_, fun z => Bool.noConfusion z⟩) | (refine ⟨fun z => Bool.noConfusion z, fun (_ : false = false) => ?_⟩)
  | (with_reducible refine dE_callP (i := 0) rfl ?_)
  | (with_reducible refine dE_isStr ?_) | (with_reducible refine dE_isInt ?_) | (with_reducible refine dE_isBool ?_) | (with_reducible refine dE_isList ?_) | (with_reducible refine dE_isTup ?_) | (with_reducible refine dE_isDict ?_) | (with_reducible refine dE_cb ?_) | (with_reducible refine dE_lc ?_) | (with_reducible refine dE_lstF ?_) | (with_reducible refine dI_list ?_) | (with_reducible refine dI_tup ?_) | (with_reducible refine dI_str ?_) | (with_reducible refine dI_rng1 ?_) | (with_reducible refine dI_rng2 ?_) | (with_reducible refine dS_set ?_) | (with_reducible refine dS_augI ?_) | (with_reducible refine dS_brk ?_) | (with_reducible refine dS_ct ?_) | (with_reducible refine dO_none ?_) | (with_reducible refine dO_some ?_))
local macro_rules | `(tactic| one_place) => `(tactic| (repeat' one_item))
section
variable {P : Program} {w : World} {K : PySem.W.Frag} {mg : Str → Option Value} {base : Heap}
/-! ### alike to the last bit -/
def exOk : Nat → D → Prop
  | 0, d => d.flat = true
  | n + 1, d => d.flat = true ∨ (∃ l, (d = .lst l ∨ d = .tup l) ∧ l.length ≤ 100000 ∧ ∀ e ∈ l, exOk n e) ∨ (∃ ks ds, d = .dic ks ds ∧ ds.all D.flat = true ∧ ks.length ≤ 1000 ∧ 1 ≤ n)
theorem exOk_flat {d : D} (h : d.flat = true) : ∀ n, exOk n d
  | 0 => h
  | n + 1 => .inl h
def preX : Nat → List D → Prop
  | 0, _ => False
  | n + 1, ds => ∃ d, ds = [d, d] ∧ exOk n d
abbrev sp_exact (n : Nat) : Sp := spF (preX n) fun _ => .bl true
theorem eq_bl (b : Bool) : D.eq (.bl b) (.bl b) = true := by cases b <;> decide +kernel
theorem ok_exact0 (T : Txt K mg) : Con P w K mg base "_law_exact" p__law_exact 1 (sp_exact 0) := by
  obtain ⟨f, fd, F, g, b⟩ := T.d__law_exact.ex
  exact ⟨f, fd, g, F.kp, b, F.ok sc__law_exact (fun vs H Q E ⟨_, _, _, _, z, _⟩ => z.elim) (fun cdv A outer s H vs Q E hr ⟨_, _, _, _, z, _⟩ => z.elim)⟩
theorem exact_step (T : Txt K mg) (n : Nat) (c__law_exact : Con P w K mg base "_law_exact" p__law_exact (n + 1) (sp_exact n)) : Con P w K mg base "_law_exact" p__law_exact (n + 2) (sp_exact (n + 1)) := by
  refine conF T.d__law_exact sc__law_exact (fun ds h => ?_) (fun f cdv A outer s H E hr => ⟨_, (pss_cons (ps_if (pt_val (pe_callB call_isiT (by rfl) T.n_isinstance (by decide +kernel) (pa_cons (pv 0) (pa_cons (pe_tup (pa_cons (pe_bltn (v := .ty "list") (by rfl) T.n_list (by decide +kernel) rfl) (pa_cons (pe_bltn (v := .ty "tuple") (by rfl) T.n_tuple (by decide +kernel) rfl) pa_nil))) pa_nil)))) (pss_cons (ps_set (i := 2) sc__law_exact.nd rfl (.inl rfl) (pe_and (pe_cmpR (op_eqA hr.units) (pe_callB call_isi (by rfl) T.n_isinstance (by decide +kernel) (pa_cons (pv 1) (pa_cons (pe_bltn (v := .ty "list") (by rfl) T.n_list (by decide +kernel) rfl) pa_nil))) (pe_callB call_isi (by rfl) T.n_isinstance (by decide +kernel) (pa_cons (pv 0) (pa_cons (pe_bltn (v := .ty "list") (by rfl) T.n_list (by decide +kernel) rfl) pa_nil))) (nomark _)) (pe_one (pe_cmpR (op_eqA hr.units) (pe_callB call_isi (by rfl) T.n_isinstance (by decide +kernel) (pa_cons (pv 1) (pa_cons (pe_bltn (v := .ty "tuple") (by rfl) T.n_tuple (by decide +kernel) rfl) pa_nil))) (pe_callB call_isi (by rfl) T.n_isinstance (by decide +kernel) (pa_cons (pv 0) (pa_cons (pe_bltn (v := .ty "tuple") (by rfl) T.n_tuple (by decide +kernel) rfl) pa_nil))) (nomark _)))))
      (pss_one (ps_ret (pe_and (pv 2) (pe_and (pe_cmpR (op_eqA hr.units) (pe_callB call_lenA (by rfl) T.n_len (by decide +kernel) (pa_cons (pv 0) pa_nil)) (pe_callB call_lenA (by rfl) T.n_len (by decide +kernel) (pa_cons (pv 1) pa_nil)) (nomark _)) (pe_one (pe_callB (cr_all rfl) (by rfl) T.n_all (by decide +kernel) (pa_cons (pe_lc (own := [("_law_a", 3), ("_law_b", 4)]) rfl sc__law_exact.nd (RZ.pi_zipA (by rfl) T.n_zip (pa_cons (pv 0) (pa_cons (pv 1) pa_nil))) (blkOk_by (own := [("_law_a", 3), ("_law_b", 4)]) (N := n__law_exact) (sc := defScope s__law_exact) (by decide +kernel)) (fun _ _ _ _ _ => (show PG _ _ (gTup K 2 _) from pg_tup rfl (pgs_cons (pg_name (i := 3) sc__law_exact.nd rfl (Or.inl rfl)) (pgs_cons (pg_name (i := 4) sc__law_exact.nd rfl (Or.inl rfl)) pgs_nil)))) (fun _ _ _ _ _ => pts_nil) (fun _ _ _ _ _ => (pe_con c__law_exact (hr.mono (by omega)) (by rfl) (pa_cons (pv 3) (pa_cons (pv 4) pa_nil))))) pa_nil)))))))) pss_nil)
      (pss_cons (ps_if (pt_val (pe_callB call_isi (by rfl) T.n_isinstance (by decide +kernel) (pa_cons (pv 0) (pa_cons (pe_bltn (v := .ty "dict") (by rfl) T.n_dict (by decide +kernel) rfl) pa_nil)))) (pss_cons (ps_set (i := 2) sc__law_exact.nd rfl (.inl rfl) (pe_and (pe_callB call_isi (by rfl) T.n_isinstance (by decide +kernel) (pa_cons (pv 1) (pa_cons (pe_bltn (v := .ty "dict") (by rfl) T.n_dict (by decide +kernel) rfl) pa_nil))) (pe_one (pe_con c__law_exact (hr.mono (by omega)) (by rfl) (pa_cons (pe_callTy (call_listA rfl) (by rfl) T.n_list (by decide +kernel) (pa_cons (pv 0) pa_nil)) (pa_cons (pe_callTy (call_listA rfl) (by rfl) T.n_list (by decide +kernel) (pa_cons (pv 1) pa_nil)) pa_nil))))))
      (pss_one (ps_ret (pe_and (pv 2) (pe_one (pe_callB (cr_all rfl) (by rfl) T.n_all (by decide +kernel) (pa_cons (pe_lock (pe_lc (own := [("_law_key", 5)]) rfl sc__law_exact.nd (pi_keys (pv 0)) (blkOk_by (own := [("_law_key", 5)]) (N := n__law_exact) (sc := defScope s__law_exact) (by decide +kernel)) (fun _ _ _ _ _ => (pg_name (i := 5) sc__law_exact.nd rfl (Or.inl rfl))) (fun _ _ _ _ _ => pts_nil) (fun _ _ _ _ _ => (pe_con c__law_exact (hr.mono (by omega)) (by rfl) (pa_cons (pe_dget (units1 hr) (pv 0) (pv 5) (fun _ _ => rfl)) (pa_cons (pe_dget (units1 hr) (pv 1) (pv 5) (fun _ _ => rfl)) pa_nil)))))) pa_nil))))))) pss_nil)
      (pss_one (ps_ret (pe_and (pe_cmpR (op_eqA hr.units) (pe_callB call_isi (by rfl) T.n_isinstance (by decide +kernel) (pa_cons (pv 0) (pa_cons (pe_bltn (v := .ty "bool") (by rfl) T.n_bool (by decide +kernel) rfl) pa_nil))) (pe_callB call_isi (by rfl) T.n_isinstance (by decide +kernel) (pa_cons (pv 1) (pa_cons (pe_bltn (v := .ty "bool") (by rfl) T.n_bool (by decide +kernel) rfl) pa_nil))) (nomark _)) (pe_one (pe_cmpR (op_eqA hr.units) (pv 0) (pv 1) (nomark _)))))))), fun ds h => ?_⟩)
  · obtain ⟨d, rfl, _⟩ := h
    rfl
  · obtain ⟨d, rfl, h⟩ := h
    have hcase : d.flat = true ∨ (∃ l, (d = .lst l ∨ d = .tup l) ∧ l.length ≤ 100000 ∧ ∀ e ∈ l, preX n [e, e]) ∨ (∃ ks ds, d = .dic ks ds ∧ ds.all D.flat = true ∧ ks.length ≤ 1000 ∧ ∀ e : D, (e.flat = true ∨ ∃ l, e = .lst l ∧ l.length ≤ 1000 ∧ ∀ x ∈ l, D.flat x = true) → preX n [e, e]) := by
      cases n with
      | zero => exact .inl h
      | succ n =>
        rcases h with h | ⟨l, h1, h2, h3⟩ | ⟨ks, ds, h1, h2, h3, h4⟩
        · exact .inl h
        · exact .inr (.inl ⟨l, h1, h2, fun e he => ⟨e, rfl, h3 e he⟩⟩)
        · refine .inr (.inr ⟨ks, ds, h1, h2, h3, fun e he => ⟨e, rfl, ?_⟩⟩)
          rcases he with he | ⟨l, rfl, hl, hx⟩
          · exact exOk_flat he _
          · obtain ⟨m, rfl⟩ : ∃ m, n = m + 1 := ⟨n - 1, by omega⟩
            exact .inr (.inl ⟨l, .inl rfl, by omega, fun x hh => exOk_flat (hx x hh) _⟩)
    have tyL : ("list" : String) = "str" ∨ ("list" : String) = "int" ∨ ("list" : String) = "bool" ∨ ("list" : String) = "list" ∨ ("list" : String) = "tuple" ∨ ("list" : String) = "dict" := by decide
    have tyT : ("tuple" : String) = "str" ∨ ("tuple" : String) = "int" ∨ ("tuple" : String) = "bool" ∨ ("tuple" : String) = "list" ∨ ("tuple" : String) = "tuple" ∨ ("tuple" : String) = "dict" := by decide
    have hni : d.noIns = true := by
      rcases hcase with h | ⟨l, h1 | h1, _⟩ | ⟨ks, ds, h1, _⟩
      · cases d <;> first | rfl | cases h
      · rw [h1]; rfl
      · rw [h1]; rfl
      · rw [h1]; rfl
    refine dS_seq (dS_if (dT_B (dE_isiT2 tyL tyT (dE_varE ⟨_, rfl, hni, _, rfl, ?_⟩))))
    rcases hcase with hf | ⟨l, hl, hlen, hel⟩ | ⟨ks, ds, rfl, hds, hks, hel⟩
    · have e1 : (d.isa "list" || d.isa "tuple") = false := by
        rw [isa_list, isa_tuple]
        cases d <;> first | rfl | cases hf
      have e2 : d.isDict = false := by cases d <;> first | rfl | cases hf
      rw [e1]
      refine ⟨fun z => Bool.noConfusion z, fun _ => dS_next ?_⟩
      one_place
      refine ⟨hni, _, rfl, ?_⟩
      rw [e2]
      one_place
      refine ⟨hni, ?_⟩
      one_place
      refine ⟨hni, _, od_eq (by rfl) (by rfl), _, rfl, fun _ => ?_, fun z => ?_⟩
      · one_place
        exact ⟨_, od_eqR hf, rfl⟩
      · rw [eq_bl] at z
        cases z
    · have e1 : (d.isa "list" || d.isa "tuple") = true := by rcases hl with rfl | rfl <;> rfl
      rw [e1]
      refine ⟨fun _ => ?_, fun z => Bool.noConfusion z⟩
      refine dS_seq (dS_set (dE.imp (Q := fun r G' => r = .bl true ∧ G' = [.imm d, .imm d, .any, .any, .any, .any]) ?_ fun r G' ⟨er, eG⟩ => ?_))
      · one_place
        refine ⟨hni, ?_⟩
        one_place
        refine ⟨hni, _, od_eq (by rfl) (by rfl), _, rfl, fun _ => ?_, fun z => ?_⟩
        · one_place
          refine ⟨hni, ?_⟩
          one_place
          refine ⟨hni, _, od_eq (by rfl) (by rfl), ?_⟩
          rw [eq_bl]
          exact ⟨rfl, rfl⟩
        · rw [eq_bl] at z
          cases z
      subst er eG
      have hlenD : LenD d l.length := by rcases hl with rfl | rfl <;> rfl
      one_place
      refine ⟨_, rfl, fun _ => ?_, fun z => Bool.noConfusion z⟩
      one_place
      refine ⟨_, ca_len hlenD, ?_⟩
      one_place
      refine ⟨_, ca_len hlenD, _, od_eqI, _, rfl, fun _ => ?_, fun z => ?_⟩
      · refine dE_cb (dA_cons (dE_L (dL_lc (dI_zip (dA_cons (dE_varE ⟨_, rfl, dA_cons (dE_varE ⟨_, rfl, dA_nil ⟨l, l, ?_, rfl, ?_⟩⟩)⟩))))))
        · rcases hl with rfl | rfl
          · exact .inl rfl
          · exact .inr rfl
        refine ⟨fun j acc G' => acc = List.replicate j (.bl true) ∧ G' = [.imm d, .imm d, .imm (.bl true), .any, .any, .any], ⟨rfl, rfl⟩, fun j e acc G' he ⟨ea, eG⟩ => ?_, fun acc G' ⟨ea, eG⟩ => ?_⟩
        · subst ea eG
          rw [List.getElem?_map] at he
          obtain ⟨z, hz, rfl⟩ := Option.map_eq_some_iff.mp he
          have hz' := List.getElem?_zip_eq_some.mp hz
          have hzz : z.2 = z.1 := by
            have := hz'.1.symm.trans hz'.2
            exact (Option.some.inj this).symm
          rw [hzz]
          have hm : z.1 ∈ l := List.mem_of_getElem? hz'.1
          have hj : j < l.length := (List.getElem?_eq_some_iff.mp hz'.1).1
          refine dG_tup rfl (dGs_cons (dG_name (by decide) (dGs_cons (dG_name (by decide) (dGs_nil ?_)))))
          refine dT_yes ⟨fun _ => ?_, fun z => Bool.noConfusion z⟩
          refine dE_callF (dA_cons (dE_varE ⟨_, rfl, dA_cons (dE_varE ⟨_, rfl, dA_nil ⟨hel _ hm, ?_, ?_, rfl⟩⟩)⟩))
          · rw [List.length_replicate]; omega
          · rw [List.replicate_succ']
        · subst ea eG
          refine dA_nil ?_
          have e3 : List.replicate ((l.zip l).map fun z => D.tup [z.1, z.2]).length (D.bl true) = (List.replicate ((l.zip l).map fun z => D.tup [z.1, z.2]).length true).map D.bl := by rw [List.map_replicate]
          rw [e3]
          refine ⟨_, ca_all, ?_⟩
          show D.bl _ = D.bl true
          simp
      · simp at z
    · refine ⟨fun z => Bool.noConfusion z, fun _ => dS_next ?_⟩
      one_place
      refine ⟨hni, _, rfl, fun _ => ?_, fun z => Bool.noConfusion z⟩
      refine dS_seq (dS_set (dE_and ?_))
      one_place
      refine ⟨hni, _, rfl, fun _ => ?_, fun z => Bool.noConfusion z⟩
      refine dE_callF (dA_cons (dE_L (dL_listK (dA_cons (dE_varE ⟨_, rfl, dA_nil ⟨ks, ds, rfl, ?_⟩⟩)))))
      refine dA_cons (dE_L (dL_listK (dA_cons (dE_varE ⟨_, rfl, dA_nil ⟨ks, ds, rfl, ?_⟩⟩))))
      refine dA_nil ⟨hel _ (.inr ⟨_, rfl, ?_, ?_⟩), ?_⟩
      · rw [List.length_map]; exact hks
      · intro x hx
        obtain ⟨k, _, rfl⟩ := List.mem_map.mp hx
        cases k <;> rfl
      one_place
      refine ⟨_, rfl, fun _ => ?_, fun z => Bool.noConfusion z⟩
      one_place
      refine dE_keysEq rfl (by decide) (by decide) rfl rfl hds hks (fun e he => hel e (.inl he)) (show 5 < 6 by decide) ?_
      one_place
      have e3 : List.replicate ks.length (D.bl true) = (List.replicate ks.length true).map D.bl := by rw [List.map_replicate]
      rw [e3]
      refine ⟨_, ca_all, ?_⟩
      show D.bl _ = D.bl true
      simp
theorem ok_exact (T : Txt K mg) : ∀ n, Con P w K mg base "_law_exact" p__law_exact (n + 1) (sp_exact n)
  | 0 => ok_exact0 T
  | n + 1 => exact_step T n (ok_exact T n)
/-! ### what cut, line_of and tight_line tell or refuse -/
variable {C fI : Addr}
def toldOk (n : Int) (d : D) : Prop := d.un.noIns = true ∧ (d.isStr = false → d.un.isStr = false) ∧ (∀ l, d = .str (S l) → l.length ≤ 10000) ∧ (n ≠ 0 → fitsT d.un ∧ isText d.un = false)
abbrev sp_told : Sp := spD (fun ds => ∃ (n : Int) (d : D), ds = [.int n, d] ∧ toldOk n d) (fun ds r => ∀ (n : Int) (d : D), ds = [.int n, d] →
  (∀ l, n = 0 → d = .str (S l) → okCut l = true → r = .tup [.str "told", txts (cutL l)]) ∧ ((n = 0 → ∀ l, d = .str (S l) → okCut l = false) → r = .tup [.str "refused", d]))
theorem ok_told (T : Txt K mg) (TE_InvalidText : PySem.Kex.ValTxt P K mg "InvalidText" C fI) (cx_cut : ConX P w K mg base "cut" p_cut 6 (spx_cut C)) (cx_line_of : ConX P w K mg base "line_of" p_line_of 7 (spx_line_of C)) (cx_tight_line : ConX P w K mg base "tight_line" p_tight_line 7 (spx_line_of C)) : Con P w K mg base "_law_told" p__law_told 8 sp_told := by
  refine conD T.d__law_told sc__law_told (fun ds h => ?_) (fun f cdv A outer s H E hr => ⟨_, (pss_cons (ps_try_as (i := 3) (Wout := fun _ _ _ _ => False) rfl rfl sc__law_told.nd rfl rfl ⟨rfl, by decide, Or.inl TE_InvalidText.gC⟩ takes0
      (fun W pn xe tk _ => (pss_one (ps_set (i := 2) sc__law_told.nd rfl (.inl rfl) (pe_ifExp (pt_cmpR (show OpR _ (compareOp .Eq) (rEqA K) from (op_eqA hr.units)) (pv 0) pe_int (nomark _)) (pe_conW cx_cut (hr.mono (by decide)) tk (by rfl) (pa_cons (pv 1) pa_nil)) (pe_ifExp (pt_cmpR (show OpR _ (compareOp .Eq) (rEqA K) from (op_eqA hr.units)) (pv 0) pe_int (nomark _)) (pe_conW cx_line_of (hr.mono (by decide)) tk (by rfl) (pa_cons (pv 1) pa_nil)) (pe_conW cx_tight_line (hr.mono (by decide)) tk (by rfl) (pa_cons (pv 1) pa_nil)))))))
      (fun a oe cls d pn hz hf => (pss_one (ps_ret (pe_tup (pa_cons pe_str (pa_cons (pe_byV TE_InvalidText hz hf (pv 3)) pa_nil)))))))
      (pss_one (ps_ret (pe_tup (pa_cons pe_str (pa_cons (pv 2) pa_nil)))))), fun ds h => ?_⟩)
  · obtain ⟨n, d, rfl, _⟩ := h
    rfl
  · obtain ⟨n, d, rfl, h1, h2, h3, h4⟩ := h
    refine dS_seq (dS_try (K := K) (C0 := C) (i := 3) (ex1 := fun C' d' => C' = C ∧ d' = d ∧ (n = 0 → ∀ l, d = .str (S l) → okCut l = false))
      (tb' := fun E => tAsg (tIf (tTest (tOp (rEqA K) (tVar 0) (tC (V.int 0)))) (tCall (spx_cut C) [] E (tCons (tVar 1) tNil)) (tIf (tTest (tOp (rEqA K) (tVar 0) (tC (V.int 1)))) (tCall (spx_line_of C) [] E (tCons (tVar 1) tNil)) (tCall (spx_line_of C) [] E (tCons (tVar 1) tNil)))) (gName 2))
      (fun _ _ _ _ => rfl) (fun C' d' he => ?_) (fun E => ?_) (fun C' d' a dd he => ?_))
    · rw [he.1]
      exact TE_InvalidText.te
    · refine dS_set (dE_if (dT_test (dE_op2 (dE_varE ⟨_, rfl, dE_int ⟨_, od_eqI, _, rfl, fun hn => ?_, fun hn => ?_⟩⟩))))
      · have hn := of_decide_eq_true hn
        refine dE_callX (dA_cons (dE_varE ⟨_, rfl, dA_nil ⟨⟨d, rfl, h1, h2, h3⟩, fun r ⟨l, e1, e2, e3⟩ => ?_, fun C' d' ⟨e1, e2, e3⟩ => ⟨e1, (List.cons.inj e2).1.symm, fun _ l hl => ?_⟩⟩⟩))
        · have e1 := (List.cons.inj e1).1
          refine dS_ret (dE_tup (dA_cons (dE_str (dA_cons (dE_varE ⟨_, rfl, dA_nil ⟨(by decide : 2 ≤ 1000), fun m e hme => ?_⟩⟩)))))
          have em := D.int.inj (List.cons.inj hme).1
          have ee := (List.cons.inj (List.cons.inj hme).2).1
          subst ee
          refine ⟨fun l' _ hl' _ => ?_, fun hno => ?_⟩
          · have : l = l' := str_inj.mp (D.str.inj (e1.symm.trans hl'))
            rw [← this, e3]
          · have := hno (em.symm.trans hn) l e1
            rw [e2] at this
            cases this
        · have := (List.cons.inj e2).1
          exact e3 l (by rw [← this]; exact hl)
      · have hn := of_decide_eq_false hn
        obtain ⟨f1, f2⟩ := h4 hn
        refine dE_if (dT_test (dE_op2 (dE_varE ⟨_, rfl, dE_int ⟨_, od_eqI, _, rfl, fun _ => ?_, fun _ => ?_⟩⟩)))
        · exact dE_callX (dA_cons (dE_varE ⟨_, rfl, dA_nil ⟨⟨d, rfl, f1, f2⟩, fun r z => z.elim, fun C' d' ⟨e1, e2⟩ => ⟨e1, (List.cons.inj e2).1.symm, fun z => absurd z hn⟩⟩⟩))
        · exact dE_callX (dA_cons (dE_varE ⟨_, rfl, dA_nil ⟨⟨d, rfl, f1, f2⟩, fun r z => z.elim, fun C' d' ⟨e1, e2⟩ => ⟨e1, (List.cons.inj e2).1.symm, fun z => absurd z hn⟩⟩⟩))
    · obtain ⟨rfl, rfl, hbad⟩ := he
      refine dS_ret (dE_tup (dA_cons (dE_str (dA_cons (dE_byV (i := 3) rfl (dA_nil ⟨(by decide : 2 ≤ 1000), fun m e hme => ?_⟩))))))
      have em := D.int.inj (List.cons.inj hme).1
      have ee := (List.cons.inj (List.cons.inj hme).2).1
      subst ee
      refine ⟨fun l' hm hl' hok => ?_, fun _ => rfl⟩
      have := hbad (em.trans hm) l' hl'
      rw [hok] at this
      cases this
/-! ### the very thing -/
end
end K2
namespace K2
open PySem L2 Kr
local macro_rules | `(tactic| one_item) => `(tactic| first
  | (with_reducible refine dS_seq ?_) | (with_reducible refine dS_ret ?_) | (with_reducible refine dS_if ?_) | (with_reducible refine dS_next ?_) | (with_reducible refine dS_nextE ?_) | (with_reducible refine dS_brkE ?_) | (with_reducible refine dS_ctE ?_)
  | (with_reducible refine dT_B ?_) | (with_reducible refine dT_test ?_) | (with_reducible refine dT_and ?_) | (with_reducible refine dT_or ?_) | (with_reducible refine dT_not ?_)
  | (with_reducible refine dE_and ?_) | (with_reducible refine dE_or ?_) | (with_reducible refine dE_not ?_) | (with_reducible refine dE_if ?_)
  | (with_reducible refine dE_int ?_) | (with_reducible refine dE_str ?_) | (with_reducible refine dE_bl ?_) | (with_reducible refine dE_non ?_)
  | ((with_reducible refine dE_varE ?_); refine ⟨_, rfl, ?_⟩) | ((with_reducible refine dE_ownE ?_); refine ⟨_, rfl, ?_⟩)
  | (with_reducible refine dE_ix ?_) | (with_reducible refine dE_op2 ?_) | (with_reducible refine dE_chain ?_) | (with_reducible refine dE_un ?_) | (with_reducible refine dA_cons ?_) | (with_reducible refine dA_nil ?_) | (with_reducible refine dE_callF ?_) | (with_reducible refine dE_tup ?_)
  | (refine ⟨fun (_ : true = true) => ?_, fun z => Bool.noConfusion z⟩) | (refine ⟨fun z => Bool.noConfusion z, fun (_ : false = false) => ?_⟩)
  | (with_reducible refine dE_callP (i := 0) rfl ?_)
  | (with_reducible refine dE_isStr ?_) | (with_reducible refine dE_isInt ?_) | (with_reducible refine dE_isBool ?_) | (with_reducible refine dE_isList ?_) | (with_reducible refine dE_isTup ?_) | (with_reducible refine dE_isDict ?_) | (with_reducible refine dE_cb ?_) | (with_reducible refine dE_lc ?_) | (with_reducible refine dE_lstF ?_) | (with_reducible refine dI_list ?_) | (with_reducible refine dI_tup ?_) | (with_reducible refine dI_str ?_) | (with_reducible refine dI_rng1 ?_) | (with_reducible refine dI_rng2 ?_) | (with_reducible refine dS_set ?_) | (with_reducible refine dS_augI ?_) | (with_reducible refine dS_brk ?_) | (with_reducible refine dS_ct ?_) | (with_reducible refine dO_none ?_) | (with_reducible refine dO_some ?_))
local macro_rules | `(tactic| one_place) => `(tactic| (repeat' one_item))
section
variable {P : Program} {w : World} {K : PySem.W.Frag} {mg : Str → Option Value} {base : Heap}
/-! ### the very thing; cut as the scanner cuts -/
theorem txts_exOk (l : List (List Nat)) (hl : l.length ≤ 100000) (n : Nat) : exOk (n + 1) (txts l) := .inr (.inl ⟨_, .inl rfl, by rw [List.length_map]; exact hl, fun e he => by
  obtain ⟨t, _, rfl⟩ := List.mem_map.mp he
  exact exOk_flat rfl n⟩)
theorem pair_exOk {x : Str} {d : D} {n : Nat} (h : exOk n d) : exOk (n + 1) (.tup [.str x, d]) := .inr (.inl ⟨_, .inr rfl, (by decide : 2 ≤ 100000), fun e he => by
  rcases List.mem_cons.mp he with rfl | he
  · exact exOk_flat rfl n
  · rw [List.mem_singleton.mp he]; exact h⟩)
theorem shallow_exOk {d : D} (h : shallow d) (hl : ∀ m, d = .lst m → m.length ≤ 100000) (n : Nat) : exOk (n + 1) d := by
  rcases h with h | ⟨m, rfl, hm⟩
  · exact exOk_flat h _
  · exact .inr (.inl ⟨m, .inl rfl, hl m rfl, fun e he => exOk_flat (List.all_eq_true.mp hm e he) n⟩)
def veryOk (d : D) : Prop := d.flat = true ∨ ∃ a e, d = .is a e ∧ exOk 3 e ∧ e.noIns = true ∧ (e.isList = false ∨ ∃ l, e = .lst l ∧ (∀ x ∈ l, shallow x ∧ ∀ m, x = .lst m → m.length ≤ 100000) ∧ l.length ≤ 1000)
abbrev sp_very : Sp := spD (fun ds => ∃ d, ds = [.tup [.str "refused", d], d] ∧ veryOk d) (fun _ r => r = .bl true)
theorem ok_very (T : Txt K mg) (c__law_exact : Con P w K mg base "_law_exact" p__law_exact 6 (sp_exact 5)) : Con P w K mg base "_law_very" p__law_very 7 sp_very := by
  refine conD T.d__law_very sc__law_very (fun ds h => ?_) (fun f cdv A outer s H E hr => ⟨_, (pss_cons (ps_if (pt_not (pt_val (pe_con c__law_exact (hr.mono (by decide)) (by rfl) (pa_cons (pv 0) (pa_cons (pe_tup (pa_cons pe_str (pa_cons (pv 1) pa_nil))) pa_nil))))) (pss_one (ps_ret pe_bl)) pss_nil)
      (pss_cons (ps_if (pt_val (pe_callB call_isi (by rfl) T.n_isinstance (by decide +kernel) (pa_cons (pv 1) (pa_cons (pe_bltn (v := .ty "list") (by rfl) T.n_list (by decide +kernel) rfl) pa_nil)))) (pss_cons (ps_expr (pe_bm PySem.F.plainAttrs_list PySem.F.slot_list_append PySem.F.type_list_append mt_append (pv 1) (pa_cons pe_str pa_nil)))
      (pss_cons (ps_set (i := 2) sc__law_very.nd rfl (.inl rfl) (pe_con c__law_exact (hr.mono (by decide)) (by rfl) (pa_cons (pe_ix ix_seq (pv 0) pe_int (fun _ _ => rfl)) (pa_cons (pv 1) pa_nil))))
      (pss_cons (ps_expr (pe_bm0 PySem.F.plainAttrs_list PySem.F.slot_list_pop PySem.F.type_list_pop mt_pop (pv 1)))
      (pss_one (ps_ret (pv 2)))))) pss_nil)
      (pss_one (ps_ret pe_bl)))), fun ds h => ?_⟩)
  · obtain ⟨d, rfl, _⟩ := h
    rfl
  · obtain ⟨d, rfl, hd⟩ := h
    rcases hd with hf | ⟨a, e, rfl, he, hni, hle⟩
    · have hni : d.noIns = true := by cases d <;> first | rfl | cases hf
      have hnl : d.isList = false := by cases d <;> first | rfl | cases hf
      one_place
      refine ⟨(by decide : 2 ≤ 1000), ?_⟩
      one_place
      refine ⟨⟨_, rfl, pair_exOk (exOk_flat hf 3)⟩, _, rfl, ?_⟩
      one_place
      refine ⟨hni, _, rfl, ?_⟩
      rw [hnl]
      one_place
    · have hw0 : ∀ F v, Rp F v (.tup [.str "refused", .is a e]) → Rp F v (.tup [.str "refused", e]) := fun F v r => by
        cases r with
        | tup h r =>
          refine .tup h ?_
          cases r with
          | cons r1 r2 =>
            cases r2 with
            | cons r2 r3 =>
              cases r3
              cases r2 with
              | is r2 => exact .cons r1 (.cons r2 .nil)
      have hw1 : ∀ F v, Rp F v (.is a e) → Rp F v e := fun F v r => by
        cases r with
        | is r => exact r
      refine dS_seq (dS_if (dT_as 0 rfl hw0 (dT_as 1 rfl hw1 ?_)))
      one_place
      refine ⟨(by decide : 2 ≤ 1000), ?_⟩
      one_place
      refine ⟨⟨_, rfl, pair_exOk he⟩, _, rfl, ?_⟩
      refine ⟨rfl, rfl, fun z => Bool.noConfusion z, fun _ => dS_next ?_⟩
      refine dS_seq (dS_if (dT_as 1 rfl hw1 ?_))
      one_place
      refine ⟨hni, _, rfl, rfl, ?_⟩
      rcases hle with hle | ⟨l, rfl, hx, hl⟩
      · rw [hle]
        one_place
      · refine ⟨fun _ => ?_, fun z => Bool.noConfusion z⟩
        refine dS_veryList rfl rfl (show 2 < 3 by decide) (fun x hh => (hx x hh).1) hl ⟨_, rfl, ?_⟩ rfl
        refine .inr (.inl ⟨_, .inl rfl, by rw [List.length_append]; show l.length + 1 ≤ _; omega, fun x hh => ?_⟩)
        rcases List.mem_append.mp hh with z | z
        · exact shallow_exOk (hx x z).1 (hx x z).2 _
        · rw [List.mem_singleton.mp z]; exact exOk_flat rfl _
abbrev sp_cutR : Sp := spD (fun ds => ∃ (l : List Nat) (d : D), ds = [.str (S l), d] ∧ l.length ≤ 10000 ∧ ((okCut l = true ∧ d = txts (cutL l)) ∨ (okCut l = false ∧ d = .non))) (fun _ r => r = .bl true)
theorem ok_cutR (T : Txt K mg) (c__law_exact : Con P w K mg base "_law_exact" p__law_exact 6 (sp_exact 5)) (c__law_told : Con P w K mg base "_law_told" p__law_told 8 sp_told) : Con P w K mg base "_law_cut_right" p__law_cut_right 9 sp_cutR := by
  refine conD T.d__law_cut_right sc__law_cut_right (fun ds h => ?_) (fun f cdv A outer s H E hr => ⟨_, (pss_one (ps_ret (pe_con c__law_exact (hr.mono (by decide)) (by rfl) (pa_cons (pe_con c__law_told (hr.mono (by decide)) (by rfl) (pa_cons pe_int (pa_cons (pv 0) pa_nil))) (pa_cons (pe_ifExp (pt_cmpR op_isA (pv 1) pe_non (nomark _)) (pe_tup (pa_cons pe_str (pa_cons (pv 0) pa_nil))) (pe_tup (pa_cons pe_str (pa_cons (pv 1) pa_nil)))) pa_nil))))), fun ds h => ?_⟩)
  · obtain ⟨l, d, rfl, _⟩ := h
    rfl
  · obtain ⟨l, d, rfl, hl, hd⟩ := h
    refine dS_ret (dE_callF (dA_cons (dE_call (dA_cons (dE_int (dA_cons (dE_varE ⟨_, rfl, dA_nil ⟨⟨0, _, rfl, rfl, fun z => z, fun m hm => ?_, fun z => absurd rfl z⟩, fun r hr => ?_⟩⟩)))))))
    · have := str_inj.mp (D.str.inj hm)
      rw [← this]; exact hl
    obtain ⟨r1, r2⟩ := hr 0 _ rfl
    rcases hd with ⟨hok, rfl⟩ | ⟨hok, rfl⟩
    · have er := r1 l rfl rfl hok
      subst er
      have hcl : (cutL l).length ≤ 100000 := Nat.le_trans (cut_len _ _) (by omega)
      one_place
      refine ⟨_, od_is, _, rfl, fun z => Bool.noConfusion z, fun _ => ?_⟩
      one_place
      refine ⟨(by decide : 2 ≤ 1000), ?_⟩
      one_place
      exact ⟨⟨_, rfl, pair_exOk (txts_exOk _ hcl 2)⟩, rfl⟩
    · have er := r2 fun _ m hm => by
        have := str_inj.mp (D.str.inj hm)
        rw [← this]; exact hok
      subst er
      one_place
      refine ⟨_, od_is, _, rfl, fun _ => ?_, fun z => Bool.noConfusion z⟩
      one_place
      refine ⟨(by decide : 2 ≤ 1000), ?_⟩
      one_place
      exact ⟨⟨_, rfl, pair_exOk (exOk_flat rfl 3)⟩, rfl⟩
end
end K2
namespace K2
open PySem L2 Kr
/-! ### plain facts of lines and tokens -/
theorem memL {c : Nat} : c ∈ LET ↔ isL c = true := by rw [← mem_let]; simp
theorem memF {c : Nat} : c ∈ FIG ↔ isF c = true := by rw [← mem_fig]; simp
theorem L_notF {c : Nat} (h : isL c = true) : isF c = false := by
  unfold isL at h; unfold isF
  rw [Bool.and_eq_true, decide_eq_true_eq, decide_eq_true_eq] at h
  rw [Bool.and_eq_false_iff, decide_eq_false_iff_not, decide_eq_false_iff_not]
  omega
theorem L_not39 {c : Nat} (h : isL c = true) : c ≠ 39 := by
  unfold isL at h
  rw [Bool.and_eq_true, decide_eq_true_eq, decide_eq_true_eq] at h
  omega
theorem L_not32 {c : Nat} (h : isL c = true) : c ≠ 32 := by
  unfold isL at h
  rw [Bool.and_eq_true, decide_eq_true_eq, decide_eq_true_eq] at h
  omega
theorem F_not39 {c : Nat} (h : isF c = true) : c ≠ 39 ∧ c ≠ 32 ∧ isL c = false := by
  unfold isF at h; unfold isL
  rw [Bool.and_eq_true, decide_eq_true_eq, decide_eq_true_eq] at h
  rw [Bool.and_eq_false_iff, decide_eq_false_iff_not, decide_eq_false_iff_not]
  omega
/-- what a line is cut into -/
inductive Tk : List Nat → Prop
  | w {c : Nat} {l : List Nat} : isL c = true → (∀ x ∈ l, isL x = true) → Tk (c :: l)
  | n {c : Nat} {l : List Nat} : isF c = true → (∀ x ∈ l, isF x = true) → Tk (c :: l)
  | q {l : List Nat} : (∀ x ∈ l, isL x = true) → Tk (39 :: l)
  | p {c : Nat} : isL c = false → isF c = false → c ≠ 39 → c ≠ 32 → Tk [c]
theorem runLen_app {y : List Nat} : ∀ {l r : List Nat}, (∀ a ∈ l, a ∈ y) → (∀ e r', r = e :: r' → e ∉ y) → runLen y (l ++ r) = l.length
  | [], [], _, _ => rfl
  | [], e :: r, _, h => by
    rw [List.nil_append, runLen_cons, if_neg (h e r rfl)]
    rfl
  | a :: l, r, h1, h2 => by
    rw [List.cons_append, runLen_cons, if_pos (h1 a List.mem_cons_self), runLen_app (fun x hx => h1 x (List.mem_cons_of_mem _ hx)) h2, List.length_cons]
theorem runLen_max {y : List Nat} : ∀ {l : List Nat} {e : Nat} {r : List Nat}, l.drop (runLen y l) = e :: r → e ∉ y
  | [], e, r, h => by cases h
  | c :: l, e, r, h => by
    rw [runLen_cons] at h
    split at h
    · exact runLen_max (show l.drop (runLen y l) = e :: r from h)
    · rename_i hc
      have := (List.cons.inj (show c :: l = e :: r from h)).1
      rw [← this]; exact hc
theorem runLen_all {y : List Nat} : ∀ {l : List Nat}, ∀ a ∈ l.take (runLen y l), a ∈ y
  | [], a, h => by cases h
  | c :: l, a, h => by
    rw [runLen_cons] at h
    split at h
    · rename_i hc
      rw [List.take_succ_cons] at h
      rcases List.mem_cons.mp h with z | z
      · rw [z]; exact hc
      · exact runLen_all a z
    · cases h
/-- e doesn't go on with t -/
def stopT : List Nat → Nat → Prop
  | [], _ => False
  | c :: _, e => ((isL c = true ∨ c = 39) → isL e = false) ∧ (isF c = true → isF e = false)
theorem tokLen_app {t r : List Nat} (h : Tk t) (hr : ∀ e r', r = e :: r' → stopT t e) : tokLen (t ++ r) = t.length := by
  cases h with
  | @w c l h1 h2 =>
    have e := runLen_app (y := LET) (l := c :: l) (r := r) (fun a ha => by
      rcases List.mem_cons.mp ha with z | z
      · rw [z]; exact memL.mpr h1
      · exact memL.mpr (h2 a z)) (fun e r' he z => by
        have := (hr e r' he).1 (.inl h1)
        rw [memL.mp z] at this; cases this)
    rw [List.cons_append] at e ⊢
    rw [tokLen_cons, if_pos (memL.mpr h1), e]
  | @n c l h1 h2 =>
    have e := runLen_app (y := FIG) (l := c :: l) (r := r) (fun a ha => by
      rcases List.mem_cons.mp ha with z | z
      · rw [z]; exact memF.mpr h1
      · exact memF.mpr (h2 a z)) (fun e r' he z => by
        have := (hr e r' he).2 h1
        rw [memF.mp z] at this; cases this)
    rw [List.cons_append] at e ⊢
    rw [tokLen_cons, if_neg (fun z => by have := memL.mp z; rw [(F_not39 h1).2.2] at this; cases this), if_pos (memF.mpr h1), e]
  | @q l h1 =>
    have e := runLen_app (y := LET) (l := l) (r := r) (fun a ha => memL.mpr (h1 a ha)) (fun e r' he z => by
        have := (hr e r' he).1 (.inr rfl)
        rw [memL.mp z] at this; cases this)
    rw [List.cons_append, tokLen_cons, if_neg (by decide +kernel), if_neg (by decide +kernel), if_pos rfl, e, List.length_cons]
  | @p c h1 h2 h3 h4 =>
    rw [List.cons_append, tokLen_cons, if_neg (fun z => by have := memL.mp z; rw [h1] at this; cases this), if_neg (fun z => by have := memF.mp z; rw [h2] at this; cases this), if_neg h3]
    rfl
theorem tk_cons {t : List Nat} (h : Tk t) : ∃ c l, t = c :: l ∧ c ≠ 32 := by
  cases h with
  | @w c l h1 _ => exact ⟨c, l, rfl, L_not32 h1⟩
  | @n c l h1 _ => exact ⟨c, l, rfl, (F_not39 h1).2.1⟩
  | @q l _ => exact ⟨39, l, rfl, by decide⟩
  | @p c _ _ _ h4 => exact ⟨c, [], rfl, h4⟩
theorem cut_tok {t r : List Nat} (h : Tk t) (hr : ∀ e r', r = e :: r' → stopT t e) : cutL (t ++ r) = t :: cutL r := by
  have e := tokLen_app h hr
  obtain ⟨c, l, rfl, hc⟩ := tk_cons h
  rw [List.cons_append] at e ⊢
  rw [cutL_cons, if_neg hc, e]
  rw [← List.cons_append, List.take_left, List.drop_left]
  rfl
theorem cut_sp (x : List Nat) : cutL (32 :: x) = cutL x := by
  rw [cutL_cons, if_pos rfl]
  have e : tokLen (32 :: x) = 1 := by
    rw [tokLen_cons, if_neg (by decide +kernel), if_neg (by decide +kernel), if_neg (by decide)]
  rw [e]
  rfl
theorem cut_sps (x : List Nat) : ∀ k, cutL (List.replicate k 32 ++ x) = cutL x
  | 0 => rfl
  | k + 1 => by rw [List.replicate_succ, List.cons_append, cut_sp, cut_sps x k]
/-- a line of these pieces -/
inductive Gap : Option (List Nat) → List (List Nat) → List Nat → Prop
  | nil {p : Option (List Nat)} (k : Nat) : Gap p [] (List.replicate k 32)
  | cons {p : Option (List Nat)} {t : List Nat} {ts : List (List Nat)} {l : List Nat} (k : Nat) : need p t ≤ k → Gap (some t) ts l → Gap p (t :: ts) (List.replicate k 32 ++ (t ++ l))
theorem lkL {c : Nat} {l : List Nat} (h : isL c = true) : lkind (c :: l) = "word" := by
  rw [lkind_cons, if_neg (L_not39 h), if_pos h]
theorem lkF {c : Nat} {l : List Nat} (h : isF c = true) : lkind (c :: l) = "number" := by
  rw [lkind_cons, if_neg (F_not39 h).1, if_neg (by rw [(F_not39 h).2.2]; exact Bool.noConfusion), if_pos h]
theorem lkQ {l : List Nat} : lkind (39 :: l) = "quoted" := by
  rw [lkind_cons, if_pos rfl]
theorem lkP {c : Nat} {l : List Nat} (h1 : isL c = false) (h2 : isF c = false) (h3 : c ≠ 39) : lkind (c :: l) = "sign" := by
  rw [lkind_cons, if_neg h3, if_neg (by rw [h1]; exact Bool.noConfusion), if_neg (by rw [h2]; exact Bool.noConfusion)]
theorem stop_iff {c e : Nat} {l m : List Nat} : stopT (c :: l) e ↔ joinT (c :: l) (e :: m) = false := by
  have cl : ∀ x : Nat, isL x = true ∨ (isL x = false ∧ isF x = true) ∨ x = 39 ∨ (isL x = false ∧ isF x = false ∧ x ≠ 39) := fun x => by
    cases h1 : isL x with
    | true => exact .inl rfl
    | false =>
      cases h2 : isF x with
      | true => exact .inr (.inl ⟨rfl, rfl⟩)
      | false =>
        by_cases h3 : x = 39
        · exact .inr (.inr (.inl h3))
        · exact .inr (.inr (.inr ⟨rfl, rfl, h3⟩))
  have l39 : isL 39 = false := by decide
  have f39 : isF 39 = false := by decide
  unfold joinT stopT
  rcases cl c with h | ⟨h, h'⟩ | rfl | ⟨h, h', h''⟩
  · rw [lkL h]
    have hf := L_notF h
    rcases cl e with g | ⟨g, g'⟩ | rfl | ⟨g, g', g''⟩
    · rw [lkL g]
      refine ⟨fun z => ?_, fun z => absurd z (by decide +kernel)⟩
      have := z.1 (.inl h)
      rw [g] at this; cases this
    · rw [lkF g']
      exact ⟨fun _ => by decide +kernel, fun _ => ⟨fun _ => g, fun z => by rw [hf] at z; cases z⟩⟩
    · rw [lkQ]
      exact ⟨fun _ => by decide +kernel, fun _ => ⟨fun _ => l39, fun z => by rw [hf] at z; cases z⟩⟩
    · rw [lkP g g' g'']
      exact ⟨fun _ => by decide +kernel, fun _ => ⟨fun _ => g, fun z => by rw [hf] at z; cases z⟩⟩
  · rw [lkF h']
    have h39 := (F_not39 h').1
    have no : ¬ (isL c = true ∨ c = 39) := fun z => z.elim (fun y => by rw [h] at y; cases y) h39
    rcases cl e with g | ⟨g, g'⟩ | rfl | ⟨g, g', g''⟩
    · rw [lkL g]
      exact ⟨fun _ => by decide +kernel, fun _ => ⟨fun z => absurd z no, fun _ => L_notF g⟩⟩
    · rw [lkF g']
      refine ⟨fun z => ?_, fun z => absurd z (by decide +kernel)⟩
      have := z.2 h'
      rw [g'] at this; cases this
    · rw [lkQ]
      exact ⟨fun _ => by decide +kernel, fun _ => ⟨fun z => absurd z no, fun _ => f39⟩⟩
    · rw [lkP g g' g'']
      exact ⟨fun _ => by decide +kernel, fun _ => ⟨fun z => absurd z no, fun _ => g'⟩⟩
  · rw [lkQ]
    rcases cl e with g | ⟨g, g'⟩ | rfl | ⟨g, g', g''⟩
    · rw [lkL g]
      refine ⟨fun z => ?_, fun z => absurd z (by decide +kernel)⟩
      have := z.1 (.inr rfl)
      rw [g] at this; cases this
    · rw [lkF g']
      exact ⟨fun _ => by decide +kernel, fun _ => ⟨fun _ => g, fun z => by rw [f39] at z; cases z⟩⟩
    · rw [lkQ]
      exact ⟨fun _ => by decide +kernel, fun _ => ⟨fun _ => l39, fun z => by rw [f39] at z; cases z⟩⟩
    · rw [lkP g g' g'']
      exact ⟨fun _ => by decide +kernel, fun _ => ⟨fun _ => g, fun z => by rw [f39] at z; cases z⟩⟩
  · rw [lkP h h' h'']
    have no : ¬ (isL c = true ∨ c = 39) := fun z => z.elim (fun y => by rw [h] at y; cases y) h''
    refine ⟨fun _ => ?_, fun _ => ⟨fun z => absurd z no, fun z => by rw [h'] at z; cases z⟩⟩
    rcases lkind_cases (e :: m) with g | g | g | g <;> rw [g] <;> decide +kernel
theorem stop32 (c : Nat) (l : List Nat) : stopT (c :: l) 32 := ⟨fun _ => by decide, fun _ => by decide⟩
theorem need_le (p : Option (List Nat)) (t : List Nat) : need p t ≤ 1 := by
  cases p with
  | none => exact Nat.zero_le _
  | some q => show (if joinT q t = true then 1 else 0) ≤ 1; split <;> omega
theorem need0 {q t : List Nat} (h : need (some q) t ≤ 0) : joinT q t = false := by
  have h' : (if joinT q t = true then 1 else 0) ≤ 0 := h
  cases e : joinT q t with
  | true => rw [e, if_pos rfl] at h'; omega
  | false => rfl
theorem gap_head {t : List Nat} {ts : List (List Nat)} {l : List Nat} (g : Gap (some t) ts l) (ht : Tk t) (hts : ∀ u ∈ ts, Tk u) : ∀ e r', l = e :: r' → stopT t e := by
  obtain ⟨c, m, rfl, _⟩ := tk_cons ht
  intro e r' h
  cases g with
  | nil k =>
    cases k with
    | zero => cases h
    | succ k =>
      rw [List.replicate_succ] at h
      rw [← (List.cons.inj h).1]
      exact stop32 c m
  | @cons _ u us r k hk g =>
    cases k with
    | succ k =>
      rw [List.replicate_succ, List.cons_append] at h
      rw [← (List.cons.inj h).1]
      exact stop32 c m
    | zero =>
      obtain ⟨e', m', rfl, _⟩ := tk_cons (hts u List.mem_cons_self)
      have h : e' :: (m' ++ r) = e :: r' := h
      rw [← (List.cons.inj h).1]
      exact stop_iff.mpr (need0 hk)
theorem gap_cut {p : Option (List Nat)} {ts : List (List Nat)} {l : List Nat} (g : Gap p ts l) : (∀ u ∈ ts, Tk u) → cutL l = ts := by
  induction g with
  | nil k =>
    intro _
    have := cut_sps [] k
    rw [List.append_nil] at this
    rw [this]
    rfl
  | @cons p t ts l k hk g ih =>
    intro h
    rw [cut_sps, cut_tok (h t List.mem_cons_self) (gap_head g (h t List.mem_cons_self) fun u hu => h u (List.mem_cons_of_mem _ hu)), ih fun u hu => h u (List.mem_cons_of_mem _ hu)]
theorem lineL_gap : ∀ (l : List (List Nat)) (p : Option (List Nat)) (gs : List Nat), Gap p l (lineL p l gs)
  | [], p, gs => .nil _
  | t :: l, p, gs => .cons _ (by omega) (lineL_gap l (some t) gs.tail)
theorem join_gap : ∀ (ts : List (List Nat)) (t : List Nat) (p : Option (List Nat)) (k : Nat), need p t ≤ k → Gap p (t :: ts) (List.replicate k 32 ++ TL.joinL [32] (t :: ts))
  | [], t, p, k, h => by
    have := Gap.cons (p := p) (t := t) k h (Gap.nil (p := some t) 0)
    rw [show List.replicate 0 32 = ([] : List Nat) from rfl, List.append_nil] at this
    exact this
  | u :: us, t, p, k, h => Gap.cons k h (join_gap us u (some t) 1 (need_le _ _))
theorem gap_sp {p : Option (List Nat)} {ts : List (List Nat)} {l : List Nat} (g : Gap none ts l) : Gap p ts (32 :: l) := by
  cases g with
  | nil k => exact Gap.nil (k + 1)
  | @cons _ t ts l k _ g => exact Gap.cons (k + 1) (by have := need_le p t; omega) g
theorem tok_max {c : Nat} {l : List Nat} {e : Nat} {r : List Nat} (h : (c :: l).drop (tokLen (c :: l)) = e :: r) : stopT ((c :: l).take (tokLen (c :: l))) e := by
  obtain ⟨n, hn⟩ : ∃ n, tokLen (c :: l) = n + 1 := ⟨tokLen (c :: l) - 1, by have := tokLen_pos c l; omega⟩
  have key : stopT (c :: l.take n) e := by
    rw [tokLen_cons] at h
    by_cases h1 : c ∈ LET
    · rw [if_pos h1] at h
      have h2 := runLen_max h
      refine ⟨fun _ => ?_, fun z => ?_⟩
      · cases q : isL e with
        | false => rfl
        | true => exact absurd (memL.mpr q) h2
      · rw [L_notF (memL.mp h1)] at z; cases z
    rw [if_neg h1] at h
    by_cases h2 : c ∈ FIG
    · rw [if_pos h2] at h
      have h3 := runLen_max h
      refine ⟨fun z => ?_, fun z => ?_⟩
      · rcases z with z | z
        · exact absurd (memL.mpr z) h1
        · exact absurd z (F_not39 (memF.mp h2)).1
      · cases q : isF e with
        | false => rfl
        | true => exact absurd (memF.mpr q) h3
    rw [if_neg h2] at h
    by_cases h3 : c = 39
    · rw [if_pos h3] at h
      have h4 := runLen_max (show l.drop (runLen LET l) = e :: r from h)
      refine ⟨fun _ => ?_, fun z => absurd (memF.mpr z) h2⟩
      cases q : isL e with
      | false => rfl
      | true => exact absurd (memL.mpr q) h4
    · exact ⟨fun z => z.elim (fun y => absurd (memL.mpr y) h1) fun y => absurd y h3, fun z => absurd (memF.mpr z) h2⟩
  rw [hn, List.take_succ_cons]
  exact key
theorem take_tk {c : Nat} {l : List Nat} (hc : c ≠ 32) : Tk ((c :: l).take (tokLen (c :: l))) := by
  rw [tokLen_cons]
  by_cases h1 : c ∈ LET
  · rw [if_pos h1]
    have h := runLen_all (y := LET) (l := c :: l)
    rw [runLen_cons, if_pos h1, List.take_succ_cons] at h ⊢
    exact .w (memL.mp h1) fun x hx => memL.mp (h x (List.mem_cons_of_mem _ hx))
  rw [if_neg h1]
  by_cases h2 : c ∈ FIG
  · rw [if_pos h2]
    have h := runLen_all (y := FIG) (l := c :: l)
    rw [runLen_cons, if_pos h2, List.take_succ_cons] at h ⊢
    exact .n (memF.mp h2) fun x hx => memF.mp (h x (List.mem_cons_of_mem _ hx))
  rw [if_neg h2]
  by_cases h3 : c = 39
  · rw [if_pos h3, List.take_succ_cons, h3]
    exact .q fun x hx => memL.mp (runLen_all x hx)
  · rw [if_neg h3]
    refine .p ?_ ?_ h3 hc
    · cases q : isL c with
      | false => rfl
      | true => exact absurd (memL.mpr q) h1
    · cases q : isF c with
      | false => rfl
      | true => exact absurd (memF.mpr q) h2
theorem cut_gap : ∀ (n : Nat) (l : List Nat), l.length ≤ n → (∀ t ∈ cutL l, Tk t) ∧ ∀ p : Option (List Nat), (∀ q e r, p = some q → l = e :: r → e ≠ 32 → stopT q e) → Gap p (cutL l) l
  | _, [], _ => ⟨fun t h => (by cases h), fun p _ => Gap.nil 0⟩
  | 0, c :: l, h => by simp at h
  | n + 1, c :: l, h => by
    have hl : l.length ≤ n := by simpa using h
    by_cases hc : c = 32
    · subst hc
      rw [cut_sp]
      obtain ⟨h1, h2⟩ := cut_gap n l hl
      exact ⟨h1, fun p _ => gap_sp (h2 none fun q e r z => by cases z)⟩
    · have hp := tokLen_pos c l
      have hd : ((c :: l).drop (tokLen (c :: l))).length ≤ n := by
        rw [List.length_drop, List.length_cons]
        omega
      obtain ⟨h1, h2⟩ := cut_gap n _ hd
      have e := cutL_cons c l
      rw [if_neg hc] at e
      rw [e]
      have ht := take_tk (l := l) hc
      refine ⟨fun t hh => ?_, fun p hpp => ?_⟩
      · rcases List.mem_cons.mp (show t ∈ (c :: l).take (tokLen (c :: l)) :: cutL ((c :: l).drop (tokLen (c :: l))) from hh) with z | z
        · rw [z]; exact ht
        · exact h1 t z
      · have g := h2 (some ((c :: l).take (tokLen (c :: l)))) fun q e r z1 z2 _ => by
          cases z1
          exact tok_max z2
        have hn0 : need p ((c :: l).take (tokLen (c :: l))) ≤ 0 := by
          cases p with
          | none => exact Nat.le_refl _
          | some q =>
            have hs := hpp q c l rfl rfl hc
            show (if joinT q _ = true then 1 else 0) ≤ 0
            obtain ⟨m, hm⟩ : ∃ m, tokLen (c :: l) = m + 1 := ⟨tokLen (c :: l) - 1, by omega⟩
            rw [hm, List.take_succ_cons]
            cases q with
            | nil => exact hs.elim
            | cons a q =>
              rw [stop_iff.mp hs]
              exact Nat.le_refl _
        have := Gap.cons 0 hn0 g
        rw [show List.replicate 0 32 = ([] : List Nat) from rfl, List.nil_append, List.take_append_drop] at this
        exact this
theorem gap_all (l : List Nat) : Gap none (cutL l) l := (cut_gap l.length l (Nat.le_refl _)).2 none fun q e r z => by cases z
theorem tk_all (l : List Nat) : ∀ t ∈ cutL l, Tk t := (cut_gap l.length l (Nat.le_refl _)).1
theorem gap_len {p : Option (List Nat)} {ts : List (List Nat)} {l : List Nat} (g : Gap p ts l) : ∀ zs : List Nat, (∀ z ∈ zs, z = 0) → (lineL p ts zs).length ≤ l.length := by
  have hd : ∀ zs : List Nat, (∀ z ∈ zs, z = 0) → zs.headD 0 = 0 := fun zs h => by
    cases zs with
    | nil => rfl
    | cons z zs => exact h z List.mem_cons_self
  induction g with
  | nil k =>
    intro zs hz
    show (List.replicate (zs.headD 0) 32).length ≤ _
    rw [hd zs hz]
    exact Nat.zero_le _
  | @cons p t ts l k hk g ih =>
    intro zs hz
    show (List.replicate (zs.headD 0 + need p t) 32 ++ (t ++ lineL (some t) ts zs.tail)).length ≤ _
    have := ih zs.tail fun z h => hz z (List.mem_of_mem_tail h)
    rw [hd zs hz, List.length_append, List.length_append, List.length_append, List.length_append, List.length_replicate, List.length_replicate]
    omega
/-! scanned is cut -/
theorem fold_letters : ∀ (ls u : List Nat) (fd : List (List Nat)) (r : Nat), (∀ x ∈ ls, isL x = true) → (r = 97 ∨ r = 39) → ls.foldl scStep (fd ++ [u], r) = (fd ++ [u ++ ls], if ls = [] then r else 97)
  | [], u, fd, r, _, _ => by rw [List.append_nil, if_pos rfl]; rfl
  | x :: ls, u, fd, r, h, hr => by
    have hx := h x List.mem_cons_self
    have hg : grp x = 97 := by unfold grp; rw [if_pos hx]
    have e : scStep (fd ++ [u], r) x = (fd ++ [u ++ [x]], 97) := by
      unfold scStep
      rw [hg]
      have hif : ((97 = r ∧ (97 = 97 ∨ 97 = 48)) ∨ (97 = 97 ∧ r = 39)) := by
        rcases hr with z | z
        · exact .inl ⟨z.symm, .inl rfl⟩
        · exact .inr ⟨rfl, z⟩
      show (if ((97 = r ∧ (97 = 97 ∨ 97 = 48)) ∨ (97 = 97 ∧ r = 39)) then _ else _, 97) = _
      rw [if_pos hif]
      simp
    rw [List.foldl_cons, e, fold_letters ls _ fd 97 (fun y hy => h y (List.mem_cons_of_mem _ hy)) (.inl rfl), List.append_assoc]
    simp
theorem fold_figs : ∀ (ls u : List Nat) (fd : List (List Nat)), (∀ x ∈ ls, isF x = true) → ls.foldl scStep (fd ++ [u], 48) = (fd ++ [u ++ ls], 48)
  | [], u, fd, _ => by rw [List.append_nil]; rfl
  | x :: ls, u, fd, h => by
    have hx := h x List.mem_cons_self
    have hg : grp x = 48 := by unfold grp; rw [if_neg (by rw [(F_not39 hx).2.2]; exact Bool.noConfusion), if_pos hx]
    have e : scStep (fd ++ [u], 48) x = (fd ++ [u ++ [x]], 48) := by
      unfold scStep
      rw [hg]
      show (if ((48 = 48 ∧ (48 = 97 ∨ 48 = 48)) ∨ (48 = 97 ∧ 48 = 39)) then _ else _, 48) = _
      rw [if_pos (.inl ⟨rfl, .inr rfl⟩)]
      simp
    rw [List.foldl_cons, e, fold_figs ls _ fd (fun y hy => h y (List.mem_cons_of_mem _ hy)), List.append_assoc]
    simp
/-- the run behind a piece -/
def endRun : List Nat → Nat
  | [] => 32
  | c :: l => if isL c = true then 97 else if isF c = true then 48 else if c = 39 then (if l = [] then 39 else 97) else c
theorem fold_piece {t : List Nat} (h : Tk t) (fd : List (List Nat)) (run : Nat) (hno : ∀ c l, t = c :: l → ¬ ((grp c = run ∧ (grp c = 97 ∨ grp c = 48)) ∨ (grp c = 97 ∧ run = 39))) : t.foldl scStep (fd, run) = (fd ++ [t], endRun t) := by
  have step : ∀ c l, t = c :: l → c ≠ 32 → scStep (fd, run) c = (fd ++ [[c]], grp c) := fun c l e hc => by
    unfold scStep
    rw [if_neg (hno c l e), if_neg (fun z => hc z.2)]
  cases h with
  | @w c l h1 h2 =>
    have hg : grp c = 97 := by unfold grp; rw [if_pos h1]
    rw [List.foldl_cons, step c l rfl (L_not32 h1), hg, fold_letters l [c] fd 97 h2 (.inl rfl)]
    show _ = (_, if isL c = true then 97 else _)
    rw [if_pos h1]
    simp
  | @n c l h1 h2 =>
    have h3 := F_not39 h1
    have hg : grp c = 48 := by unfold grp; rw [if_neg (by rw [h3.2.2]; exact Bool.noConfusion), if_pos h1]
    rw [List.foldl_cons, step c l rfl h3.2.1, hg, fold_figs l [c] fd h2]
    show _ = (_, if isL c = true then 97 else if isF c = true then 48 else _)
    rw [if_neg (by rw [h3.2.2]; exact Bool.noConfusion), if_pos h1]
    simp
  | @q l h1 =>
    have hg : grp 39 = 39 := by decide
    rw [List.foldl_cons, step 39 l rfl (by decide), hg, fold_letters l [39] fd 39 h1 (.inr rfl)]
    rfl
  | @p c h1 h2 h3 h4 =>
    have hg : grp c = c := by unfold grp; rw [if_neg (by rw [h1]; exact Bool.noConfusion), if_neg (by rw [h2]; exact Bool.noConfusion)]
    rw [List.foldl_cons, step c [] rfl h4, hg]
    show _ = (_, if isL c = true then 97 else if isF c = true then 48 else if c = 39 then _ else c)
    rw [if_neg (by rw [h1]; exact Bool.noConfusion), if_neg (by rw [h2]; exact Bool.noConfusion), if_neg h3]
    rfl
theorem fold_sps (fd : List (List Nat)) : ∀ (k run : Nat), (List.replicate k 32).foldl scStep (fd, run) = (fd, if k = 0 then run else 32)
  | 0, run => rfl
  | k + 1, run => by
    have e : scStep (fd, run) 32 = (fd, 32) := by
      unfold scStep
      have hg : grp 32 = 32 := by decide
      rw [hg, if_neg (by omega), if_pos ⟨rfl, rfl⟩]
    rw [List.replicate_succ, List.foldl_cons, e, fold_sps fd k 32]
    simp
theorem endRun_no {q t : List Nat} (hq : Tk q) (ht : Tk t) (h : joinT q t = false) : ∀ c l, t = c :: l → ¬ ((grp c = endRun q ∧ (grp c = 97 ∨ grp c = 48)) ∨ (grp c = 97 ∧ endRun q = 39)) := by
  intro c l e z
  subst e
  obtain ⟨a, m, rfl, _⟩ := tk_cons hq
  have hs := stop_iff.mpr h
  have g97 : grp c = 97 → isL c = true := fun g => by
    rcases grp_cases c with ⟨x, _⟩ | ⟨_, _, x⟩ | ⟨x, _, y⟩
    · exact x
    · omega
    · rw [g] at y; rw [← y] at x; exact absurd x (by decide)
  have g48 : grp c = 48 → isF c = true := fun g => by
    rcases grp_cases c with ⟨_, x⟩ | ⟨_, x, _⟩ | ⟨_, x, y⟩
    · omega
    · exact x
    · rw [g] at y; rw [← y] at x; exact absurd x (by decide)
  have r1 : (endRun (a :: m) = 97 ∨ endRun (a :: m) = 39) → (isL a = true ∨ a = 39) := fun hr => by
    cases hL : isL a with
    | true => exact .inl rfl
    | false =>
      by_cases h39 : a = 39
      · exact .inr h39
      · have : endRun (a :: m) = (if isF a = true then 48 else a) := by
          show (if isL a = true then 97 else if isF a = true then 48 else if a = 39 then _ else a) = _
          rw [if_neg (by rw [hL]; exact Bool.noConfusion), if_neg h39]
        rw [this] at hr
        split at hr
        · omega
        · rcases hr with z | z
          · rw [z] at hL; exact absurd hL (by decide)
          · exact absurd z h39
  have r2 : endRun (a :: m) = 48 → isF a = true := fun hr => by
    cases hF : isF a with
    | true => rfl
    | false =>
      have : endRun (a :: m) = (if isL a = true then 97 else if a = 39 then (if m = [] then 39 else 97) else a) := by
        show (if isL a = true then 97 else if isF a = true then 48 else if a = 39 then _ else a) = _
        rw [hF]
        rfl
      rw [this] at hr
      split at hr
      · omega
      · split at hr
        · split at hr <;> omega
        · rw [hr] at hF; exact absurd hF (by decide)
  rcases z with ⟨z1, z2 | z2⟩ | ⟨z1, z2⟩
  · have := hs.1 (r1 (.inl (by rw [← z1, z2])))
    rw [g97 z2] at this; cases this
  · have := hs.2 (r2 (by rw [← z1, z2]))
    rw [g48 z2] at this; cases this
  · have := hs.1 (r1 (.inr z2))
    rw [g97 z1] at this; cases this
theorem fold_gap {p : Option (List Nat)} {ts : List (List Nat)} {l : List Nat} (g : Gap p ts l) : ∀ (fd : List (List Nat)) (run : Nat), (∀ u ∈ ts, Tk u) → (p = none → run = 32) → (∀ q, p = some q → Tk q ∧ run = endRun q) → (l.foldl scStep (fd, run)).1 = fd ++ ts := by
  induction g with
  | nil k =>
    intro fd run _ _ _
    rw [fold_sps, List.append_nil]
  | @cons p t ts l k hk g ih =>
    intro fd run h h1 h2
    have ht := h t List.mem_cons_self
    rw [List.foldl_append, fold_sps, List.foldl_append, fold_piece ht]
    · rw [ih (fd ++ [t]) (endRun t) (fun u hu => h u (List.mem_cons_of_mem _ hu)) (fun z => by cases z) (fun q z => by cases z; exact ⟨ht, rfl⟩), List.append_assoc]
      rfl
    · intro c m e z
      by_cases hk0 : k = 0
      · rw [if_pos hk0] at z
        cases p with
        | none =>
          rw [h1 rfl] at z
          omega
        | some q =>
          obtain ⟨hq, hr⟩ := h2 q rfl
          rw [hr] at z
          exact endRun_no hq ht (need0 (by omega)) c m e z
      · rw [if_neg hk0] at z
        omega
theorem scan_cut (l : List Nat) : scanL l = cutL l := by
  have := fold_gap (gap_all l) [] 32 (tk_all l) (fun _ => rfl) fun q z => by cases z
  exact this
end K2
namespace K2
open PySem L2 Kr
/-! ### tokens of the program and of the law -/
theorem sg_facts : ∀ c ∈ SG, isL c = false ∧ isF c = false ∧ c ≠ 39 ∧ c ≠ 32 ∧ isTok (.str (S [c])) = true := by decide +kernel
theorem sgn_sub : ∀ c ∈ SGN, c ∈ SG := by decide +kernel
theorem only_let {t : List Nat} (h : hasOnly t LET = true) : ∀ x ∈ t, isL x = true := fun x hx => by
  unfold hasOnly at h
  rw [List.all_eq_true] at h
  exact memL.mp (of_decide_eq_true (h x hx))
theorem only_fig {t : List Nat} (h : hasOnly t FIG = true) : ∀ x ∈ t, isF x = true := fun x hx => by
  unfold hasOnly at h
  rw [List.all_eq_true] at h
  exact memF.mp (of_decide_eq_true (h x hx))
theorem word_S {t : List Nat} (h : isRun (.str (S t)) LET = true) : ∃ c l, t = c :: l ∧ isL c = true ∧ (∀ x ∈ l, isL x = true) ∧ t.length ≤ 8 := by
  obtain ⟨x, e, h1, h2, h3⟩ := run_str h
  cases e
  rw [S_len] at h1 h2
  have h3 : hasOnly t LET = true := h3
  cases t with
  | nil => cases h1
  | cons c l => exact ⟨c, l, rfl, only_let h3 c List.mem_cons_self, fun x hx => only_let h3 x (List.mem_cons_of_mem _ hx), h2⟩
theorem num_S {t : List Nat} (h : isRun (.str (S t)) FIG = true) : ∃ c l, t = c :: l ∧ isF c = true ∧ (∀ x ∈ l, isF x = true) ∧ t.length ≤ 8 := by
  obtain ⟨x, e, h1, h2, h3⟩ := run_str h
  cases e
  rw [S_len] at h1 h2
  have h3 : hasOnly t FIG = true := h3
  cases t with
  | nil => cases h1
  | cons c l => exact ⟨c, l, rfl, only_fig h3 c List.mem_cons_self, fun x hx => only_fig h3 x (List.mem_cons_of_mem _ hx), h2⟩
theorem kstr_of {x k : Str} (h : kindS x = .str k) : kstr x = k := by
  unfold kstr
  rw [h]
theorem tok_kind {t : List Nat} (h : isTok (.str (S t)) = true) : Tk t ∧ ((lkind t = "word" ∧ kstr (S t) = "word" ∧ isWord (.str (S t)) = true) ∨ (lkind t = "number" ∧ kstr (S t) = "number" ∧ isNum (.str (S t)) = true) ∨
    (lkind t = "quoted" ∧ kstr (S t) = "quoted" ∧ ∃ l, t = 39 :: l ∧ isWord (.str (S l)) = true) ∨ (lkind t = "sign" ∧ (kstr (S t) = "open" ∨ kstr (S t) = "close" ∨ kstr (S t) = "sign") ∧ ∃ c, t = [c] ∧ c ∈ SG)) := by
  have h : (!(kindS (S t)).isNon) = true := h
  by_cases h1 : isWord (.str (S t)) = true
  · have e : kindS (S t) = .str "word" := by unfold kindS; rw [if_pos h1]
    obtain ⟨c, l, rfl, a, b, _⟩ := word_S h1
    exact ⟨.w a b, .inl ⟨lkL a, kstr_of e, h1⟩⟩
  by_cases h2 : isNum (.str (S t)) = true
  · have e : kindS (S t) = .str "number" := by unfold kindS; rw [if_neg h1, if_pos h2]
    obtain ⟨c, l, rfl, a, b, _⟩ := num_S (show isRun (.str (S t)) FIG = true by unfold isNum at h2; rw [Bool.and_eq_true] at h2; exact h2.1)
    exact ⟨.n a b, .inr (.inl ⟨lkF a, kstr_of e, h2⟩)⟩
  by_cases h3 : S t = Str.ofString ""
  · have e : kindS (S t) = .non := by unfold kindS; rw [if_neg h1, if_neg h2, if_pos h3]
    rw [e] at h; cases h
  have sg : ∀ c, t = [c] → c ∈ SG → Tk t ∧ lkind t = "sign" := fun c e hc => by
    obtain ⟨a, b, d, f, _⟩ := sg_facts c hc
    subst e
    exact ⟨.p a b d f, lkP a b d⟩
  by_cases h4 : S t = Str.ofString "("
  · have e : kindS (S t) = .str "open" := by unfold kindS; rw [if_neg h1, if_neg h2, if_neg h3, if_pos h4]
    have et : t = [40] := str_inj.mp h4
    obtain ⟨a, b⟩ := sg 40 et (by decide +kernel)
    exact ⟨a, .inr (.inr (.inr ⟨b, .inl (kstr_of e), 40, et, by decide +kernel⟩))⟩
  by_cases h5 : S t = Str.ofString ")"
  · have e : kindS (S t) = .str "close" := by unfold kindS; rw [if_neg h1, if_neg h2, if_neg h3, if_neg h4, if_pos h5]
    have et : t = [41] := str_inj.mp h5
    obtain ⟨a, b⟩ := sg 41 et (by decide +kernel)
    exact ⟨a, .inr (.inr (.inr ⟨b, .inr (.inl (kstr_of e)), 41, et, by decide +kernel⟩))⟩
  by_cases h6 : (decide ((S t).length = 1) && hasOnly (S t).cps.toList SGN) = true
  · have e : kindS (S t) = .str "sign" := by unfold kindS; rw [if_neg h1, if_neg h2, if_neg h3, if_neg h4, if_neg h5, if_pos h6]
    rw [Bool.and_eq_true, decide_eq_true_eq, S_len] at h6
    obtain ⟨c, et⟩ : ∃ c, t = [c] := List.length_eq_one_iff.mp h6.1
    have hc : c ∈ SGN := by
      have q : hasOnly t SGN = true := h6.2
      rw [et] at q
      unfold hasOnly at q
      rw [List.all_cons, Bool.and_eq_true] at q
      exact of_decide_eq_true q.1
    obtain ⟨a, b⟩ := sg c et (sgn_sub c hc)
    exact ⟨a, .inr (.inr (.inr ⟨b, .inr (.inr (kstr_of e)), c, et, sgn_sub c hc⟩))⟩
  by_cases h7 : (decide ((S t).cps.toList.head? = some 39) && isWord (.str ⟨(S t).cps.toList.tail.toArray⟩)) = true
  · have e : kindS (S t) = .str "quoted" := by unfold kindS; rw [if_neg h1, if_neg h2, if_neg h3, if_neg h4, if_neg h5, if_neg h6, if_pos h7]
    rw [Bool.and_eq_true, decide_eq_true_eq] at h7
    have h8 : t.head? = some 39 := h7.1
    cases t with
    | nil => cases h8
    | cons c l =>
      have hc : c = 39 := Option.some.inj h8
      subst hc
      have hw : isWord (.str (S l)) = true := h7.2
      obtain ⟨c, m, rfl, a, b, _⟩ := word_S hw
      refine ⟨.q fun x hx => ?_, .inr (.inr (.inl ⟨lkQ, kstr_of e, _, rfl, hw⟩))⟩
      rcases List.mem_cons.mp hx with z | z
      · rw [z]; exact a
      · exact b x z
  · have e : kindS (S t) = .non := by unfold kindS; rw [if_neg h1, if_neg h2, if_neg h3, if_neg h4, if_neg h5, if_neg h6, if_neg h7]
    rw [e] at h; cases h
theorem together_join {a b : List Nat} (ha : isTok (.str (S a)) = true) (hb : isTok (.str (S b)) = true) : together (S a) (S b) = joinT a b := by
  have key : ∀ {t : List Nat}, isTok (.str (S t)) = true → (lkind t = "word" ∧ kstr (S t) = "word") ∨ (lkind t = "number" ∧ kstr (S t) = "number") ∨ (lkind t = "quoted" ∧ kstr (S t) = "quoted") ∨ (lkind t = "sign" ∧ kstr (S t) = "open") ∨ (lkind t = "sign" ∧ kstr (S t) = "close") ∨ (lkind t = "sign" ∧ kstr (S t) = "sign") := fun {t} h => by
    rcases (tok_kind h).2 with ⟨x, y, _⟩ | ⟨x, y, _⟩ | ⟨x, y, _⟩ | ⟨x, y | y | y, _⟩
    · exact .inl ⟨x, y⟩
    · exact .inr (.inl ⟨x, y⟩)
    · exact .inr (.inr (.inl ⟨x, y⟩))
    · exact .inr (.inr (.inr (.inl ⟨x, y⟩)))
    · exact .inr (.inr (.inr (.inr (.inl ⟨x, y⟩))))
    · exact .inr (.inr (.inr (.inr (.inr ⟨x, y⟩))))
  unfold together joinT
  rcases key ha with ⟨x, y⟩ | ⟨x, y⟩ | ⟨x, y⟩ | ⟨x, y⟩ | ⟨x, y⟩ | ⟨x, y⟩ <;> rcases key hb with ⟨x', y'⟩ | ⟨x', y'⟩ | ⟨x', y'⟩ | ⟨x', y'⟩ | ⟨x', y'⟩ | ⟨x', y'⟩ <;> rw [x, y, x', y'] <;> decide +kernel
theorem good_tok {t : List Nat} (h : Tk t) : goodL t = isTok (.str (S t)) := by
  have flt : ∀ {l : List Nat}, (∀ x ∈ l, isL x = true) → (l.filter fun x => !decide (x = 39)) = l := fun {l} hl => List.filter_eq_self.mpr fun x hx => by
    have := L_not39 (hl x hx)
    simp [this]
  cases h with
  | @w c l h1 h2 =>
    have hall : ∀ x ∈ c :: l, isL x = true := fun x hx => by
      rcases List.mem_cons.mp hx with z | z
      · rw [z]; exact h1
      · exact h2 x z
    rw [goodL_cons, if_pos (.inl h1), flt hall]
    by_cases hn : (c :: l).length < 9
    · rw [word_tok (run_of (by simp) (by omega) fun x hx => memL.mpr (hall x hx)), decide_eq_true hn, decide_eq_true (show 0 < (c :: l).length by simp)]
      rfl
    · rw [decide_eq_false hn, Bool.and_false]
      cases e : isTok (.str (S (c :: l))) with
      | false => rfl
      | true =>
        have k := lkL (l := l) h1
        rcases (tok_kind e).2 with ⟨_, _, z⟩ | ⟨x, _⟩ | ⟨x, _⟩ | ⟨x, _⟩
        · obtain ⟨_, _, _, _, _, q⟩ := word_S z
          exact absurd q (by omega)
        · rw [k] at x; exact absurd x (by decide +kernel)
        · rw [k] at x; exact absurd x (by decide +kernel)
        · rw [k] at x; exact absurd x (by decide +kernel)
  | @n c l h1 h2 =>
    have h3 := F_not39 h1
    have hall : ∀ x ∈ c :: l, isF x = true := fun x hx => by
      rcases List.mem_cons.mp hx with z | z
      · rw [z]; exact h1
      · exact h2 x z
    have hno : ¬ (isL c = true ∨ c = 39) := fun z => z.elim (fun y => by rw [h3.2.2] at y; cases y) h3.1
    rw [goodL_cons, if_neg hno, if_pos h1]
    have hn : (decide (S (c :: l) = Str.ofString "0") || (!decide (c = 48) && decide ((c :: l).length < 9))) = isNum (.str (S (c :: l))) := by
      show _ = (isRun (.str (S (c :: l))) FIG && (decide (S (c :: l) = Str.ofString "0") || !decide ((c :: l).head? = some 48)))
      have eh : decide ((c :: l).head? = some 48) = decide (c = 48) := by simp
      rw [eh]
      by_cases hl : (c :: l).length < 9
      · rw [run_of (by simp) (by omega) fun x hx => memF.mpr (hall x hx), decide_eq_true hl, Bool.and_true, Bool.true_and]
      · have hr : isRun (.str (S (c :: l))) FIG = false := by
          cases e : isRun (.str (S (c :: l))) FIG with
          | false => rfl
          | true =>
            obtain ⟨_, _, _, _, _, q⟩ := num_S e
            exact absurd q (by omega)
        have h0 : ¬ S (c :: l) = Str.ofString "0" := fun z => by
          have : c :: l = [48] := str_inj.mp z
          rw [this] at hl
          exact hl (by decide)
        rw [hr, decide_eq_false hl, Bool.and_false, decide_eq_false h0]
        rfl
    rw [hn]
    cases e : isTok (.str (S (c :: l))) with
    | true =>
      have k := lkF (l := l) h1
      rcases (tok_kind e).2 with ⟨x, _⟩ | ⟨_, _, z⟩ | ⟨x, _⟩ | ⟨x, _⟩
      · rw [k] at x; exact absurd x (by decide +kernel)
      · exact z
      · rw [k] at x; exact absurd x (by decide +kernel)
      · rw [k] at x; exact absurd x (by decide +kernel)
    | false =>
      cases e2 : isNum (.str (S (c :: l))) with
      | false => rfl
      | true => rw [num_tok e2] at e; cases e
  | @q l h1 =>
    have ef : ((39 :: l).filter fun x => !decide (x = 39)) = l := by
      rw [List.filter_cons_of_neg (by decide), flt h1]
    rw [goodL_cons, if_pos (.inr rfl), ef]
    by_cases hn : 0 < l.length ∧ l.length < 9
    · rw [decide_eq_true hn.1, decide_eq_true hn.2, quote_tok (run_of (by omega) (by omega) fun x hx => memL.mpr (h1 x hx)) (by omega)]
      rfl
    · have e1 : (decide (0 < l.length) && decide (l.length < 9)) = false := by
        rw [Bool.and_eq_false_iff, decide_eq_false_iff_not, decide_eq_false_iff_not]
        omega
      rw [e1]
      cases e : isTok (.str (S (39 :: l))) with
      | false => rfl
      | true =>
        rcases (tok_kind e).2 with ⟨x, _⟩ | ⟨x, _⟩ | ⟨_, _, m, z1, z2⟩ | ⟨x, _⟩
        · rw [lkQ] at x; exact absurd x (by decide +kernel)
        · rw [lkQ] at x; exact absurd x (by decide +kernel)
        · have : l = m := (List.cons.inj z1).2
          subst this
          obtain ⟨_, _, e3, _, _, q⟩ := word_S z2
          exact absurd ⟨by rw [e3]; simp, by omega⟩ hn
        · rw [lkQ] at x; exact absurd x (by decide +kernel)
  | @p c h1 h2 h3 h4 =>
    rw [goodL_cons, if_neg (fun z => z.elim (fun y => by rw [h1] at y; cases y) h3), if_neg (by rw [h2]; exact Bool.noConfusion)]
    have e1 : (SG.any fun z => decide (S [z] = S [c])) = decide (c ∈ SG) := by
      rw [Bool.eq_iff_iff, List.any_eq_true, decide_eq_true_eq]
      constructor
      · intro ⟨z, hz, e⟩
        have : [z] = [c] := str_inj.mp (of_decide_eq_true e)
        rw [← (List.cons.inj this).1]; exact hz
      · exact fun hc => ⟨c, hc, decide_eq_true rfl⟩
    rw [e1]
    by_cases hc : c ∈ SG
    · rw [decide_eq_true hc, (sg_facts c hc).2.2.2.2]
    · rw [decide_eq_false hc]
      cases e : isTok (.str (S [c])) with
      | false => rfl
      | true =>
        have k := lkP (l := []) h1 h2 h3
        rcases (tok_kind e).2 with ⟨x, _⟩ | ⟨x, _⟩ | ⟨x, _⟩ | ⟨_, _, m, z1, z2⟩
        · rw [k] at x; exact absurd x (by decide +kernel)
        · rw [k] at x; exact absurd x (by decide +kernel)
        · rw [k] at x; exact absurd x (by decide +kernel)
        · rw [(List.cons.inj z1).1] at hc; exact absurd z2 hc
theorem scan_eq (l : List Nat) : gScan [.str (S l)] = if okCut l = true then txts (cutL l) else .non := by
  have e : (scanL l).all goodL = okCut l := by
    rw [scan_cut]
    unfold okCut
    rw [Bool.eq_iff_iff, List.all_eq_true, List.all_eq_true]
    exact ⟨fun h t ht => by rw [← good_tok (tk_all l t ht)]; exact h t ht, fun h t ht => by rw [good_tok (tk_all l t ht)]; exact h t ht⟩
  show (if (scanL l).all goodL = true then txts (scanL l) else D.non) = _
  rw [e, scan_cut]
theorem tight_some : ∀ (l : List (List Nat)) (b : List Nat) (zs : List Nat), isTok (.str (S b)) = true → (∀ t ∈ l, isTok (.str (S t)) = true) → (∀ z ∈ zs, z = 0) → tightL b l = lineL (some b) l zs
  | [], b, zs, _, _, hz => by
    have : zs.headD 0 = 0 := by
      cases zs with
      | nil => rfl
      | cons z zs => exact hz z List.mem_cons_self
    show [] = List.replicate (zs.headD 0) 32
    rw [this]
    rfl
  | t :: l, b, zs, hb, hl, hz => by
    have h0 : zs.headD 0 = 0 := by
      cases zs with
      | nil => rfl
      | cons z zs => exact hz z List.mem_cons_self
    have ht := hl t List.mem_cons_self
    show ((if together (S b) (S t) = true then [32] else []) ++ t) ++ tightL t l = List.replicate (zs.headD 0 + (if joinT b t = true then 1 else 0)) 32 ++ (t ++ lineL (some t) l zs.tail)
    rw [h0, together_join hb ht, tight_some l t zs.tail ht (fun u hu => hl u (List.mem_cons_of_mem _ hu)) (fun z h => hz z (List.mem_of_mem_tail h)), List.append_assoc]
    cases joinT b t <;> rfl
theorem tight_eq {l : List (List Nat)} (hl : ∀ t ∈ l, isTok (.str (S t)) = true) (zs : List Nat) (hz : ∀ z ∈ zs, z = 0) : tightL [40] l = lineL none l zs := by
  rw [tight_some l [40] zs (by decide +kernel) hl hz]
  cases l with
  | nil => rfl
  | cons t l =>
    show List.replicate (zs.headD 0 + (if joinT [40] t = true then 1 else 0)) 32 ++ _ = List.replicate (zs.headD 0 + 0) 32 ++ _
    have : joinT [40] t = false := by
      unfold joinT
      rcases lkind_cases t with h | h | h | h <;> rw [h] <;> decide +kernel
    rw [this]
    rfl
/-- a gapped line of tokens is cut into them -/
theorem gap_tok {p : Option (List Nat)} {ts : List (List Nat)} {l : List Nat} (g : Gap p ts l) (h : ∀ t ∈ ts, isTok (.str (S t)) = true) : cutL l = ts ∧ okCut l = true := by
  have e := gap_cut g fun u hu => (tok_kind (h u hu)).1
  refine ⟨e, ?_⟩
  unfold okCut
  rw [e, List.all_eq_true]
  exact h
end K2
namespace K2
open PySem L2 Kr
local macro_rules | `(tactic| one_item) => `(tactic| first
  | (with_reducible refine dS_seq ?_) | (with_reducible refine dS_ret ?_) | (with_reducible refine dS_if ?_) | (with_reducible refine dS_next ?_) | (with_reducible refine dS_nextE ?_) | (with_reducible refine dS_brkE ?_) | (with_reducible refine dS_ctE ?_)
  | (with_reducible refine dT_B ?_) | (with_reducible refine dT_test ?_) | (with_reducible refine dT_and ?_) | (with_reducible refine dT_or ?_) | (with_reducible refine dT_not ?_)
  | (with_reducible refine dE_and ?_) | (with_reducible refine dE_or ?_) | (with_reducible refine dE_not ?_) | (with_reducible refine dE_if ?_)
  | (with_reducible refine dE_int ?_) | (with_reducible refine dE_str ?_) | (with_reducible refine dE_bl ?_) | (with_reducible refine dE_non ?_)
  | ((with_reducible refine dE_varE ?_); refine ⟨_, rfl, ?_⟩) | ((with_reducible refine dE_ownE ?_); refine ⟨_, rfl, ?_⟩)
  | (with_reducible refine dE_ix ?_) | (with_reducible refine dE_op2 ?_) | (with_reducible refine dE_chain ?_) | (with_reducible refine dE_un ?_) | (with_reducible refine dA_cons ?_) | (with_reducible refine dA_nil ?_) | (with_reducible refine dE_callF ?_) | (with_reducible refine dE_tup ?_)
  | (refine ⟨fun (_ : true = true) => ?_, fun z => Bool.noConfusion z⟩) | (refine ⟨fun z => Bool.noConfusion z, fun (_ : false = false) => ?_⟩)
  | (with_reducible refine dE_callP (i := 0) rfl ?_)
  | (with_reducible refine dE_isStr ?_) | (with_reducible refine dE_isInt ?_) | (with_reducible refine dE_isBool ?_) | (with_reducible refine dE_isList ?_) | (with_reducible refine dE_isTup ?_) | (with_reducible refine dE_isDict ?_) | (with_reducible refine dE_cb ?_) | (with_reducible refine dE_lc ?_) | (with_reducible refine dE_lstF ?_) | (with_reducible refine dI_list ?_) | (with_reducible refine dI_tup ?_) | (with_reducible refine dI_str ?_) | (with_reducible refine dI_rng1 ?_) | (with_reducible refine dI_rng2 ?_) | (with_reducible refine dS_set ?_) | (with_reducible refine dS_augI ?_) | (with_reducible refine dS_brk ?_) | (with_reducible refine dS_ct ?_) | (with_reducible refine dO_none ?_) | (with_reducible refine dO_some ?_))
local macro_rules | `(tactic| one_place) => `(tactic| (repeat' one_item))
section
variable {P : Program} {w : World} {K : PySem.W.Frag} {mg : Str → Option Value} {base : Heap}
/-! ### texts and their lines -/
theorem tok_asc {t : List Nat} (h : isTok (.str (S t)) = true) : ∀ c ∈ t, c < 1114112 := by
  have hL : ∀ {c : Nat}, isL c = true → c < 1114112 := fun {c} h => by
    unfold isL at h
    rw [Bool.and_eq_true, decide_eq_true_eq, decide_eq_true_eq] at h
    omega
  have hF : ∀ {c : Nat}, isF c = true → c < 1114112 := fun {c} h => by
    unfold isF at h
    rw [Bool.and_eq_true, decide_eq_true_eq, decide_eq_true_eq] at h
    omega
  intro c hc
  obtain ⟨tk, hk⟩ := tok_kind h
  cases tk with
  | w h1 h2 =>
    rcases List.mem_cons.mp hc with z | z
    · rw [z]; exact hL h1
    · exact hL (h2 c z)
  | n h1 h2 =>
    rcases List.mem_cons.mp hc with z | z
    · rw [z]; exact hF h1
    · exact hF (h2 c z)
  | q h1 =>
    rcases List.mem_cons.mp hc with z | z
    · rw [z]; decide
    · exact hL (h1 c z)
  | p h1 h2 h3 h4 =>
    rcases hk with ⟨x, _⟩ | ⟨x, _⟩ | ⟨x, _⟩ | ⟨_, _, m, z1, z2⟩
    · rw [lkP h1 h2 h3] at x; exact absurd x (by decide +kernel)
    · rw [lkP h1 h2 h3] at x; exact absurd x (by decide +kernel)
    · rw [lkP h1 h2 h3] at x; exact absurd x (by decide +kernel)
    · rw [List.mem_singleton.mp hc, (List.cons.inj z1).1]
      exact (show ∀ c ∈ SG, c < 1114112 by decide +kernel) m z2
theorem map_S (l : List (List Nat)) : (l.map fun t => D.str (S t)) = (l.map S).map D.str := by rw [List.map_map]; rfl
theorem eqv_txts (a b : List (List Nat)) : D.eq (txts a) (txts b) = decide (a = b) := by
  show D.eq (.lst _) (.lst _) = _
  rw [map_S, map_S, eqv_strs]
  refine decide_eq_decide.mpr ⟨fun h => ?_, fun h => by rw [h]⟩
  exact txts_inj (show txts a = txts b by unfold txts; rw [map_S, map_S, h])
theorem txts_ok {l : List (List Nat)} (h : ∀ t ∈ l, ∀ c ∈ t, c < 1114112) : (txts l).ok = true := strs_ok fun d hd => by
  obtain ⟨t, ht, rfl⟩ := List.mem_map.mp hd
  exact ⟨t, rfl, h t ht⟩
/-- drawn tokens -/
theorem gen_toks {es : List D} {n : Nat} (hl : es.length ≤ n) (h : ∀ (j : Nat) e, es[j]? = some e → ∃ l : List Nat, e = .str (S l) ∧ isTok (.str (S l)) = true ∧ 1 ≤ l.length ∧ l.length ≤ 9) : ∃ ts : List (List Nat), es = ts.map (fun t => .str (S t)) ∧ ts.length ≤ n ∧ ∀ t ∈ ts, isTok (.str (S t)) = true ∧ 1 ≤ t.length ∧ t.length ≤ 9 := by
  have key : ∀ es : List D, (∀ (j : Nat) e, es[j]? = some e → ∃ l : List Nat, e = .str (S l) ∧ isTok (.str (S l)) = true ∧ 1 ≤ l.length ∧ l.length ≤ 9) → ∃ ts : List (List Nat), es = ts.map (fun t => .str (S t)) ∧ ∀ t ∈ ts, isTok (.str (S t)) = true ∧ 1 ≤ t.length ∧ t.length ≤ 9 := fun es => by
    induction es with
    | nil => exact fun _ => ⟨[], rfl, fun t z => by cases z⟩
    | cons e es ih =>
      intro h
      obtain ⟨l, rfl, h1⟩ := h 0 e rfl
      obtain ⟨ts, e1, e2⟩ := ih fun j e z => h (j + 1) e z
      refine ⟨l :: ts, by rw [e1]; rfl, fun t ht => ?_⟩
      rcases List.mem_cons.mp ht with z | z
      · rw [z]; exact h1
      · exact e2 t z
  obtain ⟨ts, e1, e2⟩ := key es h
  exact ⟨ts, e1, by rw [e1, List.length_map] at hl; exact hl, e2⟩
/-- drawn gaps -/
theorem gen_gaps {es : List D} (h : ∀ (j : Nat) e, es[j]? = some e → ∃ g : Nat, e = .int (g : Int) ∧ g ≤ 10) : ∃ gs : List Nat, es = gs.map (fun g => .int (g : Nat)) ∧ gs.length = es.length ∧ ∀ g ∈ gs, g ≤ 10 := by
  induction es with
  | nil => exact ⟨[], rfl, rfl, fun t z => by cases z⟩
  | cons e es ih =>
    obtain ⟨g, rfl, h1⟩ := h 0 e rfl
    obtain ⟨gs, e1, e2, e3⟩ := ih fun j e z => h (j + 1) e z
    refine ⟨g :: gs, by rw [e1]; rfl, by rw [List.length_cons, List.length_cons, e2], fun t ht => ?_⟩
    rcases List.mem_cons.mp ht with z | z
    · rw [z]; exact h1
    · exact e3 t z
theorem lineL_len : ∀ (l : List (List Nat)) (p : Option (List Nat)) (gs : List Nat), (∀ t ∈ l, t.length ≤ 9) → (∀ g ∈ gs, g ≤ 10) → (lineL p l gs).length ≤ 20 * l.length + 10
  | [], p, gs, _, hg => by
    show (List.replicate (gs.headD 0) 32).length ≤ _
    rw [List.length_replicate]
    cases gs with
    | nil => exact Nat.zero_le _
    | cons g gs => have := hg g List.mem_cons_self; show g ≤ _; omega
  | t :: l, p, gs, ht, hg => by
    have h1 := ht t List.mem_cons_self
    have h2 := need_le p t
    have h3 := lineL_len l (some t) gs.tail (fun u hu => ht u (List.mem_cons_of_mem _ hu)) (fun g h => hg g (List.mem_of_mem_tail h))
    have h4 : gs.headD 0 ≤ 10 := by
      cases gs with
      | nil => exact Nat.zero_le _
      | cons g gs => exact hg g List.mem_cons_self
    show (List.replicate (gs.headD 0 + need p t) 32 ++ (t ++ lineL (some t) l gs.tail)).length ≤ _
    rw [List.length_append, List.length_append, List.length_replicate, List.length_cons]
    omega
theorem joinL_len : ∀ l : List (List Nat), (∀ t ∈ l, t.length ≤ 9) → (TL.joinL [32] l).length ≤ 10 * l.length
  | [], _ => Nat.zero_le _
  | [t], h => by
    have := h t List.mem_cons_self
    show t.length ≤ 10
    omega
  | t :: u :: l, h => by
    have h1 := h t List.mem_cons_self
    have h2 := joinL_len (u :: l) fun x hx => h x (List.mem_cons_of_mem _ hx)
    show (t ++ ([32] ++ TL.joinL [32] (u :: l))).length ≤ _
    rw [List.length_append, List.length_append, List.length_singleton, List.length_cons]
    omega
theorem join_ok {ts : List (List Nat)} (h : toks ts) : ((ts.map S).map (·.length)).sum + (ts.map S).length * (Str.ofString " ").length ≤ 16777216 := by
  have h1 := toks_sum fun t ht => (h.2 t ht).2
  have h2 := h.1
  rw [List.length_map]
  have h3 : (Str.ofString " ").length = 1 := rfl
  rw [h3]
  omega
theorem join_any {ts : List (List Nat)} : ∃ l, Txt.join (Str.ofString " ") (ts.map S) = S l ∧ l = TL.joinL [32] ts := ⟨_, join_S [32] ts, rfl⟩
theorem join_Gap (ts : List (List Nat)) : Gap none ts (TL.joinL [32] ts) := by
  cases ts with
  | nil => exact Gap.nil 0
  | cons t ts => exact join_gap ts t none 0 (Nat.le_refl _)
theorem gLine (ts : List (List Nat)) : gLineOf [txts ts] = .str (Txt.join (Str.ofString " ") (ts.map S)) := by
  show D.str (Txt.join _ ((ts.map fun t => D.str (S t)).map _)) = _
  rw [txts_strs]
theorem lineL_asc : ∀ (l : List (List Nat)) (p : Option (List Nat)) (gs : List Nat), (∀ t ∈ l, ∀ c ∈ t, c < 1114112) → ∀ c ∈ lineL p l gs, c < 1114112
  | [], p, gs, _, c, hc => by
    rw [(List.mem_replicate.mp hc).2]; decide
  | t :: l, p, gs, ht, c, hc => by
    rcases List.mem_append.mp (show c ∈ List.replicate (gs.headD 0 + need p t) 32 ++ (t ++ lineL (some t) l gs.tail) from hc) with z | z
    · rw [(List.mem_replicate.mp z).2]; decide
    · rcases List.mem_append.mp z with z | z
      · exact ht t List.mem_cons_self c z
      · exact lineL_asc l (some t) gs.tail (fun u hu => ht u (List.mem_cons_of_mem _ hu)) c z
theorem cutS_to {l : List Nat} {a : Nat} (h : a ≤ l.length) : cutS (S l) none (some (a : Int)) = S (l.take a) := by
  have := cutS_mid (l := l) (a := 0) (b := a) (Nat.zero_le _) h
  have e : cutS (S l) none (some (a : Int)) = cutS (S l) (some ((0 : Nat) : Int)) (some (a : Int)) := by
    have z : HT.sIx (S l).length 0 (some ((0 : Nat) : Int)) = 0 := by rw [HT.sIx_nat]; simp
    unfold cutS
    rw [z, HT.sIx_none]
  rw [e, this]
  rfl
theorem cutS_from {l : List Nat} {a : Nat} (h : a ≤ l.length) : cutS (S l) (some (a : Int)) none = S (l.drop a) := by
  have := cutS_mid (l := l) (a := a) (b := l.length) h (Nat.le_refl _)
  have e : cutS (S l) (some (a : Int)) none = cutS (S l) (some (a : Int)) (some (l.length : Int)) := by
    unfold cutS
    rw [HT.sIx_none, HT.sIx_nat, HT.sIx_nat]
    have hh : (S l).length = l.length := S_len l
    simp [hh]
  rw [e, this, List.take_of_length_le (by rw [List.length_drop]; exact Nat.le_refl _)]
theorem scan_ok {l : List Nat} (hc : ∀ c ∈ l, c < 1114112) : (gScan [.str (S l)]).ok = true := by
  have ok := scOk_all hc l.length (Nat.le_refl _)
  rw [List.take_length] at ok
  show (if (scanL l).all goodL = true then txts (scanL l) else D.non).ok = true
  split
  · exact txts_ok fun t ht => (ok.2.1 t ht).2.2
  · decide +kernel
theorem un_self {d : D} (h : d.noIns = true) : d.un = d := by cases d <;> first | rfl | cases h
theorem val_ok {d dv : D} (h1 : d.noIns = true) (h2 : fitsT d) (h3 : isText d = false) (h4 : ∀ l, d = .str (S l) → l.length ≤ 10000) (h5 : d.flat = true ∨ (exOk 3 d ∧ (d.isList = false ∨ ∃ l, d = .lst l ∧ (∀ x ∈ l, shallow x ∧ ∀ m, x = .lst m → m.length ≤ 100000) ∧ l.length ≤ 1000)))
    (hd : (d.boxed = false ∧ dv = d) ∨ (d.boxed = true ∧ ∃ a, dv = .is a d)) (n : Int) : toldOk n dv ∧ veryOk dv := by
  rcases hd with ⟨hb, rfl⟩ | ⟨hb, a, rfl⟩
  · have hf : dv.flat = true := by cases dv <;> first | rfl | (cases hb; done) | (cases h1; done)
    exact ⟨⟨by rw [un_self h1]; exact h1, fun z => by rw [un_self h1]; exact z, h4, fun _ => by rw [un_self h1]; exact ⟨h2, h3⟩⟩, .inl hf⟩
  · have hs : d.isStr = false := by cases d <;> first | rfl | (cases hb; done)
    refine ⟨⟨h1, fun _ => hs, fun l z => (by cases z), fun _ => ⟨h2, h3⟩⟩, .inr ⟨a, d, rfl, ?_⟩⟩
    rcases h5 with h5 | ⟨h5, h6⟩
    · cases d <;> first | (cases hb; done) | (cases h5; done)
    · exact ⟨h5, h1, h6⟩
theorem bad_facts {bad : D} (hbad : bad ∈ [D.str (Str.ofString ""), D.str (Str.ofString "_"), D.str (Str.ofString "A"), D.str (Str.ofString "a b"), D.str (Str.ofString "00"), D.str (Str.ofString "abcdefghi"), D.str (Str.ofString "'"), D.str (Str.ofString "''a"), D.str (Str.ofString "(("),
    D.str (Str.ofString "123456789"), D.str (Str.ofString "a1"), D.int 7, D.non, D.lst [D.str (Str.ofString "a")], D.bl true]) : isTok bad = false ∧ fits bad ∧ shallow bad ∧ ∀ m, bad = .lst m → m.length ≤ 100000 := by
  have f : ∀ (x : Str), isTok (.str x) = false → x.length ≤ 1000000 → (isTok (.str x) = false ∧ fits (.str x) ∧ shallow (.str x) ∧ ∀ m, D.str x = .lst m → m.length ≤ 100000) := fun x h1 h2 => ⟨h1, h2, .inl rfl, fun m z => by cases z⟩
  simp only [List.mem_cons, List.not_mem_nil, or_false] at hbad
  rcases hbad with rfl | rfl | rfl | rfl | rfl | rfl | rfl | rfl | rfl | rfl | rfl | rfl | rfl | rfl | rfl
  · exact f _ (by decide +kernel) (by decide)
  · exact f _ (by decide +kernel) (by decide)
  · exact f _ (by decide +kernel) (by decide)
  · exact f _ (by decide +kernel) (by decide)
  · exact f _ (by decide +kernel) (by decide)
  · exact f _ (by decide +kernel) (by decide)
  · exact f _ (by decide +kernel) (by decide)
  · exact f _ (by decide +kernel) (by decide)
  · exact f _ (by decide +kernel) (by decide)
  · exact f _ (by decide +kernel) (by decide)
  · exact f _ (by decide +kernel) (by decide)
  · exact ⟨rfl, trivial, .inl rfl, fun m z => by cases z⟩
  · exact ⟨rfl, trivial, .inl rfl, fun m z => by cases z⟩
  · exact ⟨rfl, trivial, .inr ⟨_, rfl, rfl⟩, fun m z => by cases z; decide⟩
  · exact ⟨rfl, trivial, .inl rfl, fun m z => by cases z⟩
abbrev zs61 : List Nat := List.replicate 61 0
abbrev zs62 : List Nat := List.replicate 62 0
theorem zs_zero {n : Nat} : ∀ z ∈ List.replicate n 0, z = 0 := fun z hz => (List.mem_replicate.mp hz).2
abbrev sp_textR : Sp := spP (fun ds => ds = []) (fun _ d => d = .bl true) 2000
theorem ok_textR (T : Txt K mg) (c__law_draw : Con P w K mg base "_law_draw" p__law_draw 3 sp_draw) (c__law_token : Con P w K mg base "_law_token" p__law_token 5 (sp_tokR 12)) (c__law_one_of : Con P w K mg base "_law_one_of" p__law_one_of 4 sp_one_of)
    (c__law_line : Con P w K mg base "_law_line" p__law_line 3 sp_lineL) (c__law_exact : Con P w K mg base "_law_exact" p__law_exact 6 (sp_exact 5)) (c_line_of : Con P w K mg base "line_of" p_line_of 7 sp_line_of) (c_tight_line : Con P w K mg base "tight_line" p_tight_line 7 sp_tight_line)
    (c_cut : Con P w K mg base "cut" p_cut 6 sp_cut) (c__law_scanned : Con P w K mg base "_law_scanned" p__law_scanned 2 sp_scan) (c__law_cut_right : Con P w K mg base "_law_cut_right" p__law_cut_right 9 sp_cutR) (c__law_told : Con P w K mg base "_law_told" p__law_told 8 sp_told) (c__law_very : Con P w K mg base "_law_very" p__law_very 7 sp_very) :
    Con P w K mg base "_law_text_right" p__law_text_right 10 sp_textR := by
  refine conP T.d__law_text_right sc__law_text_right (fun ds h => ?_) (fun f cdv A outer s H E hr => ⟨_, (pss_cons (ps_setLc (i := 1) (own := [("_law_turn", 13)]) rfl sc__law_text_right.nd rfl rfl (sw_true rfl rfl rfl (by decide +kernel)) (pi_range1 (by rfl) T.n_range (pa_cons (pe_con c__law_draw (hr.mono (by decide)) (by rfl) (pa_cons (pv 0) (pa_cons pe_int pa_nil))) pa_nil)) (blkOk_by (own := [("_law_turn", 13)]) (N := n__law_text_right) (sc := defScope s__law_text_right) (by decide +kernel)) (fun _ _ _ _ _ => (pg_name (i := 13) sc__law_text_right.nd rfl (Or.inl rfl))) (fun _ _ _ _ _ => pts_nil) (fun _ _ _ _ _ => (pe_con c__law_token (hr.mono (by decide)) (by rfl) (pa_cons (pv 0) pa_nil))))
      (pss_cons (ps_par (i := 2) (j := 3) rfl sc__law_text_right.nd rfl rfl (by decide) rfl rfl (pa_cons (pe_callTy (call_listA rfl) (by rfl) T.n_list (by decide +kernel) (pa_cons (pv 1) pa_nil)) (pa_cons (pe_lc (own := [("_law_turn", 13)]) rfl sc__law_text_right.nd (pi_range1 (by rfl) T.n_range (pa_cons pe_int pa_nil)) (blkOk_by (own := [("_law_turn", 13)]) (N := n__law_text_right) (sc := defScope s__law_text_right) (by decide +kernel)) (fun _ _ _ _ _ => (pg_name (i := 13) sc__law_text_right.nd rfl (Or.inl rfl))) (fun _ _ _ _ _ => pts_nil) (fun _ _ _ _ _ => (pe_op (show OpR _ (binaryOp .Add) (rAddA K) from op_addA) pe_int (pe_con c__law_draw (hr.mono (by decide)) (by rfl) (pa_cons (pv 0) (pa_cons pe_int pa_nil)))))) pa_nil)) rfl)
      (pss_cons (ps_setLc (i := 4) (own := [("_law_turn", 13)]) rfl sc__law_text_right.nd rfl rfl (sw_true rfl rfl rfl (by decide +kernel)) (pi_range1 (by rfl) T.n_range (pa_cons pe_int pa_nil)) (blkOk_by (own := [("_law_turn", 13)]) (N := n__law_text_right) (sc := defScope s__law_text_right) (by decide +kernel)) (fun _ _ _ _ _ => (pg_name (i := 13) sc__law_text_right.nd rfl (Or.inl rfl))) (fun _ _ _ _ _ => pts_nil) (fun _ _ _ _ _ => (pe_con c__law_draw (hr.mono (by decide)) (by rfl) (pa_cons (pv 0) (pa_cons pe_int pa_nil)))))
      (pss_cons (ps_set (i := 5) sc__law_text_right.nd rfl (.inr rfl) (pe_con c__law_line (hr.mono (by decide)) (by rfl) (pa_cons (pv 1) (pa_cons (pe_op op_mulA (pe_lst (pa_cons pe_int pa_nil)) pe_int) pa_nil))))
      (pss_cons (ps_if (PW.pt (pw_or (pt_not (pt_val (pe_con c__law_exact (hr.mono (by decide)) (by rfl) (pa_cons (pe_con c_line_of (hr.mono (by decide)) (by rfl) (pa_cons (pv 2) pa_nil)) (pa_cons (pe_join pe_str (pv 1)) pa_nil))))) (pw_or (pt_not (pt_val (pe_con c__law_exact (hr.mono (by decide)) (by rfl) (pa_cons (pe_con c_tight_line (hr.mono (by decide)) (by rfl) (pa_cons (pv 2) pa_nil)) (pa_cons (pv 5) pa_nil))))) (pw_or1 (pt_cmpR (op_neA hr.units) (pv 2) (pv 1) (nomark _)))))) (pss_one (ps_ret pe_bl)) pss_nil)
      (pss_cons (ps_for PassesOwn.never rfl (pi_tup (pe_tup (pa_cons (pe_join pe_str (pv 1)) (pa_cons (pv 5) (pa_cons (pe_con c__law_line (hr.mono (by decide)) (by rfl) (pa_cons (pv 1) (pa_cons (pv 3) pa_nil))) (pa_cons (pe_con c__law_line (hr.mono (by decide)) (by rfl) (pa_cons (pv 1) (pa_cons (pv 4) pa_nil))) pa_nil)))))) (pg_name (i := 6) sc__law_text_right.nd rfl (.inl rfl)) (pss_cons (ps_set (i := 7) sc__law_text_right.nd rfl (.inl rfl) (pe_con c_cut (hr.mono (by decide)) (by rfl) (pa_cons (pv 6) pa_nil)))
      (pss_cons (ps_if (pt_not (pt_val (pe_con c__law_exact (hr.mono (by decide)) (by rfl) (pa_cons (pv 7) (pa_cons (pv 1) pa_nil))))) (pss_one (ps_ret pe_bl)) pss_nil)
      (pss_one (ps_expr (pe_bm PySem.F.plainAttrs_list PySem.F.slot_list_append PySem.F.type_list_append mt_append (pv 7) (pa_cons pe_str pa_nil)))))))
      (pss_cons (ps_expr (pe_bm PySem.F.plainAttrs_list PySem.F.slot_list_insert PySem.F.type_list_insert mt_insertA (pv 2) (pa_cons (pe_op op_divA (pe_callB call_lenA (by rfl) T.n_len (by decide +kernel) (pa_cons (pv 1) pa_nil)) pe_int) (pa_cons pe_str pa_nil))))
      (pss_cons (ps_if (PW.pt (pw_or (pt_cmpR (op_neA hr.units) (pe_con c_line_of (hr.mono (by decide)) (by rfl) (pa_cons (pv 2) pa_nil)) (pe_join pe_str (pv 2)) (nomark _)) (pw_or1 (pt_cmpR (op_neA hr.units) (pe_con c_tight_line (hr.mono (by decide)) (by rfl) (pa_cons (pv 2) pa_nil)) (pe_con c__law_line (hr.mono (by decide)) (by rfl) (pa_cons (pv 2) (pa_cons (pe_op op_mulA (pe_lst (pa_cons pe_int pa_nil)) pe_int) pa_nil))) (nomark _))))) (pss_one (ps_ret pe_bl)) pss_nil)
      (pss_cons (ps_for PassesOwn.never rfl (pi_list (pe_slice sl_A (pe_lc (own := [("_law_at", 8)]) rfl sc__law_text_right.nd (pi_range1 (by rfl) T.n_range (pa_cons (pe_callB call_lenA (by rfl) T.n_len (by decide +kernel) (pa_cons (pv 5) pa_nil)) pa_nil)) (blkOk_by (own := [("_law_at", 8)]) (N := n__law_text_right) (sc := defScope s__law_text_right) (by decide +kernel)) (fun _ _ _ _ _ => (pg_name (i := 8) sc__law_text_right.nd rfl (Or.inl rfl))) (fun _ _ _ _ _ => (pts_one (pt_cmpR (show OpR _ (compareOp .Eq) (rEqA K) from (op_eqA hr.units)) (pe_ix (show IxR _ (rIx K) from ix_seq) (pv 5) (pv 8) (fun _ _ => rfl)) pe_str (nomark _)))) (fun _ _ _ _ _ => (pv 8))) po_none (po_some pe_int))) (pg_name (i := 8) sc__law_text_right.nd rfl (.inl rfl)) (pss_cons (ps_set (i := 9) sc__law_text_right.nd rfl (.inl rfl) (pe_op op_addA (pe_slice sl_A (pv 5) po_none (po_some (pv 8))) (pe_slice sl_A (pv 5) (po_some (pe_op op_addA (pv 8) pe_int)) po_none)))
      (pss_one (ps_if (PW.pt (pw_or (pt_not (pt_val (pe_con c__law_cut_right (hr.mono (by decide)) (by rfl) (pa_cons (pv 9) (pa_cons (pe_con c__law_scanned (hr.mono (by decide)) (by rfl) (pa_cons (pv 9) pa_nil)) pa_nil))))) (pw_or1 (pt_cmpR (op_eqA hr.units) (pe_con c__law_scanned (hr.mono (by decide)) (by rfl) (pa_cons (pv 9) pa_nil)) (pv 1) (nomark _))))) (pss_one (ps_ret pe_bl)) pss_nil))))
      (pss_cons (ps_set (i := 10) sc__law_text_right.nd rfl (.inl rfl) (pe_con c__law_one_of (hr.mono (by decide)) (by rfl) (pa_cons (pv 0) (pa_cons (pe_lst (pa_cons pe_str (pa_cons pe_str (pa_cons pe_str (pa_cons pe_str (pa_cons pe_str (pa_cons pe_str (pa_cons pe_str (pa_cons pe_str (pa_cons pe_str (pa_cons pe_str (pa_cons pe_str (pa_cons pe_int (pa_cons pe_non (pa_cons (pe_lst (pa_cons pe_str pa_nil)) (pa_cons pe_bl pa_nil)))))))))))))))) pa_nil))))
      (pss_cons (ps_set (i := 8) sc__law_text_right.nd rfl (.inl rfl) (pe_con c__law_draw (hr.mono (by decide)) (by rfl) (pa_cons (pv 0) (pa_cons (pe_op op_addA (pe_callB call_lenA (by rfl) T.n_len (by decide +kernel) (pa_cons (pv 1) pa_nil)) pe_int) pa_nil))))
      (pss_cons (ps_for PassesOwn.never rfl (pi_tup (pe_tup (pa_cons (pe_op op_addA (pe_op op_addA (pe_slice sl_A (pv 1) po_none (po_some (pv 8))) (pe_lst (pa_cons (pv 10) pa_nil))) (pe_slice sl_A (pv 1) (po_some (pv 8)) po_none)) (pa_cons (pe_callTy call_tupleA (by rfl) T.n_tuple (by decide +kernel) (pa_cons (pv 1) pa_nil)) (pa_cons (pe_join pe_str (pv 1)) (pa_cons (pe_callTy (call_dictPA rfl) (by rfl) T.n_dict (by decide +kernel) (pa_cons (pe_lc (own := [("_law_token_here", 14)]) rfl sc__law_text_right.nd (pi_list (pv 1)) (blkOk_by (own := [("_law_token_here", 14)]) (N := n__law_text_right) (sc := defScope s__law_text_right) (by decide +kernel)) (fun _ _ _ _ _ => (pg_name (i := 14) sc__law_text_right.nd rfl (Or.inl rfl))) (fun _ _ _ _ _ => pts_nil) (fun _ _ _ _ _ => (pe_tup (pa_cons (pv 14) (pa_cons pe_int pa_nil))))) pa_nil)) pa_nil)))))) (pg_name (i := 11) sc__law_text_right.nd rfl (.inl rfl)) (pss_one (ps_for PassesOwn.never rfl (pi_tup (pe_tup (pa_cons pe_int (pa_cons pe_int pa_nil)))) (pg_name (i := 12) sc__law_text_right.nd rfl (.inl rfl)) (pss_one (ps_if (pt_not (pt_val (pe_con c__law_very (hr.mono (by decide)) (by rfl) (pa_cons (pe_con c__law_told (hr.mono (by decide)) (by rfl) (pa_cons (pv 12) (pa_cons (pv 11) pa_nil))) (pa_cons (pv 11) pa_nil))))) (pss_one (ps_ret pe_bl)) pss_nil)))))
      (pss_one (ps_ret pe_bl)))))))))))))), fun ds p n h hn => ?_⟩)
  · subst h
    rfl
  · subst h
    refine dS_seq (dS_set (dE_lc (dL_gen (p := p) (dI_rng1 (dA_cons (dE_callP (p := p) (n := n) (i := 0) rfl (dA_cons (dE_int (dA_nil ⟨n, rfl, ⟨60, rfl, by decide, by decide⟩, by omega, fun d ⟨m, q, e1, e2, q1, q2⟩ => ?_⟩)))))))))
    cases e1
    subst e2
    refine dA_nil ⟨q, rfl, by omega, by omega, n + 1, 12, fun _ y => ∃ l : List Nat, y = .str (S l) ∧ isTok (.str (S l)) = true ∧ 1 ≤ l.length ∧ l.length ≤ 9, rfl, by decide, by rw [nats_length]; omega, fun j d hd => ?_, fun es hl he => ?_⟩
    · have hj := (List.getElem?_eq_some_iff.mp hd).1
      rw [nats_length] at hj
      refine dE_callP (p := p) (n := n + 1 + 12 * j) (i := 0) rfl (dA_nil ⟨n + 1 + 12 * j, rfl, rfl, by omega, fun d hR => ⟨hR, ?_⟩⟩)
      rfl
    rw [nats_length] at hl
    obtain ⟨ts, rfl, htl, hts⟩ := gen_toks (n := 60) (by omega) he
    have hts1 : ∀ t ∈ ts, isTok (.str (S t)) = true := fun t ht => (hts t ht).1
    have htok : toks ts := ⟨by omega, fun t ht => ⟨(hts t ht).1, (hts t ht).2.2⟩⟩
    obtain ⟨n1, hn1, hn1'⟩ : ∃ n1, n1 = n + 1 + 12 * (nats 0 q.toNat).length ∧ n1 ≤ n + 1 + 12 * 60 := ⟨_, rfl, by rw [nats_length]; omega⟩
    rw [← hn1]
    refine dS_seq (dS_parO (by decide) (dL_list (dA_cons (dE_varE ⟨_, rfl, dA_nil ⟨_, .inl rfl, ?_⟩⟩))))
    refine dE_lc (dL_gen (p := p) (dI_rng1 (dA_cons (dE_int (dA_nil ⟨61, rfl, by decide, by decide, n1, 1, fun _ y => ∃ g : Nat, y = .int (g : Int) ∧ g ≤ 10, rfl, by decide, by rw [nats_length]; decide, fun j d hd => ?_, fun es hl he => ?_⟩)))))
    · have hj := (List.getElem?_eq_some_iff.mp hd).1
      rw [nats_length] at hj
      have hj : j < 61 := hj
      refine dE_op2 (dE_int (dE_callP (p := p) (n := n1 + 1 * j) (i := 0) rfl (dA_cons (dE_int (dA_nil ⟨n1 + 1 * j, rfl, ⟨2, rfl, by decide, by decide⟩, by omega, fun d ⟨m, r, e1, e2, r1, r2⟩ => ?_⟩)))))
      cases e1
      subst e2
      refine ⟨_, od_add, ⟨(1 + r).toNat, by rw [Int.toNat_of_nonneg (by omega)], by omega⟩, rfl⟩
    obtain ⟨gb, rfl, hgb, hgb2⟩ := gen_gaps he
    rw [nats_length] at hl
    have hgbl : gb.length = 61 := by rw [hgb, hl]; rfl
    rw [nats_length]
    refine dS_seq (dS_set (dE_lc (dL_gen (p := p) (dI_rng1 (dA_cons (dE_int (dA_nil ⟨61, rfl, by decide, by decide, n1 + 61, 1, fun _ y => ∃ g : Nat, y = .int (g : Int) ∧ g ≤ 10, rfl, by decide, by rw [nats_length]; decide, fun j d hd => ?_, fun es hl he => ?_⟩)))))))
    · have hj := (List.getElem?_eq_some_iff.mp hd).1
      rw [nats_length] at hj
      have hj : j < 61 := hj
      refine dE_callP (p := p) (n := n1 + 61 + 1 * j) (i := 0) rfl (dA_cons (dE_int (dA_nil ⟨n1 + 61 + 1 * j, rfl, ⟨3, rfl, by decide, by decide⟩, by omega, fun d ⟨m, r, e1, e2, r1, r2⟩ => ?_⟩)))
      cases e1
      subst e2
      exact ⟨⟨r.toNat, by rw [Int.toNat_of_nonneg r1], by omega⟩, rfl⟩
    obtain ⟨gl, rfl, hgl, hgl2⟩ := gen_gaps he
    rw [nats_length] at hl
    have hgll : gl.length = 61 := by rw [hgl, hl]; rfl
    rw [nats_length]
    have ht9 : ∀ t ∈ ts, t.length ≤ 9 := fun t ht => (hts t ht).2.2
    have htn : ∀ t ∈ ts, t ≠ [] ∧ t.length ≤ 9 := fun t ht => ⟨fun z => absurd (hts t ht).2.1 (by rw [z]; decide), ht9 t ht⟩
    refine dS_seq (dS_set (dE_call (dA_cons (dE_varE ⟨_, rfl, dA_cons (dE_L (dL_rep (dE_lst (dA_cons (dE_int (dA_nil ⟨by decide, dE_int ⟨_, 61, rfl, rfl, by decide, by decide, by decide, dA_nil ⟨⟨ts, zs61, rfl, by show ts.length < 61; omega, by omega, htn, fun g hg => by rw [zs_zero g hg]; decide⟩, fun d hR => ?_⟩⟩⟩))))))⟩))))
    have hR := hR ts zs61 rfl
    subst hR
    have hclear : ∀ {G : List Sl} {Po : Po} {t : TS}, dS E0 (fun _ _ => False) t [.pur p (n1 + 122), .imm (txts ts), .own (ts.map fun t => .str (S t)), .imm (.lst (gb.map fun g => .int (g : Nat))), .imm (.lst (gl.map fun g => .int (g : Nat))), .imm (.str (S (lineL none ts zs61))), .any, .any, .any, .any, .any, .any, .any, .any, .any] Po → G = [.pur p (n1 + 122), .imm (txts ts), .own (ts.map fun t => .str (S t)), .imm (.lst (gb.map fun g => .int (g : Nat))), .imm (.lst (gl.map fun g => .int (g : Nat))), .imm (.str (S (lineL none ts zs61))), .any, .any, .any, .any, .any, .any, .any, .any, .any] → dS E0 (fun _ _ => False) t G Po := fun h e => by rw [e]; exact h
    refine hclear ?_ rfl
    clear hclear
    have et := tight_eq hts1 zs61 zs_zero
    refine dS_seq (dS_if (dT_or (dT_not (dT_B (dE_callF (dA_cons (dE_callF (dA_cons (dE_ownE ⟨_, rfl, dA_nil ⟨⟨ts, rfl, htok⟩, ?_⟩⟩)))))))))
    refine dA_cons (dE_join (dE_str ⟨_, rfl, dE_varE ⟨_, rfl, ts.map S, by unfold txts; rw [map_S], join_ok htok, dA_nil ⟨⟨.str (Txt.join (Str.ofString " ") (ts.map S)), by rw [show gLineOf [D.lst (ts.map fun t => D.str (S t))] = _ from gLine ts], exOk_flat rfl 4⟩, ?_⟩⟩⟩))
    refine ⟨true, rfl, fun z => Bool.noConfusion z, fun _ => dT_or (dT_not (dT_B (dE_callF (dA_cons (dE_call (dA_cons (dE_ownE ⟨_, rfl, dA_nil ⟨⟨ts, rfl, htok⟩, fun d hR => ?_⟩⟩)))))))⟩
    have hR := hR ts rfl
    subst hR
    refine dA_cons (dE_varE ⟨_, rfl, dA_nil ⟨⟨.str (S (lineL none ts zs61)), by rw [et], exOk_flat rfl 4⟩, ?_⟩⟩)
    have htxt : (txts ts).ok = true := txts_ok fun t ht => tok_asc (hts1 t ht)
    refine ⟨true, rfl, fun z => Bool.noConfusion z, fun _ => dT_test (dE_op2 (dE_ownE ⟨_, rfl, dE_varE ⟨_, rfl, _, od_ne htxt htxt, _, rfl, ?_⟩⟩))⟩
    have e0 : D.eq (D.lst (ts.map fun t => D.str (S t))) (txts ts) = true := by
      rw [show D.lst (ts.map fun t => D.str (S t)) = txts ts from rfl, eqv_txts]
      exact decide_eq_true rfl
    rw [e0]
    refine ⟨fun z => Bool.noConfusion z, fun _ => dS_next ?_⟩
    have len1 := lineL_len ts none zs61 ht9 (fun g hg => by rw [zs_zero g hg]; decide)
    refine dS_seq (dS_for (vs := [6]) (dI_tup (dE_tup (dA_cons (dE_join (dE_str ⟨_, rfl, dE_varE ⟨_, rfl, ts.map S, by unfold txts; rw [map_S], join_ok htok, dA_cons (dE_varE ⟨_, rfl, ?_⟩)⟩⟩))))))
    refine dA_cons (dE_call (dA_cons (dE_varE ⟨_, rfl, dA_cons (dE_varE ⟨_, rfl, dA_nil ⟨⟨ts, gb, rfl, by rw [hgbl]; omega, by omega, htn, hgb2⟩, fun d hR => ?_⟩⟩)⟩)))
    have hR := hR ts gb rfl
    subst hR
    refine dA_cons (dE_call (dA_cons (dE_varE ⟨_, rfl, dA_cons (dE_varE ⟨_, rfl, dA_nil ⟨⟨ts, gl, rfl, by rw [hgll]; omega, by omega, htn, hgl2⟩, fun d hR => ?_⟩⟩)⟩)))
    have hR := hR ts gl rfl
    subst hR
    refine dA_nil ⟨(by decide : 4 ≤ 1000), _, rfl, ?_⟩
    have hlines : ∀ x ∈ [D.str (Txt.join (Str.ofString " ") (ts.map S)), .str (S (lineL none ts zs61)), .str (S (lineL none ts gb)), .str (S (lineL none ts gl))], ∃ l, x = .str (S l) ∧ Gap none ts l ∧ l.length ≤ 10000 := fun x hx => by
      rcases List.mem_cons.mp hx with rfl | hx
      · refine ⟨_, by rw [show Txt.join (Str.ofString " ") (ts.map S) = S (TL.joinL [32] ts) from join_S [32] ts], join_Gap ts, ?_⟩
        have := joinL_len ts ht9
        omega
      rcases List.mem_cons.mp hx with rfl | hx
      · exact ⟨_, rfl, lineL_gap ts none zs61, by omega⟩
      rcases List.mem_cons.mp hx with rfl | hx
      · have := lineL_len ts none gb ht9 hgb2
        exact ⟨_, rfl, lineL_gap ts none gb, by omega⟩
      rw [List.mem_singleton.mp hx]
      have := lineL_len ts none gl ht9 hgl2
      exact ⟨_, rfl, lineL_gap ts none gl, by omega⟩
    refine ⟨fun j G' => ∃ s6, G' = [.pur p (n1 + 122), .imm (txts ts), .own (ts.map fun t => .str (S t)), .imm (.lst (gb.map fun g => .int (g : Nat))), .imm (.lst (gl.map fun g => .int (g : Nat))), .imm (.str (S (lineL none ts zs61))), s6, .any, .any, .any, .any, .any, .any, .any, .any], ⟨_, rfl⟩, fun j d G' hd ⟨s6, hG⟩ => ?_, fun G' ⟨s6, hG⟩ => ?_⟩
    · subst hG
      obtain ⟨l, rfl, hg, hl⟩ := hlines d (List.mem_of_getElem? hd)
      obtain ⟨hc1, hc2⟩ := gap_tok hg hts1
      refine dG_name (by decide) (dS_nxany 7 ?_)
      refine dS_seq (dS_setL (dL_callL (dA_cons (dE_varE ⟨_, rfl, dA_nil ⟨⟨l, rfl, hl, hc2⟩, fun es hes => ?_⟩⟩))))
      have hes := hes l rfl
      rw [hc1] at hes
      subst hes
      refine dS_seq (dS_if (dT_not (dT_B (dE_callF (dA_cons (dE_ownE ⟨_, rfl, dA_cons (dE_varE ⟨_, rfl, dA_nil ⟨⟨txts ts, rfl, txts_exOk ts (by omega) 3⟩, true, rfl, fun z => Bool.noConfusion z, fun _ => dS_next ?_⟩⟩)⟩))))))
      refine dS_append ?_ ⟨_, rfl⟩
      refine dA_cons (dE_str (dA_nil ⟨_, _, rfl, rfl, by rw [List.length_map]; omega, ?_⟩))
      exact ⟨_, rfl⟩
    subst hG
    have hk : ((ts.length : Int) / 2) = ((ts.length / 2 : Nat) : Int) := by omega
    refine dS_seq (dS_insert ⟨_, rfl⟩ (dA_cons (dE_op2 (dE_cb (dA_cons (dE_varE ⟨_, rfl, dA_nil ⟨_, ca_len (d := txts ts) (n := ts.length) ?_, ?_⟩⟩))))))
    · show ts.length = (ts.map _).length
      rw [List.length_map]
    refine dE_int ⟨_, od_div (b := 2) ⟨by decide, by decide⟩, dA_cons (dE_str (dA_nil ⟨ts.length / 2, .str (Str.ofString "x"), _, by rw [hk], rfl, by omega, by rw [List.length_map]; omega, ?_⟩))⟩
    obtain ⟨ts2, hts2e⟩ : ∃ ts2 : List (List Nat), ts2 = ts.take (ts.length / 2) ++ [[120]] ++ ts.drop (ts.length / 2) := ⟨_, rfl⟩
    have e2 : (ts.map fun t => D.str (S t)).take (ts.length / 2) ++ [.str (Str.ofString "x")] ++ (ts.map fun t => D.str (S t)).drop (ts.length / 2) = ts2.map fun t => D.str (S t) := by
      rw [hts2e, List.map_append, List.map_append, List.map_take, List.map_drop]
      rfl
    rw [e2]
    have hmem2 : ∀ t ∈ ts2, isTok (.str (S t)) = true ∧ t ≠ [] ∧ t.length ≤ 9 := fun t ht => by
      rw [hts2e] at ht
      rcases List.mem_append.mp ht with z | z
      · rcases List.mem_append.mp z with z | z
        · have h := List.mem_of_mem_take z
          exact ⟨hts1 t h, htn t h⟩
        · rw [List.mem_singleton.mp z]
          exact ⟨by decide +kernel, by decide, by decide⟩
      · have h := List.mem_of_mem_drop z
        exact ⟨hts1 t h, htn t h⟩
    have hl2 : ts2.length ≤ 61 := by
      rw [hts2e, List.length_append, List.length_append, List.length_take, List.length_drop, List.length_singleton]
      omega
    have htok2 : toks ts2 := ⟨by omega, fun t ht => ⟨(hmem2 t ht).1, (hmem2 t ht).2.2⟩⟩
    have et2 := tight_eq (fun t ht => (hmem2 t ht).1) zs62 zs_zero
    refine dS_seq (dS_if (dT_or (dT_test (dE_op2 (dE_callF (dA_cons (dE_ownE ⟨_, rfl, dA_nil ⟨⟨ts2, rfl, htok2⟩, dE_join (dE_str ⟨_, rfl, dE_ownE ⟨_, rfl, ts2.map S, by rw [map_S], join_ok htok2, ?_⟩⟩)⟩⟩)))))))
    rw [show gLineOf [D.lst (ts2.map fun t => D.str (S t))] = _ from gLine ts2]
    refine ⟨_, od_neS, _, rfl, ?_⟩
    rw [decide_eq_true rfl]
    refine ⟨fun z => Bool.noConfusion z, fun _ => dT_test (dE_op2 (dE_call (dA_cons (dE_ownE ⟨_, rfl, dA_nil ⟨⟨ts2, rfl, htok2⟩, fun d hR => ?_⟩⟩))))⟩
    have hR := hR ts2 rfl
    subst hR
    refine dE_call (dA_cons (dE_ownE ⟨_, rfl, dA_cons (dE_L (dL_rep (dE_lst (dA_cons (dE_int (dA_nil ⟨by decide, dE_int ⟨_, 62, rfl, rfl, by decide, by decide, by decide, dA_nil ⟨⟨ts2, zs62, rfl, by show ts2.length < 62; omega, by omega, fun t ht => (hmem2 t ht).2, fun g hg => by rw [zs_zero g hg]; decide⟩, fun d hR => ?_⟩⟩⟩))))))⟩))
    have hR := hR ts2 zs62 rfl
    subst hR
    rw [et2]
    refine ⟨_, od_neS, _, rfl, ?_⟩
    rw [decide_eq_true rfl]
    refine ⟨fun z => Bool.noConfusion z, fun _ => dS_next ?_⟩
    have tasc : ∀ c ∈ lineL none ts zs61, c < 1114112 := lineL_asc ts none zs61 fun t ht => tok_asc (hts1 t ht)
    have glen : ∀ m : List Nat, cutL m = ts → (lineL none ts zs61).length ≤ m.length := fun m hm => gap_len (hm ▸ gap_all m) zs61 zs_zero
    generalize hT : lineL none ts zs61 = tg at *
    have hsz : (S tg).length ≤ sizeLine := by rw [S_len, sizeLine_eq]; omega
    refine dS_seq (dS_for (vs := [8]) (dI_list (dE_L (dL_sl (dE_L (dL_filter (dI_rng1 (dA_cons (dE_cb (dA_cons (dE_varE ⟨_, rfl, dA_nil ⟨_, ca_len (n := tg.length) ⟨hsz, (S_len tg).symm⟩, dA_nil ⟨(tg.length : Int), rfl, by omega, by omega, (fun d => match d with | .int j => decide (tg[j.toNat]? = some 32) | _ => false), id, ?_, fun d hd => ?_, ?_⟩⟩⟩)))))))))))
    · rw [nats_length, Int.toNat_natCast]; omega
    · rw [Int.toNat_natCast] at hd
      obtain ⟨i, hi, rfl⟩ := nats_mem hd
      have hc : tg[i]? = some tg[i] := List.getElem?_eq_getElem hi
      generalize tg[i] = c at hc
      refine dT_test (dE_op2 (dE_ix (dE_varE ⟨_, rfl, dE_varE ⟨_, rfl, (i : Int), .str ⟨#[c]⟩, rfl, .inr (.inr ⟨_, c, rfl, hsz, atI_nat hc, rfl⟩), dE_str ⟨_, od_eqS, _, rfl, ?_, rfl, fun _ => ?_⟩⟩⟩)))
      · show decide ((⟨#[c]⟩ : Str) = Str.ofString " ") = decide (tg[((i : Nat) : Int).toNat]? = some 32)
        rw [Int.toNat_natCast, hc, show decide ((⟨#[c]⟩ : Str) = Str.ofString " ") = decide (c = 32) from eq_str 32 c]
        exact decide_eq_decide.mpr ⟨fun z => by rw [z], fun z => Option.some.inj z⟩
      · exact dE_varE ⟨_, rfl, rfl, rfl⟩
    refine dO_none (dO_some (dE_int ⟨2, rfl, _, rfl, _, rfl, ?_⟩))
    refine ⟨fun j G' => ∃ s8 s9, G' = [.pur p (n1 + 122), .imm (txts ts), .own (ts2.map fun t => .str (S t)), .imm (.lst (gb.map fun g => .int (g : Nat))), .imm (.lst (gl.map fun g => .int (g : Nat))), .imm (.str (S tg)), s6, .any, s8, s9, .any, .any, .any, .any, .any], ⟨_, _, rfl⟩, fun j d G' hd ⟨s8, s9, hG⟩ => ?_, fun G' ⟨s8, s9, hG⟩ => ?_⟩
    · subst hG
      have hd := cutD_mem (List.mem_of_getElem? hd)
      rw [List.map_id] at hd
      obtain ⟨hd1, hd2⟩ := List.mem_filter.mp hd
      rw [Int.toNat_natCast] at hd1
      obtain ⟨i, hi, rfl⟩ := nats_mem hd1
      refine dG_name (by decide) ?_
      refine dS_seq (dS_set (dE_op2 (dE_slS (dE_varE ⟨_, rfl, dO_none (dO_some (dE_varE ⟨_, rfl, (i : Int), rfl, _, rfl, hsz, ?_⟩))⟩))))
      rw [cutS_to (Nat.le_of_lt hi)]
      refine dE_slS (dE_varE ⟨_, rfl, dO_some (dE_op2 (dE_varE ⟨_, rfl, dE_int ⟨_, od_add, (i : Int) + 1, rfl, dO_none ⟨_, rfl, hsz, ?_⟩⟩⟩))⟩)
      rw [show ((i : Int) + 1) = ((i + 1 : Nat) : Int) by omega, cutS_from (show i + 1 ≤ tg.length from hi)]
      refine ⟨_, od_cat (by rw [S_len, S_len, List.length_take, List.length_drop, sizeLine_eq]; omega), ?_⟩
      rw [S_cat]
      obtain ⟨sh, hsh⟩ : ∃ sh, sh = tg.take i ++ tg.drop (i + 1) := ⟨_, rfl⟩
      rw [← hsh]
      have hshl : sh.length + 1 = tg.length := by
        rw [hsh, List.length_append, List.length_take, List.length_drop]
        omega
      have hasc : ∀ c ∈ sh, c < 1114112 := fun c hc => by
        rw [hsh] at hc
        rcases List.mem_append.mp hc with z | z
        · exact tasc c (List.mem_of_mem_take z)
        · exact tasc c (List.mem_of_mem_drop z)
      have hcond : (okCut sh = true ∧ gScan [.str (S sh)] = txts (cutL sh)) ∨ (okCut sh = false ∧ gScan [.str (S sh)] = .non) := by
        rw [scan_eq]
        cases okCut sh with
        | true => exact .inl ⟨rfl, rfl⟩
        | false => exact .inr ⟨rfl, rfl⟩
      have hfalse : D.eq (gScan [.str (S sh)]) (txts ts) = false := by
        rcases hcond with ⟨_, e⟩ | ⟨_, e⟩
        · rw [e, eqv_txts]
          refine decide_eq_false fun z => ?_
          have := glen sh z
          omega
        · rw [e]
          show PyData.eqv .none (.list _) = false
          simp [PyData.eqv]
      refine dS_if (dT_or (dT_not (dT_B (dE_call (dA_cons (dE_varE ⟨_, rfl, dA_cons (dE_callF (dA_cons (dE_varE ⟨_, rfl, dA_nil ⟨⟨sh, rfl, by omega, hasc⟩, dA_nil ⟨⟨sh, gScan [.str (S sh)], rfl, by omega, hcond⟩, fun d hd => ?_⟩⟩⟩)))⟩))))))
      subst hd
      refine ⟨true, rfl, fun z => Bool.noConfusion z, fun _ => dT_test (dE_op2 (dE_callF (dA_cons (dE_varE ⟨_, rfl, dA_nil ⟨⟨sh, rfl, by omega, hasc⟩, dE_varE ⟨_, rfl, _, od_eq (scan_ok hasc) htxt, _, rfl, ?_⟩⟩⟩))))⟩
      rw [hfalse]
      refine ⟨fun z => Bool.noConfusion z, fun _ => ?_⟩
      first | refine dS_nextE ?_ | refine dS_next ?_
      exact ⟨_, _, rfl⟩
    subst hG
    refine dS_seq (dS_set (dE_callP (p := p) (n := n1 + 122) (i := 0) rfl ?_))
    refine dA_cons (dE_lst ?_)
    repeat (first | (with_reducible refine dA_cons (dE_str ?_)) | (with_reducible refine dA_cons (dE_int ?_)) | (with_reducible refine dA_cons (dE_non ?_)) | (with_reducible refine dA_cons (dE_bl ?_)) | (with_reducible refine dA_cons (dE_lst ?_)) | (with_reducible refine dA_nil ⟨by decide, ?_⟩))
    refine dA_nil ⟨n1 + 122, rfl, ⟨_, rfl, by decide, by decide⟩, by omega, fun bad hbad => ?_⟩
    obtain ⟨hb1, hb2, hb3, hb4⟩ := bad_facts (hbad _ rfl)
    have hLen : LenD (txts ts) ts.length := by
      show ts.length = (ts.map _).length
      rw [List.length_map]
    refine dS_seq (dS_set (dE_callP (p := p) (n := n1 + 123) (i := 0) rfl (dA_cons (dE_op2 (dE_cb (dA_cons (dE_varE ⟨_, rfl, dA_nil ⟨_, ca_len hLen, dE_int ⟨_, od_add, dA_nil ⟨n1 + 123, rfl, ⟨_, rfl, by omega, by omega⟩, by omega, fun d ⟨m, r, e1, e2, r1, r2⟩ => ?_⟩⟩⟩⟩)))))))
    cases e1
    subst e2
    have hVlen : ∀ lo hi, (cutD (ts.map fun t => D.str (S t)) lo hi).length ≤ 60 := fun lo hi => by
      have := cutD_len (ts.map fun t => D.str (S t)) lo hi
      rw [List.length_map] at this
      omega
    refine dS_seq (dS_for (vs := [11]) (dI_tup (dE_tup (dA_cons (dE_L (dL_cat (dE_L (dL_cat (dE_L (dL_sl (dE_varE ⟨_, rfl, dO_none (dO_some (dE_varE ⟨_, rfl, r, rfl, _, rfl, dE_lst (dA_cons (dE_varE ⟨_, rfl, dA_nil ⟨(by decide : 1 ≤ 1000), _, _, rfl, rfl, ?_, ?_⟩⟩))⟩))⟩)))))))))))
    · have := hVlen none (some r)
      show _ + 1 ≤ _
      omega
    refine dE_L (dL_sl (dE_varE ⟨_, rfl, dO_some (dE_varE ⟨_, rfl, r, rfl, dO_none ⟨_, rfl, _, _, rfl, rfl, ?_, ?_⟩⟩)⟩))
    · have h1 := hVlen none (some r)
      have h2 := hVlen (some r) none
      rw [List.length_append]
      show _ + 1 + _ ≤ _
      omega
    refine dA_cons (dE_tupOf (dA_cons (dE_varE ⟨_, rfl, dA_nil ⟨_, rfl, ?_⟩⟩)))
    refine dA_cons (dE_join (dE_str ⟨_, rfl, dE_varE ⟨_, rfl, ts.map S, by unfold txts; rw [map_S], join_ok htok, ?_⟩⟩))
    refine dA_cons (dE_dictP (dA_cons (dE_L (dL_map (dI_list (dE_varE ⟨_, rfl, _, rfl, (fun d => .tup [d, .int 1]), by rw [List.length_map]; omega, fun d hd => ?_, dA_nil ⟨ts.map fun t => Sum.inr (S t), by rw [List.map_map, List.map_map]; rfl, fun ks' ds' hf hkl => ?_⟩⟩))))))
    · exact dE_tup (dA_cons (dE_varE ⟨_, rfl, dA_cons (dE_int (dA_nil ⟨(by decide : 2 ≤ 1000), rfl, rfl⟩))⟩))
    refine dA_nil ⟨(by decide : 4 ≤ 1000), _, rfl, ?_⟩
    have hVmem : ∀ x ∈ cutD (ts.map fun t => D.str (S t)) none (some r) ++ [bad] ++ cutD (ts.map fun t => D.str (S t)) (some r) none, fits x ∧ shallow x ∧ ∀ m, x = .lst m → m.length ≤ 100000 := fun x hx => by
      have tk : ∀ y ∈ ts.map (fun t => D.str (S t)), fits y ∧ shallow y ∧ ∀ m, y = .lst m → m.length ≤ 100000 := fun y hy => by
        obtain ⟨t, ht, rfl⟩ := List.mem_map.mp hy
        refine ⟨?_, .inl rfl, fun m z => by cases z⟩
        show (S t).length ≤ 1000000
        rw [S_len]
        have := ht9 t ht
        omega
      rcases List.mem_append.mp hx with z | z
      · rcases List.mem_append.mp z with z | z
        · exact tk x (cutD_mem z)
        · rw [List.mem_singleton.mp z]; exact ⟨hb2, hb3, hb4⟩
      · exact tk x (cutD_mem z)
    have hVl : (cutD (ts.map fun t => D.str (S t)) none (some r) ++ [bad] ++ cutD (ts.map fun t => D.str (S t)) (some r) none).length ≤ 1000 := by
      have h1 := hVlen none (some r)
      have h2 := hVlen (some r) none
      rw [List.length_append, List.length_append]
      show _ + 1 + _ ≤ _
      omega
    have hvals : ∀ d ∈ [D.lst (cutD (ts.map fun t => D.str (S t)) none (some r) ++ [bad] ++ cutD (ts.map fun t => D.str (S t)) (some r) none), .tup (ts.map fun t => .str (S t)), .str (Txt.join (Str.ofString " ") (ts.map S)), .dic ks' ds'], ∀ dv, ((d.boxed = false ∧ dv = d) ∨ (d.boxed = true ∧ ∃ a, dv = .is a d)) → ∀ w : Int, toldOk w dv ∧ veryOk dv := by
      intro d hd dv hdv w
      rcases List.mem_cons.mp hd with rfl | hd
      · refine val_ok rfl ⟨rfl, fun l e => ?_⟩ ?_ (fun l z => by cases z) (.inr ⟨.inr (.inl ⟨_, .inl rfl, by omega, fun x hx => shallow_exOk (hVmem x hx).2.1 (hVmem x hx).2.2 1⟩), .inr ⟨_, rfl, fun x hx => (hVmem x hx).2, hVl⟩⟩) hdv w
        · have e := D.lst.inj e
          subst e
          exact ⟨by omega, fun x hx => (hVmem x hx).1⟩
        · show (cutD _ _ _ ++ [bad] ++ cutD _ _ _).all isTok = false
          rw [List.all_append, List.all_append, List.all_cons, hb1]
          simp
      rcases List.mem_cons.mp hd with rfl | hd
      · refine val_ok rfl ⟨rfl, fun l e => by cases e⟩ rfl (fun l z => by cases z) (.inr ⟨.inr (.inl ⟨_, .inr rfl, by rw [List.length_map]; omega, fun x hx => ?_⟩), .inl rfl⟩) hdv w
        obtain ⟨t, ht, rfl⟩ := List.mem_map.mp hx
        exact exOk_flat rfl 2
      rcases List.mem_cons.mp hd with rfl | hd
      · refine val_ok rfl ⟨rfl, fun l e => by cases e⟩ rfl (fun l z => ?_) (.inl rfl) hdv w
        have h1 := D.str.inj z
        rw [show Txt.join (Str.ofString " ") (ts.map S) = S (TL.joinL [32] ts) from join_S [32] ts] at h1
        rw [← str_inj.mp h1]
        have := joinL_len ts ht9
        omega
      rw [List.mem_singleton.mp hd] at hdv
      rw [List.length_map] at hkl
      exact val_ok rfl ⟨rfl, fun l e => by cases e⟩ rfl (fun l z => by cases z) (.inr ⟨.inr (.inr ⟨ks', ds', rfl, hf, by omega, by decide⟩), .inl rfl⟩) hdv w
    refine ⟨fun j G' => ∃ s11 s12, G' = [.pur p (n1 + 124), .imm (txts ts), .own (ts2.map fun t => .str (S t)), .imm (.lst (gb.map fun g => .int (g : Nat))), .imm (.lst (gl.map fun g => .int (g : Nat))), .imm (.str (S tg)), s6, .any, .imm (.int r), s9, .imm bad, s11, s12, .any, .any], ⟨_, _, rfl⟩, fun j d G' hd ⟨s11, s12, hG⟩ => ?_, fun G' ⟨s11, s12, hG⟩ => ?_⟩
    · subst hG
      have hv := hvals d (List.mem_of_getElem? hd)
      refine dG_name (by decide) (dS_isE 11 rfl fun dv hdv => ?_)
      refine dS_for (vs := [12]) (dI_tup (dE_tup (dA_cons (dE_int (dA_cons (dE_int (dA_nil ⟨(by decide : 2 ≤ 1000), _, rfl, ?_⟩)))))))
      refine ⟨fun j G' => ∃ s12, G' = [.pur p (n1 + 124), .imm (txts ts), .own (ts2.map fun t => .str (S t)), .imm (.lst (gb.map fun g => .int (g : Nat))), .imm (.lst (gl.map fun g => .int (g : Nat))), .imm (.str (S tg)), s6, .any, .imm (.int r), s9, .imm bad, .imm dv, s12, .any, .any], ⟨_, rfl⟩, fun j d G' hd ⟨s12, hG⟩ => ?_, fun G' ⟨s12, hG⟩ => ?_⟩
      · subst hG
        obtain ⟨w, rfl, hw⟩ : ∃ w : Int, d = .int w ∧ w ≠ 0 := by
          rcases List.mem_cons.mp (List.mem_of_getElem? hd) with rfl | h
          · exact ⟨1, rfl, by decide⟩
          · exact ⟨2, List.mem_singleton.mp h, by decide⟩
        obtain ⟨hto, hve⟩ := hv dv hdv w
        refine dG_name (by decide) ?_
        refine dS_if (dT_not (dT_B (dE_call (dA_cons (dE_call (dA_cons (dE_varE ⟨_, rfl, dA_cons (dE_varE ⟨_, rfl, dA_nil ⟨⟨w, dv, rfl, hto⟩, fun r' hr' => ?_⟩⟩)⟩)))))))
        have e := (hr' w dv rfl).2 fun z => absurd z hw
        subst e
        refine dA_cons (dE_varE ⟨_, rfl, dA_nil ⟨⟨dv, rfl, hve⟩, fun r hr => ?_⟩⟩)
        subst hr
        refine ⟨true, rfl, fun z => Bool.noConfusion z, fun _ => ?_⟩
        first | refine dS_nextE ?_ | refine dS_next ?_
        exact ⟨_, rfl⟩
      · subst hG
        exact ⟨_, _, rfl⟩
    subst hG
    exact dS_ret (dE_bl ⟨rfl, n1 + 124, by omega, rfl⟩)
end
end K2
namespace K2
open PySem L2 Kr
local macro_rules | `(tactic| one_item) => `(tactic| first
  | (with_reducible refine dS_seq ?_) | (with_reducible refine dS_ret ?_) | (with_reducible refine dS_if ?_) | (with_reducible refine dS_next ?_) | (with_reducible refine dS_nextE ?_) | (with_reducible refine dS_brkE ?_) | (with_reducible refine dS_ctE ?_)
  | (with_reducible refine dT_B ?_) | (with_reducible refine dT_test ?_) | (with_reducible refine dT_and ?_) | (with_reducible refine dT_or ?_) | (with_reducible refine dT_not ?_)
  | (with_reducible refine dE_and ?_) | (with_reducible refine dE_or ?_) | (with_reducible refine dE_not ?_) | (with_reducible refine dE_if ?_)
  | (with_reducible refine dE_int ?_) | (with_reducible refine dE_str ?_) | (with_reducible refine dE_bl ?_) | (with_reducible refine dE_non ?_)
  | ((with_reducible refine dE_varE ?_); refine ⟨_, rfl, ?_⟩) | ((with_reducible refine dE_ownE ?_); refine ⟨_, rfl, ?_⟩)
  | (with_reducible refine dE_ix ?_) | (with_reducible refine dE_op2 ?_) | (with_reducible refine dE_chain ?_) | (with_reducible refine dE_un ?_) | (with_reducible refine dA_cons ?_) | (with_reducible refine dA_nil ?_) | (with_reducible refine dE_callF ?_) | (with_reducible refine dE_tup ?_)
  | (refine ⟨fun (_ : true = true) => ?_, fun z => Bool.noConfusion z⟩) | (refine ⟨fun z => Bool.noConfusion z, fun (_ : false = false) => ?_⟩)
  | (with_reducible refine dE_callP (i := 0) rfl ?_)
  | (with_reducible refine dE_isStr ?_) | (with_reducible refine dE_isInt ?_) | (with_reducible refine dE_isBool ?_) | (with_reducible refine dE_isList ?_) | (with_reducible refine dE_isTup ?_) | (with_reducible refine dE_isDict ?_) | (with_reducible refine dE_cb ?_) | (with_reducible refine dE_lc ?_) | (with_reducible refine dE_lstF ?_) | (with_reducible refine dI_list ?_) | (with_reducible refine dI_tup ?_) | (with_reducible refine dI_str ?_) | (with_reducible refine dI_rng1 ?_) | (with_reducible refine dI_rng2 ?_) | (with_reducible refine dS_set ?_) | (with_reducible refine dS_augI ?_) | (with_reducible refine dS_brk ?_) | (with_reducible refine dS_ct ?_) | (with_reducible refine dO_none ?_) | (with_reducible refine dO_some ?_))
local macro_rules | `(tactic| one_place) => `(tactic| (repeat' one_item))
section
variable {P : Program} {w : World} {K : PySem.W.Frag} {mg : Str → Option Value} {base : Heap}
/-! ### edges; the law -/
def tokEq : List D → List (List Nat) → Bool
  | [], [] => true
  | .str x :: ds, t :: ts => decide (x.cps.toList = t) && tokEq ds ts
  | _, _ => false
theorem tokEq_map : ∀ (ds : List D) (ts : List (List Nat)), tokEq ds ts = true → ds = ts.map fun t => .str (S t) := by
  intro ds
  induction ds with
  | nil =>
    intro ts h
    cases ts with
    | nil => rfl
    | cons t ts => cases h
  | cons d ds ih =>
    intro ts h
    cases ts with
    | nil => cases d <;> cases h
    | cons t ts =>
      cases d with
      | str x =>
        have h' : (decide (x.cps.toList = t) && tokEq ds ts) = true := h
        rw [Bool.and_eq_true, decide_eq_true_eq] at h'
        rw [ih ts h'.2, ← h'.1]
        rfl
      | _ => cases h
def chk2 : D → D → Bool
  | .str x, .non => decide (x.cps.toList.length ≤ 100) && !okCut x.cps.toList
  | .str x, .lst ds => decide (x.cps.toList.length ≤ 100) && (okCut x.cps.toList && tokEq ds (cutL x.cps.toList))
  | _, _ => false
def chkL : List D → Bool
  | [a, b] => chk2 a b
  | _ => false
def rowChk : D → Bool
  | .tup l => chkL l
  | _ => false
theorem rowChk_ok {d : D} (h : rowChk d = true) : ∃ (l : List Nat) (e : D), d = .tup [.str (S l), e] ∧ l.length ≤ 10000 ∧ ((okCut l = true ∧ e = txts (cutL l)) ∨ (okCut l = false ∧ e = .non)) := by
  cases d with
  | tup l =>
    have h : chkL l = true := h
    cases l with
    | nil => cases h
    | cons a l =>
      cases l with
      | nil => cases h
      | cons b l =>
        cases l with
        | cons c l => cases h
        | nil =>
          have h : chk2 a b = true := h
          cases a with
          | str x =>
            cases b with
            | non =>
              have h : (decide (x.cps.toList.length ≤ 100) && !okCut x.cps.toList) = true := h
              rw [Bool.and_eq_true, decide_eq_true_eq] at h
              exact ⟨x.cps.toList, .non, rfl, by omega, .inr ⟨by simpa using h.2, rfl⟩⟩
            | lst ds =>
              have h : (decide (x.cps.toList.length ≤ 100) && (okCut x.cps.toList && tokEq ds (cutL x.cps.toList))) = true := h
              rw [Bool.and_eq_true, decide_eq_true_eq, Bool.and_eq_true] at h
              exact ⟨x.cps.toList, _, rfl, by omega, .inl ⟨h.2.1, by rw [tokEq_map _ _ h.2.2]; rfl⟩⟩
            | _ => cases h
          | _ => cases b <;> cases h
  | _ => cases h
theorem val_ok0 {d dv : D} (h1 : d.noIns = true) (h4 : d.isStr = false) (h5 : d.flat = true ∨ (exOk 3 d ∧ (d.isList = false ∨ ∃ l, d = .lst l ∧ (∀ x ∈ l, shallow x ∧ ∀ m, x = .lst m → m.length ≤ 100000) ∧ l.length ≤ 1000)))
    (hd : (d.boxed = false ∧ dv = d) ∨ (d.boxed = true ∧ ∃ a, dv = .is a d)) : toldOk 0 dv ∧ veryOk dv ∧ ∀ l, dv = .str (S l) → okCut l = false := by
  rcases hd with ⟨hb, rfl⟩ | ⟨hb, a, rfl⟩
  · have hf : dv.flat = true := by cases dv <;> first | rfl | (cases hb; done) | (cases h1; done)
    exact ⟨⟨by rw [un_self h1]; exact h1, fun z => by rw [un_self h1]; exact z, fun l z => (by rw [z] at h4; cases h4), fun z => absurd rfl z⟩, .inl hf, fun l z => (by rw [z] at h4; cases h4)⟩
  · refine ⟨⟨h1, fun _ => h4, fun l z => (by cases z), fun z => absurd rfl z⟩, .inr ⟨a, d, rfl, ?_⟩, fun l z => (by cases z)⟩
    rcases h5 with h5 | ⟨h5, h6⟩
    · cases d <;> first | (cases hb; done) | (cases h5; done)
    · exact ⟨h5, h1, h6⟩
theorem row_get {R : List D} (h : R.all rowChk = true) {j : Nat} {d : D} (hd : R[j]? = some d) : ∃ (l : List Nat) (e : D), d = .tup [.str (S l), e] ∧ l.length ≤ 10000 ∧ ((okCut l = true ∧ e = txts (cutL l)) ∨ (okCut l = false ∧ e = .non)) :=
  rowChk_ok (List.all_eq_true.mp h d (List.mem_of_getElem? hd))
theorem edge_vals {d : D} (hd : d ∈ [D.non, .int 7, .bl true, .lst [.str (Str.ofString "a")], .tup [.str (Str.ofString "a")], .dic [Sum.inr (Str.ofString "a")] [.int 1], .lst []]) {dv : D} (hv : (d.boxed = false ∧ dv = d) ∨ (d.boxed = true ∧ ∃ a, dv = .is a d)) :
    toldOk 0 dv ∧ veryOk dv ∧ ∀ l, dv = .str (S l) → okCut l = false := by
  have one : ∀ e ∈ [D.str (Str.ofString "a")], exOk 2 e := fun e he => by
    rw [List.mem_singleton.mp he]
    exact exOk_flat rfl 2
  simp only [List.mem_cons, List.not_mem_nil, or_false] at hd
  rcases hd with rfl | rfl | rfl | rfl | rfl | rfl | rfl
  · exact val_ok0 rfl rfl (.inl rfl) hv
  · exact val_ok0 rfl rfl (.inl rfl) hv
  · exact val_ok0 rfl rfl (.inl rfl) hv
  · exact val_ok0 rfl rfl (.inr ⟨.inr (.inl ⟨_, .inl rfl, by decide, one⟩), .inr ⟨_, rfl, fun x hx => by rw [List.mem_singleton.mp hx]; exact ⟨.inl rfl, fun m z => by cases z⟩, by decide⟩⟩) hv
  · exact val_ok0 rfl rfl (.inr ⟨.inr (.inl ⟨_, .inr rfl, by decide, one⟩), .inl rfl⟩) hv
  · exact val_ok0 rfl rfl (.inr ⟨.inr (.inr ⟨_, _, rfl, rfl, by decide, by decide⟩), .inl rfl⟩) hv
  · exact val_ok0 rfl rfl (.inr ⟨.inr (.inl ⟨_, .inl rfl, by decide, fun e he => by cases he⟩), .inr ⟨_, rfl, fun x hx => (by cases hx), by decide⟩⟩) hv
theorem toks_nil : toks [] := ⟨by decide, fun t h => by cases h⟩
abbrev sp_edges : Sp := spF (fun ds => ds = []) (fun _ => .bl true)
theorem ok_edges (T : Txt K mg) (c__law_cut_right : Con P w K mg base "_law_cut_right" p__law_cut_right 9 sp_cutR) (c__law_told : Con P w K mg base "_law_told" p__law_told 8 sp_told) (c__law_very : Con P w K mg base "_law_very" p__law_very 7 sp_very)
    (c_line_of : Con P w K mg base "line_of" p_line_of 7 sp_line_of) (c_tight_line : Con P w K mg base "tight_line" p_tight_line 7 sp_tight_line) (ce_cut : ConE P w K mg base "cut" s_cut p_cut 6 sp_cut) : Con P w K mg base "_law_edges_right" p__law_edges_right 10 sp_edges := by
  refine conF T.d__law_edges_right sc__law_edges_right (fun ds h => ?_) (fun f cdv A outer s H E hr => ⟨_, (pss_cons (ps_set (i := 0) sc__law_edges_right.nd rfl (.inl rfl) (pe_lst (pa_cons (pe_tup (pa_cons pe_str (pa_cons (pe_lst pa_nil) pa_nil))) (pa_cons (pe_tup (pa_cons pe_str (pa_cons (pe_lst pa_nil) pa_nil))) (pa_cons (pe_tup (pa_cons pe_str (pa_cons (pe_lst (pa_cons pe_str (pa_cons pe_str pa_nil))) pa_nil))) (pa_cons (pe_tup (pa_cons pe_str (pa_cons pe_non pa_nil))) (pa_cons (pe_tup (pa_cons pe_str (pa_cons (pe_lst (pa_cons pe_str pa_nil)) pa_nil))) pa_nil)))))))
      (pss_cons (ps_set (i := 0) sc__law_edges_right.nd rfl (.inl rfl) (pe_op op_addA (pv 0) (pe_lst (pa_cons (pe_tup (pa_cons pe_str (pa_cons pe_non pa_nil))) (pa_cons (pe_tup (pa_cons pe_str (pa_cons pe_non pa_nil))) (pa_cons (pe_tup (pa_cons pe_str (pa_cons (pe_lst (pa_cons pe_str (pa_cons pe_str pa_nil))) pa_nil))) (pa_cons (pe_tup (pa_cons pe_str (pa_cons pe_non pa_nil))) (pa_cons (pe_tup (pa_cons pe_str (pa_cons (pe_lst (pa_cons pe_str pa_nil)) pa_nil))) (pa_cons (pe_tup (pa_cons pe_str (pa_cons pe_non pa_nil))) (pa_cons (pe_tup (pa_cons pe_str (pa_cons pe_non pa_nil))) pa_nil))))))))))
      (pss_cons (ps_set (i := 0) sc__law_edges_right.nd rfl (.inl rfl) (pe_op op_addA (pv 0) (pe_lst (pa_cons (pe_tup (pa_cons pe_str (pa_cons pe_non pa_nil))) (pa_cons (pe_tup (pa_cons pe_str (pa_cons (pe_lst (pa_cons pe_str (pa_cons pe_str pa_nil))) pa_nil))) (pa_cons (pe_tup (pa_cons pe_str (pa_cons (pe_lst (pa_cons pe_str (pa_cons pe_str pa_nil))) pa_nil))) (pa_cons (pe_tup (pa_cons pe_str (pa_cons (pe_lst (pa_cons pe_str (pa_cons pe_str (pa_cons pe_str pa_nil)))) pa_nil))) (pa_cons (pe_tup (pa_cons pe_str (pa_cons pe_non pa_nil))) pa_nil))))))))
      (pss_cons (ps_set (i := 0) sc__law_edges_right.nd rfl (.inl rfl) (pe_op op_addA (pv 0) (pe_lst (pa_cons (pe_tup (pa_cons pe_str (pa_cons pe_non pa_nil))) (pa_cons (pe_tup (pa_cons pe_str (pa_cons pe_non pa_nil))) (pa_cons (pe_tup (pa_cons pe_str (pa_cons pe_non pa_nil))) (pa_cons (pe_tup (pa_cons pe_str (pa_cons pe_non pa_nil))) (pa_cons (pe_tup (pa_cons pe_str (pa_cons (pe_lst (pa_cons pe_str (pa_cons pe_str (pa_cons pe_str (pa_cons pe_str pa_nil))))) pa_nil))) (pa_cons (pe_tup (pa_cons pe_str (pa_cons pe_non pa_nil))) pa_nil)))))))))
      (pss_cons (ps_set (i := 0) sc__law_edges_right.nd rfl (.inl rfl) (pe_op op_addA (pe_op op_addA (pv 0) (pe_lc (own := [("_law_sign", 4)]) rfl sc__law_edges_right.nd (pi_list (pe_callTy (call_listA rfl) (by rfl) T.n_list (by decide +kernel) (pa_cons pe_str pa_nil))) (blkOk_by (own := [("_law_sign", 4)]) (N := n__law_edges_right) (sc := defScope s__law_edges_right) (by decide +kernel)) (fun _ _ _ _ _ => (pg_name (i := 4) sc__law_edges_right.nd rfl (Or.inl rfl))) (fun _ _ _ _ _ => pts_nil) (fun _ _ _ _ _ => (pe_tup (pa_cons (pv 4) (pa_cons (pe_lst (pa_cons (pv 4) pa_nil)) pa_nil)))))) (pe_lc (own := [("_law_sign", 4)]) rfl sc__law_edges_right.nd (pi_list (pe_callTy (call_listA rfl) (by rfl) T.n_list (by decide +kernel) (pa_cons pe_str pa_nil))) (blkOk_by (own := [("_law_sign", 4)]) (N := n__law_edges_right) (sc := defScope s__law_edges_right) (by decide +kernel)) (fun _ _ _ _ _ => (pg_name (i := 4) sc__law_edges_right.nd rfl (Or.inl rfl))) (fun _ _ _ _ _ => pts_nil) (fun _ _ _ _ _ => (pe_tup (pa_cons (pv 4) (pa_cons pe_non pa_nil)))))))
      (pss_cons (ps_set (i := 0) sc__law_edges_right.nd rfl (.inl rfl) (pe_op op_addA (pv 0) (pe_lst (pa_cons (pe_tup (pa_cons pe_str (pa_cons pe_non pa_nil))) (pa_cons (pe_tup (pa_cons pe_str (pa_cons pe_non pa_nil))) (pa_cons (pe_tup (pa_cons pe_str (pa_cons pe_non pa_nil))) (pa_cons (pe_tup (pa_cons pe_str (pa_cons (pe_lst (pa_cons pe_str pa_nil)) pa_nil))) (pa_cons (pe_tup (pa_cons pe_str (pa_cons (pe_lst (pa_cons pe_str pa_nil)) pa_nil))) (pa_cons (pe_tup (pa_cons pe_str (pa_cons (pe_lst (pa_cons pe_str (pa_cons pe_str pa_nil))) pa_nil))) (pa_cons (pe_tup (pa_cons pe_str (pa_cons (pe_lst (pa_cons pe_str (pa_cons pe_str (pa_cons pe_str pa_nil)))) pa_nil))) pa_nil))))))))))
      (pss_cons (ps_for PassesOwn.never rfl (pi_list (pv 0)) (pg_tup rfl (pgs_cons (pg_name (i := 1) sc__law_edges_right.nd rfl (.inl rfl)) (pgs_cons (pg_name (i := 2) sc__law_edges_right.nd rfl (.inl rfl)) pgs_nil))) (pss_one (ps_if (pt_not (pt_val (pe_con c__law_cut_right (hr.mono (by decide)) (by rfl) (pa_cons (pv 1) (pa_cons (pv 2) pa_nil))))) (pss_one (ps_ret pe_bl)) pss_nil)))
      (pss_cons (ps_for PassesOwn.never rfl (pi_tup (pe_tup (pa_cons pe_non (pa_cons pe_int (pa_cons pe_bl (pa_cons (pe_lst (pa_cons pe_str pa_nil)) (pa_cons (pe_tup (pa_cons pe_str pa_nil)) (pa_cons (pe_disp (pps_cons pe_str pe_int pps_nil) rfl rfl (by decide) (by decide)) (pa_cons (pe_lst pa_nil) pa_nil))))))))) (pg_name (i := 3) sc__law_edges_right.nd rfl (.inl rfl)) (pss_one (ps_if (pt_not (pt_val (pe_con c__law_very (hr.mono (by decide)) (by rfl) (pa_cons (pe_con c__law_told (hr.mono (by decide)) (by rfl) (pa_cons pe_int (pa_cons (pv 3) pa_nil))) (pa_cons (pv 3) pa_nil))))) (pss_one (ps_ret pe_bl)) pss_nil)))
      (pss_one (ps_ret (pe_and (pe_cmpR (op_eqA hr.units) (pe_con c_line_of (hr.mono (by decide)) (by rfl) (pa_cons (pe_lst pa_nil) pa_nil)) pe_str (nomark _)) (pe_and (pe_cmpR (op_eqA hr.units) (pe_con c_tight_line (hr.mono (by decide)) (by rfl) (pa_cons (pe_lst pa_nil) pa_nil)) pe_str (nomark _)) (pe_one (pe_cmpR (op_eqA hr.units) (pe_conK0 ce_cut ["line"] (fun _ _ _ _ _ _ ws hl => match ws, hl with | [_], _ => rfl) (hr.mono (by decide)) (by rfl) (pk_cons pe_str pk_nil)) (pe_lst (pa_cons pe_str (pa_cons pe_str (pa_cons pe_str pa_nil)))) (nomark _))))))))))))))), fun ds h => ?_⟩)
  · subst h
    rfl
  · subst h
    refine dS_seq (dS_set (dE_lst ?_))
    repeat (first | (with_reducible refine dA_cons (dE_tup ?_)) | (with_reducible refine dA_cons (dE_lst ?_)) | (with_reducible refine dA_cons (dE_str ?_)) | (with_reducible refine dA_cons (dE_non ?_)) | (with_reducible refine dA_nil ⟨by decide, ?_⟩) | (with_reducible refine dA_nil ?_))
    refine dS_seq (dS_set (dE_L (dL_cat (dE_varE ⟨_, rfl, dE_lst ?_⟩))))
    repeat (first | (with_reducible refine dA_cons (dE_tup ?_)) | (with_reducible refine dA_cons (dE_lst ?_)) | (with_reducible refine dA_cons (dE_str ?_)) | (with_reducible refine dA_cons (dE_non ?_)) | (with_reducible refine dA_cons (dE_int ?_)) | (with_reducible refine dA_cons (dE_bl ?_)) | (with_reducible refine dA_cons (dE_disp1 ?_)) | (with_reducible refine dA_nil ⟨by decide, ?_⟩) | (with_reducible refine dA_nil ?_))
    refine ⟨_, _, rfl, rfl, by decide, ?_⟩
    refine dS_seq (dS_set (dE_L (dL_cat (dE_varE ⟨_, rfl, dE_lst ?_⟩))))
    repeat (first | (with_reducible refine dA_cons (dE_tup ?_)) | (with_reducible refine dA_cons (dE_lst ?_)) | (with_reducible refine dA_cons (dE_str ?_)) | (with_reducible refine dA_cons (dE_non ?_)) | (with_reducible refine dA_cons (dE_int ?_)) | (with_reducible refine dA_cons (dE_bl ?_)) | (with_reducible refine dA_cons (dE_disp1 ?_)) | (with_reducible refine dA_nil ⟨by decide, ?_⟩) | (with_reducible refine dA_nil ?_))
    refine ⟨_, _, rfl, rfl, by decide, ?_⟩
    refine dS_seq (dS_set (dE_L (dL_cat (dE_varE ⟨_, rfl, dE_lst ?_⟩))))
    repeat (first | (with_reducible refine dA_cons (dE_tup ?_)) | (with_reducible refine dA_cons (dE_lst ?_)) | (with_reducible refine dA_cons (dE_str ?_)) | (with_reducible refine dA_cons (dE_non ?_)) | (with_reducible refine dA_cons (dE_int ?_)) | (with_reducible refine dA_cons (dE_bl ?_)) | (with_reducible refine dA_cons (dE_disp1 ?_)) | (with_reducible refine dA_nil ⟨by decide, ?_⟩) | (with_reducible refine dA_nil ?_))
    refine ⟨_, _, rfl, rfl, by decide, ?_⟩
    refine dS_seq (dS_set (dE_L (dL_cat (dE_L (dL_cat (dE_varE ⟨_, rfl, dE_L (dL_map (dI_list (dE_L (dL_listS (dA_cons (dE_str (dA_nil ⟨_, rfl, by rw [sizeLine_eq]; decide, _, rfl, (fun d => .tup [d, .lst [d]]), by decide, fun d hd => ?_, ?_⟩)))))))⟩))))))
    · exact dE_tup (dA_cons (dE_varE ⟨_, rfl, dA_cons (dE_lst (dA_cons (dE_varE ⟨_, rfl, dA_nil ⟨(by decide : 1 ≤ 1000), dA_nil ⟨(by decide : 2 ≤ 1000), rfl, rfl⟩⟩⟩)))⟩))
    refine ⟨_, _, rfl, rfl, by decide, ?_⟩
    refine dE_L (dL_map (dI_list (dE_L (dL_listS (dA_cons (dE_str (dA_nil ⟨_, rfl, by rw [sizeLine_eq]; decide, _, rfl, (fun d => .tup [d, .non]), by decide, fun d hd => ?_, ?_⟩)))))))
    · exact dE_tup (dA_cons (dE_varE ⟨_, rfl, dA_cons (dE_non (dA_nil ⟨(by decide : 2 ≤ 1000), rfl, rfl⟩))⟩))
    refine ⟨_, _, rfl, rfl, by decide, ?_⟩
    refine dS_seq (dS_set (dE_L (dL_cat (dE_varE ⟨_, rfl, dE_lst ?_⟩))))
    repeat (first | (with_reducible refine dA_cons (dE_tup ?_)) | (with_reducible refine dA_cons (dE_lst ?_)) | (with_reducible refine dA_cons (dE_str ?_)) | (with_reducible refine dA_cons (dE_non ?_)) | (with_reducible refine dA_cons (dE_int ?_)) | (with_reducible refine dA_cons (dE_bl ?_)) | (with_reducible refine dA_cons (dE_disp1 ?_)) | (with_reducible refine dA_nil ⟨by decide, ?_⟩) | (with_reducible refine dA_nil ?_))
    refine ⟨_, _, rfl, rfl, by decide, ?_⟩
    refine dS_seq (dS_for (vs := [1, 2]) (dI_list (dE_varE ⟨_, rfl, _, rfl, ?_⟩)))
    refine ⟨fun j G' => ∃ x s1 s2, G' = [x, s1, s2, .any, .any], ⟨_, _, _, rfl⟩, fun j d G' hd ⟨x, s1, s2, hG⟩ => ?_, fun G' ⟨x, s1, s2, hG⟩ => ?_⟩
    · subst hG
      obtain ⟨l, e, rfl, hl, hc⟩ := row_get (by decide +kernel) hd
      refine dG_tup rfl (dGs_cons (dG_name (by decide) (dGs_cons (dG_name (by decide) (dGs_nil ?_)))))
      refine dS_if (dT_not (dT_B (dE_call (dA_cons (dE_varE ⟨_, rfl, dA_cons (dE_varE ⟨_, rfl, dA_nil ⟨⟨l, e, rfl, hl, hc⟩, fun d hd => ?_⟩⟩)⟩)))))
      subst hd
      refine ⟨true, rfl, fun z => Bool.noConfusion z, fun _ => ?_⟩
      first | refine dS_nextE ?_ | refine dS_next ?_
      exact ⟨_, _, _, rfl⟩
    subst hG
    refine dS_seq (dS_for (vs := [3]) (dI_tup (dE_tup ?_)))
    repeat (first | (with_reducible refine dA_cons (dE_tup ?_)) | (with_reducible refine dA_cons (dE_lst ?_)) | (with_reducible refine dA_cons (dE_str ?_)) | (with_reducible refine dA_cons (dE_non ?_)) | (with_reducible refine dA_cons (dE_int ?_)) | (with_reducible refine dA_cons (dE_bl ?_)) | (with_reducible refine dA_cons (dE_disp1 ?_)) | (with_reducible refine dA_nil ⟨by decide, ?_⟩) | (with_reducible refine dA_nil ?_))
    refine ⟨_, rfl, fun j G' => ∃ x s1 s2 s3, G' = [x, s1, s2, s3, .any], ⟨_, _, _, _, rfl⟩, fun j d G' hd ⟨x, s1, s2, s3, hG⟩ => ?_, fun G' ⟨x, s1, s2, s3, hG⟩ => ?_⟩
    · subst hG
      have hmem := List.mem_of_getElem? hd
      refine dG_name (by decide) (dS_isE 3 rfl fun dv hdv => ?_)
      obtain ⟨hto, hve, hno⟩ := edge_vals hmem hdv
      refine dS_if (dT_not (dT_B (dE_call (dA_cons (dE_call (dA_cons (dE_int (dA_cons (dE_varE ⟨_, rfl, dA_nil ⟨⟨0, dv, rfl, hto⟩, fun r' hr' => ?_⟩⟩)))))))))
      have e := (hr' 0 dv rfl).2 fun _ => hno
      subst e
      refine dA_cons (dE_varE ⟨_, rfl, dA_nil ⟨⟨dv, rfl, hve⟩, fun r hr => ?_⟩⟩)
      subst hr
      refine ⟨true, rfl, fun z => Bool.noConfusion z, fun _ => ?_⟩
      first | refine dS_nextE ?_ | refine dS_next ?_
      exact ⟨_, _, _, _, rfl⟩
    subst hG
    refine dS_ret (dE_and (dE_op2 (dE_callF (dA_cons (dE_lst (dA_nil ⟨by decide, dA_nil ⟨⟨[], rfl, toks_nil⟩, dE_str ⟨_, od_eqS, _, rfl, fun _ => ?_, fun z => ?_⟩⟩⟩))))))
    · refine dE_and (dE_op2 (dE_call (dA_cons (dE_lst (dA_nil ⟨by decide, dA_nil ⟨⟨[], rfl, toks_nil⟩, fun d hR => ?_⟩⟩)))))
      have hR := hR [] rfl
      subst hR
      refine dE_str ⟨_, od_eqS, _, rfl, fun _ => ?_, fun z => ?_⟩
      · refine dE_op2 (dE_L (dL_callK0 (dA_cons (dE_str (dA_nil ⟨rfl, ⟨_, rfl, by decide, by decide +kernel⟩, fun es hes => ?_⟩)))))
        have hes := hes _ rfl
        subst hes
        refine dE_lst ?_
        repeat (first | (with_reducible refine dA_cons (dE_tup ?_)) | (with_reducible refine dA_cons (dE_lst ?_)) | (with_reducible refine dA_cons (dE_str ?_)) | (with_reducible refine dA_cons (dE_non ?_)) | (with_reducible refine dA_cons (dE_int ?_)) | (with_reducible refine dA_cons (dE_bl ?_)) | (with_reducible refine dA_cons (dE_disp1 ?_)) | (with_reducible refine dA_nil ⟨by decide, ?_⟩) | (with_reducible refine dA_nil ?_))
        refine ⟨_, od_eq (by decide +kernel) (by decide +kernel), ?_⟩
        show D.bl _ = D.bl true
        exact congrArg D.bl (by decide +kernel)
      · exact absurd z (by decide +kernel)
    · exact absurd z (by decide +kernel)
theorem fnF {x qual : Str} {st : Stmt} {f : Addr} {fd : FuncData} {N ps : List Str} {k : Nat} {pre : List D → Prop} {g : List D → D} (F : Fun K x qual st f fd) (S : FnScope N ps (defScope st)) (len : ∀ ds, pre ds → ds.length = ps.length)
    (hbody : ∀ (cdv : Value) (A : Around) (outer : List PySem.Env) (s : Shared) (H : Hp) (E : XK), Room k (A.deeper (PyProof.Rows.envOfC qual (defScope st) s.heap.objs.size f cdv)) →
      ∃ t, PSs (cxOf CX0 P w K mg base N qual (defScope st) f cdv A outer s H E).nox (defBody st) t ∧ ∀ ds, pre ds → dS E0 (fun _ _ => False) t (slots N ds) (Po.is (g ds))) : FnOk P w K mg base CX0 (k + 1) f fd ps (spF pre g) :=
  fnD F S len fun cdv A outer s H E hr => by
    obtain ⟨t, h1, h2⟩ := hbody cdv A outer s H E hr
    exact ⟨t, h1, fun ds hd => (h2 ds hd).imp (fun _ z => z) (fun _ z => z) (fun _ z => z) fun _ _ z => z⟩
/-! ### the law -/
abbrev sp_law (K : PySem.W.Frag) : Sp := spF (fun ds => ∃ (d : D) (ns : List Int), ds = [d] ∧ ScrD K d ns) (fun _ => .bl true)
theorem ok_law (T : Txt K mg) (c__law_purses : Con P w K mg base "_law_purses" p__law_purses 3 (sp_purses K)) (c__law_text_right : Con P w K mg base "_law_text_right" p__law_text_right 10 sp_textR) (c__law_wild : Con P w K mg base "_law_wild" p__law_wild 5 sp_wild)
    (c__law_cut_right : Con P w K mg base "_law_cut_right" p__law_cut_right 9 sp_cutR) (c__law_scanned : Con P w K mg base "_law_scanned" p__law_scanned 2 sp_scan) (c__law_edges_right : Con P w K mg base "_law_edges_right" p__law_edges_right 10 sp_edges) {f : Addr} {fd : FuncData} (F : Fun K "law" "law" s_law f fd) : FnOk P w K mg base CX0 11 f fd p_law (sp_law K) := by
  refine fnF F sc_law (fun ds h => ?_) (fun cdv A outer s H E hr => ⟨_, (pss_cons (ps_for PassesOwn.never rfl (pi_list (pe_con c__law_purses (hr.mono (by decide)) (by rfl) (pa_cons (pv 0) (pa_cons pe_int pa_nil)))) (pg_name (i := 1) sc_law.nd rfl (.inl rfl)) (pss_cons (ps_if (pt_not (pt_val (pe_con c__law_text_right (hr.mono (by decide)) (by rfl) (pa_cons (pv 1) pa_nil)))) (pss_one (ps_ret pe_bl)) pss_nil)
      (pss_one (ps_for PassesOwn.never rfl (pi_range1 (by rfl) T.n_range (pa_cons pe_int pa_nil)) (pg_name (i := 2) sc_law.nd rfl (.inl rfl)) (pss_cons (ps_set (i := 3) sc_law.nd rfl (.inl rfl) (pe_con c__law_wild (hr.mono (by decide)) (by rfl) (pa_cons (pv 1) pa_nil)))
      (pss_one (ps_if (pt_not (pt_val (pe_con c__law_cut_right (hr.mono (by decide)) (by rfl) (pa_cons (pv 3) (pa_cons (pe_con c__law_scanned (hr.mono (by decide)) (by rfl) (pa_cons (pv 3) pa_nil)) pa_nil))))) (pss_one (ps_ret pe_bl)) pss_nil)))))))
      (pss_one (ps_ret (pe_con0 c__law_edges_right (hr.mono (by decide)) (by rfl))))), fun ds h => ?_⟩)
  · obtain ⟨d, ns, rfl, _⟩ := h
    rfl
  · obtain ⟨d0, ns, rfl, hd0⟩ := h
    refine dS_seq (dS_forPs (fun s hs => ?_) rfl (dA_cons (dE_varE ⟨_, rfl, dA_cons (dE_int (dA_nil ⟨⟨d0, ns, 3, rfl, hd0, by decide⟩, rfl⟩))⟩)) (fun p => ?_) ?_)
    · have hs : s ∈ [Sl.imm d0, .any, .any, .any] := hs
      simp only [List.mem_cons, List.not_mem_nil, or_false] at hs
      rcases hs with rfl | rfl | rfl | rfl <;> rfl
    · refine dS_nxany 2 (dS_nxany 3 ?_)
      refine dS_seq (dS_if (dT_not (dT_B (dE_callP (p := p) (n := 0) (i := 1) rfl (dA_nil ⟨0, rfl, rfl, by decide, fun d hd => ?_⟩)))))
      subst hd
      refine ⟨true, rfl, fun z => Bool.noConfusion z, fun _ => dS_next ?_⟩
      refine dS_for (vs := [2]) (dI_rng1 (dA_cons (dE_int (dA_nil ⟨8, rfl, by decide, by decide, ?_⟩))))
      refine ⟨fun j G' => ∃ n s2 s3, n ≤ 2000 + 32 * j ∧ G' = [.imm d0, .pur p n, s2, s3], ⟨2000, _, _, by decide, rfl⟩, fun j d G' hd ⟨n, s2, s3, hn, hG⟩ => ?_, fun G' ⟨n, s2, s3, hn, hG⟩ => ?_⟩
      · subst hG
        have hj := (List.getElem?_eq_some_iff.mp hd).1
        rw [nats_length] at hj
        have hj : j < 8 := hj
        refine dG_name (by decide) ?_
        refine dS_seq (dS_set (dE_callP (p := p) (n := n) (i := 1) rfl (dA_nil ⟨n, rfl, rfl, by omega, fun d ⟨l, e, hl, hc⟩ => ?_⟩)))
        subst e
        have hcond : (okCut l = true ∧ gScan [.str (S l)] = txts (cutL l)) ∨ (okCut l = false ∧ gScan [.str (S l)] = .non) := by
          rw [scan_eq]
          cases okCut l with
          | true => exact .inl ⟨rfl, rfl⟩
          | false => exact .inr ⟨rfl, rfl⟩
        refine dS_if (dT_not (dT_B (dE_call (dA_cons (dE_varE ⟨_, rfl, dA_cons (dE_callF (dA_cons (dE_varE ⟨_, rfl, dA_nil ⟨⟨l, rfl, by omega, hc⟩, dA_nil ⟨⟨l, gScan [.str (S l)], rfl, by omega, hcond⟩, fun d hd => ?_⟩⟩⟩)))⟩)))))
        subst hd
        refine ⟨true, rfl, fun z => Bool.noConfusion z, fun _ => ?_⟩
        first | refine dS_nextE ?_ | refine dS_next ?_
        exact ⟨n + 32, _, _, by omega, rfl⟩
      · subst hG
        exact ⟨n, rfl⟩
    exact dS_ret (dE_callF (dA_nil ⟨rfl, rfl⟩))
/-- all of it -/
theorem ok_all {C fI : Addr} (T : Txt K mg) (TE : PySem.Kex.ValTxt P K mg "InvalidText" C fI) {f : Addr} {fd : FuncData} (F : Fun K "law" "law" s_law f fd) : FnOk P w K mg base CX0 11 f fd p_law (sp_law K) := by
  have a1 : Con P w K mg base "has_only" p_has_only 1 sp_has_only := ok_has_only T
  have a2 := ok_is_run T a1
  have a3 := ok_is_word T a2
  have a4 := ok_is_number T a2
  have a5 := ok_kind_of T a3 a4
  have b1 := ok_is_text T a5
  have b2 := ok_is_token T a5
  have b3 : Con P w K mg base "run_end" p_run_end 1 sp_run_end := ok_run_end T
  have b4 := ok_token_end T b3
  have c1 := ok_check_text T b1
  have c2 := ok_line_of T c1
  have d1 := ok_run_together T a5
  have d2 := ok_tight_line T c1 d1
  have e1 := oke_cut T b4 b2
  have x1 := okx_check_text T TE b1
  have x2 := okx_cut T TE b4 b2
  have x3 := okx_line_of T x1
  have x4 := okx_tight_line T x1 d1
  have g1 : Con P w K mg base "_law_mixed" p__law_mixed 2 sp_mixed := ok_mixed T
  have g2 := ok_draw T g1
  have h1 := ok_one_of T g2
  have h2 := ok_word T g2
  have i1 := ok_number T g2
  have i2 := ok_token T g2 h2 i1 h1
  have i3 := ok_wild T g2 h1
  have j1 : Con P w K mg base "_law_purse" p__law_purse 2 (sp_purse K) := ok_purse T
  have j2 := ok_purses T j1
  have k1 : Con P w K mg base "_law_kind" p__law_kind 1 sp_kindL := ok_kindL T
  have k2 := ok_joined T k1
  have k3 : Con P w K mg base "_law_good" p__law_good 1 sp_good := ok_good T
  have l1 := ok_lineL T k2
  have l2 := ok_scan T k3
  have m1 : Con P w K mg base "_law_exact" p__law_exact 6 (sp_exact 5) := ok_exact T 5
  have m2 := ok_told T TE x2 x3 x4
  have n1 := ok_very T m1
  have n2 := ok_cutR T m1 m2
  have r1 := ok_textR T g2 i2 h1 l1 m1 c2 d2 e1.con l2 n2 m2 n1
  have s1 := ok_edges T n2 m2 n1 c2 d2 e1
  exact ok_law T j2 r1 i3 n2 l2 s1 F
end
end K2
open PySem PySem.W PyProof.Rows
set_option maxHeartbeats 0 in
open_top hd for PySem.Challenge.rw_keptreadings_k02_whole_cut_and_lines
namespace K2
open PySem L2 Kr
abbrev DA {K : PySem.W.Frag} {h : Heap} (_ : K.In h) (mg : Str → Option Value) (x : Str) (st : Stmt) (ps : List Str) : Prop := DefAt K mg x st ps
abbrev TX {K : PySem.W.Frag} {h : Heap} (_ : K.In h) (mg : Str → Option Value) : Prop := Txt K mg
abbrev VX (P : Program) {K : PySem.W.Frag} {h : Heap} (_ : K.In h) (mg : Str → Option Value) : Prop := ∃ C fI, PySem.Kex.ValTxt P K mg "InvalidText" C fI
theorem def_mk {K : PySem.W.Frag} {h : Heap} {mg : Str → Option Value} {x : Str} {st : Stmt} {ps : List Str} {f : Addr} {oc kV dc pm cd ct : Value} {od an : Option Addr} {sl : Array (Option Value)} (X : K.In h) (G : h.Ns mainGlobals mg)
    (a : PySem.W.nsIn K mainGlobals x = some (some (.ref f))) (l : K.lookup f = some ⟨oc, od, .func (PySem.W.fnOf x x (defArgs st) (defBody st) (defScope st) .none kV dc pm an cd ct), sl⟩) (c : PySem.W.codeIn K cd x = true) (k : PySem.W.keepIn K (.ref f) = true)
    (hb : ∀ (kV doc pm : Value) (an : Option Addr) (cdv ct : Value) (us : List Value), us.length = ps.length → bindArgs (PySem.W.fnOf x x (defArgs st) (defBody st) (defScope st) .none kV doc pm an cdv ct) ⟨us, []⟩ = pure (ps.zip us)) : DefAt K mg x st ps :=
  ⟨⟨f, _, fun_mk l c k, PySem.W.mg_of X G a, (fun_mk l c k).binds hb⟩⟩
theorem str_mk {K : PySem.W.Frag} {h : Heap} {mg : Str → Option Value} {x y : Str} {t : Tok} (X : K.In h) (G : h.Ns mainGlobals mg) (a : PySem.W.nsIn K mainGlobals x = some (some (.str y t))) : ∃ t, mg x = some (.str y t) := ⟨t, PySem.W.mg_of X G a⟩
theorem int_mk {K : PySem.W.Frag} {h : Heap} {mg : Str → Option Value} {x : Str} {y : Int} {t : Tok} (X : K.In h) (G : h.Ns mainGlobals mg) (a : PySem.W.nsIn K mainGlobals x = some (some (.int y t))) : ∃ t, mg x = some (.int y t) := ⟨t, PySem.W.mg_of X G a⟩
theorem exm_self {K : PySem.W.Frag} {S : Addr} (h1 : PySem.W.subIn K (.ref S) (.type "BaseException") = some true) (h2 : PySem.W.isClsIn K S = true) (h3 : PySem.W.typeIn K (.ref S) = some (.type "type")) (h4 : PySem.W.subIn K (.ref S) (.ref S) = some true) :
    PySem.W.exmOne K (.ref S) (.ref S) = some true := by
  have e1 : (PySem.W.subIn K (.ref S) (.type "BaseException") == some true) = true := by rw [h1] <;> rfl
  have e2 : ((PySem.W.clsIn K S).isSome && PySem.W.typeIn K (.ref S) == some (.type "type")) = true := by
    have h2' : (PySem.W.clsIn K S).isSome = true := h2
    rw [h2', h3] <;> rfl
  show (if (PySem.W.subIn K (.ref S) (.type "BaseException") == some true) = true then (if ((PySem.W.clsIn K S).isSome && PySem.W.typeIn K (.ref S) == some (.type "type")) = true then PySem.W.subIn K (.ref S) (.ref S) else none) else none) = some true
  rw [if_pos e1, if_pos e2]
  exact h4
theorem val_mk {P : Program} {K : PySem.W.Frag} {h : Heap} {mg : Str → Option Value} {C fI : Addr} (X : K.In h) (G : h.Ns mainGlobals mg)
    {nm q : Str} {N : Addr} {bs bm : List Value} {sn : List Str} {sub : List Value} {ab : Bool} {col : Option Bool} {dd : Option Addr} {k0 k1 k2 k3 k5 : Option Value}
    {oc : Value} {od : Option Addr} {dt : Addr} {doc pm : Value} {an : Option Addr} {cda cc : Addr} {ct : Value} {osl : Array (Option Value)} {qn : Str} {p1 p2 p3 q1 q2 q3 q4 q5 q6 q7 q8 q9 : Pos} {n : Nat}
    {ccl : Value} {cdd : Option Addr} {vs : Array Value} {ccs : Array (Option Value)} {file : Str} {tf : Tok} {cl : Value} {cld : Option Addr} {csl : Array (Option Value)} {dob : Obj} {dn : Nat}
    (gC : PySem.W.nsIn K mainGlobals "InvalidText" = some (some (.ref C)))
    (xL : K.lookup C = some (excClassObj nm q C N bs bm true sn sub ab col dd k0 k1 k2 k3 k5 "ValueError.__new__")) (rv : HandSPX.refsVE bm = true) (al : PySem.W.alongIn K "__init__" bm = some (some (.builtin "ValueError.__init__")))
    (sa : PySem.W.findIn K (.ref C) "__setattr__" = some (some (.builtin "object.__setattr__"))) (ga : PySem.W.findIn K (.ref C) "__getattribute__" = some (some (.builtin "BaseException.__getattribute__"))) (gg : PySem.W.findIn K (.ref C) "__getattr__" = some none) (nb : PySem.W.findIn K (.ref C) "value" = some none)
    (iC : PySem.W.findIn K (.ref C) "__init__" = some (some (.ref fI))) (tC : PySem.W.typeIn K (.ref fI) = some (.type "function")) (kC : PySem.W.keepIn K (.ref C) = true) (eC : PySem.W.subIn K (.ref C) (.type "BaseException") = some true) (vC : PySem.W.subIn K (.ref C) (.type "ValueError") = some true)
    (tyC : PySem.W.typeIn K (.ref C) = some (.type "type")) (hC : PySem.W.hasDictIn K C = true) (isC : PySem.W.isClsIn K C = true) (sC : PySem.W.subIn K (.ref C) (.ref C) = some true) (mC : PySem.W.mroIn K C (.ref C) = some true) (opq : PySem.W.nsIn K PySem.cStatics "thirdparty.any" = some none) (sup : PySem.W.nsIn K mainGlobals "super" = some none) (top : (P.main.scope.names.lookup ("super" : Str)).isSome = false)
    (l : K.lookup fI = some ⟨oc, od, .func (PySem.W.ksFn "__init__" qn (PySem.Kex.iA p1 p2 p3 n) (PySem.Kex.iB q1 q2 q3 q4 q5 q6 q7 q8 q9) PySem.Kex.iS (.ref dt) .none doc pm an (.ref cda) ct cc), osl⟩) (c : PySem.W.codeIn K (.ref cda) qn = true)
    (lc : K.lookup cda = some ⟨ccl, cdd, .fields vs, ccs⟩) (lv : vs[2]? = some (.str file tf)) (fl : ((P.main.file : Str) == file) = true) (lx : K.lookup cc = some ⟨cl, cld, .cell (some (.ref C)), csl⟩) (ld : K.lookup dt = some dob) (lq : dob.data = .seq #[.none] dn) (ln : (q3.endLine == q4.line) = true) : PySem.Kex.ValTxt P K mg "InvalidText" C fI :=
  { gC := PySem.W.mg_of X G gC, cls := ⟨nm, q, N, bs, bm, sn, sub, ab, col, dd, k0, k1, k2, k3, k5, xL, rv, al⟩, sa := sa, ga := ga, gg := gg, noN := nb, iC := iC, tC := tC, kC := kC, exC := eC, veC := vC, tyC := tyC, hdC := hC, te := exm_self eC isC tyC sC, mroC := mC, opq := opq, sup := sup, top := top,
    fn := ⟨oc, od, dt, doc, pm, an, cda, cc, ct, osl, qn, p1, p2, p3, q1, q2, q3, q4, q5, q6, q7, q8, q9, n, l, c, ⟨ccl, cdd, vs, ccs, file, tf, lc, lv, fl⟩, ⟨cl, cld, csl, lx⟩, ⟨dob, dn, ld, lq⟩, ln⟩ }
theorem end_mk {P : Program} {w : World} {K : PySem.W.Frag} {mg : Str → Option Value} {fa C fI : Addr} (T : Txt K mg) (TE : PySem.Kex.ValTxt P K mg "InvalidText" C fI) (hfa : mg "law" = some (.ref fa)) :
    ∃ fd : FuncData, (∀ (s : Shared) (u : Value), BindsTo s fd ⟨[u], []⟩ [("_law_script", u)]) ∧ ∀ base : Heap, K.In base → base.Ns mainGlobals mg → FnOk P w K mg base CX0 11 fa fd ["_law_script"] (sp_law K) := by
  obtain ⟨f, fd, F, g, b⟩ := T.d_law.ex
  have e := hfa.symm.trans g
  cases e
  refine ⟨fd, ?_, fun base _ _ => ok_all T TE F⟩
  obtain ⟨oc, od, kV, doc, pm, an, cdv, ct, osl, rfl, lk, hcd⟩ := F.ex
  exact fun s u => .of_eq rfl
theorem scr_mk {K : PySem.W.Frag} {H : Hp} {a : Addr} {ns : List Int} (hO : Only H) (hS : SqL K H a (ns.map V.int)) : sp_law K [.ref a] H (fun v _ => v = .bl true) fun _ _ _ => False := by
  have fin : ∀ (v : V) (d : D) (H' : Hp), d = .bl true → Same H H' → Rp (Off [] H') v d → v = .bl true := fun v d H' e _ r => by
    subst e
    cases r
    rfl
  rcases hS with hS | hS
  · have hf : ∃ o, H a = some (.frz o (.lst (ns.map V.int))) := by
      rcases hS with hS | hS
      · rcases hO a with z | ⟨o, xs, z⟩
        · rw [z] at hS; cases hS
        · rw [z] at hS; cases hS
      · exact hS
    obtain ⟨o, ho⟩ := hf
    refine ⟨[], [.fz (some (o, ns.map V.int)) a], fun b z => (by cases z), .cons (.fz fun o' xs e => ?_) .nil, ⟨_, ns, rfl, _, a, rfl, .inl ⟨o, rfl⟩⟩, fin⟩
    cases e
    rw [off_nil]
    exact ho
  · exact ⟨[], [.fz none a], fun b z => (by cases z), .cons (.fz fun o' xs e => by cases e) .nil, ⟨_, ns, rfl, _, a, rfl, .inr fun H' => .inr hS⟩, fin⟩
end K2
set_option maxHeartbeats 0 in
theorem PySem.Challenge.cw_keptreadings_k02_whole_cut_and_lines_holds : PySem.Challenge.rw_keptreadings_k02_whole_cut_and_lines.Holds := by
  refine hd ?_
  k_fill
  refine L2.walk_of (l := PySem.Challenge.rw_keptreadings_k02_whole_cut_and_lines) (n := 63) (k := 11) (x := "_law_script") (CX := fun _ => L2.CX0) (sp := fun w => K2.sp_law _) rfl (by decide) rfl ⟨rfl, by decide, by decide⟩ (fun w h Y => PySem.W.kIn_of Y) ?F (fun _ _ _ _ _ hO hS => K2.scr_mk hO hS) (fun _ _ _ _ _ h => h)
  case F =>
    intro w mg fa h KX G hmg
    have TE : K2.VX PySem.Challenge.rw_keptreadings_k02_whole_cut_and_lines.prog KX mg := by
      clear hmg
      refine' ⟨_, _, K2.val_mk KX G ?gC ?xL ?rv ?al ?sa ?ga ?gg ?nb ?iC ?tC ?kC ?eC ?vC ?tyC ?hC ?isC ?sC ?mC ?opq ?sup ?top ?l ?c ?lc ?lv ?fl ?lx ?ld ?lq ?ln⟩
      (case gC => k_is); (case xL => k_is); (case rv => decide +kernel); (case al => kernel_rfl); (case sa => k_is); (case ga => k_is); (case gg => k_is); (case nb => k_is); (case iC => k_is); (case tC => k_is); (case kC => k_is); (case eC => k_is); (case vC => k_is); (case tyC => k_is); (case hC => k_is)
      (case isC => k_is); (case sC => k_is); (case mC => k_is); (case opq => k_is); (case sup => k_is); (case top => decide +kernel)
      (case l => k_is); (case c => k_is); (case lc => k_is); (case lv => rfl); (case fl => decide +kernel); (case lx => k_is); (case ld => k_is); (case lq => rfl); (case ln => decide +kernel)

    have d_has_only : K2.DA KX mg "has_only" K2.s_has_only K2.p_has_only := by
      refine' K2.def_mk KX G ?a ?l ?c ?k (fun _ _ _ _ _ _ us hl => match us, hl with | [_, _], _ => rfl)
      (case a => k_is); (case l => k_is); (case c => k_is); (case k => k_is)
    have d_is_run : K2.DA KX mg "is_run" K2.s_is_run K2.p_is_run := by
      refine' K2.def_mk KX G ?a ?l ?c ?k (fun _ _ _ _ _ _ us hl => match us, hl with | [_, _], _ => rfl)
      (case a => k_is); (case l => k_is); (case c => k_is); (case k => k_is)
    have d_is_word : K2.DA KX mg "is_word" K2.s_is_word K2.p_is_word := by
      refine' K2.def_mk KX G ?a ?l ?c ?k (fun _ _ _ _ _ _ us hl => match us, hl with | [_], _ => rfl)
      (case a => k_is); (case l => k_is); (case c => k_is); (case k => k_is)
    have d_is_number : K2.DA KX mg "is_number" K2.s_is_number K2.p_is_number := by
      refine' K2.def_mk KX G ?a ?l ?c ?k (fun _ _ _ _ _ _ us hl => match us, hl with | [_], _ => rfl)
      (case a => k_is); (case l => k_is); (case c => k_is); (case k => k_is)
    have d_kind_of : K2.DA KX mg "kind_of" K2.s_kind_of K2.p_kind_of := by
      refine' K2.def_mk KX G ?a ?l ?c ?k (fun _ _ _ _ _ _ us hl => match us, hl with | [_], _ => rfl)
      (case a => k_is); (case l => k_is); (case c => k_is); (case k => k_is)
    have d_is_text : K2.DA KX mg "is_text" K2.s_is_text K2.p_is_text := by
      refine' K2.def_mk KX G ?a ?l ?c ?k (fun _ _ _ _ _ _ us hl => match us, hl with | [_], _ => rfl)
      (case a => k_is); (case l => k_is); (case c => k_is); (case k => k_is)
    have d_check_text : K2.DA KX mg "check_text" K2.s_check_text K2.p_check_text := by
      refine' K2.def_mk KX G ?a ?l ?c ?k (fun _ _ _ _ _ _ us hl => match us, hl with | [_], _ => rfl)
      (case a => k_is); (case l => k_is); (case c => k_is); (case k => k_is)
    have d_is_token : K2.DA KX mg "is_token" K2.s_is_token K2.p_is_token := by
      refine' K2.def_mk KX G ?a ?l ?c ?k (fun _ _ _ _ _ _ us hl => match us, hl with | [_], _ => rfl)
      (case a => k_is); (case l => k_is); (case c => k_is); (case k => k_is)
    have d_run_end : K2.DA KX mg "run_end" K2.s_run_end K2.p_run_end := by
      refine' K2.def_mk KX G ?a ?l ?c ?k (fun _ _ _ _ _ _ us hl => match us, hl with | [_, _, _], _ => rfl)
      (case a => k_is); (case l => k_is); (case c => k_is); (case k => k_is)
    have d_token_end : K2.DA KX mg "token_end" K2.s_token_end K2.p_token_end := by
      refine' K2.def_mk KX G ?a ?l ?c ?k (fun _ _ _ _ _ _ us hl => match us, hl with | [_, _], _ => rfl)
      (case a => k_is); (case l => k_is); (case c => k_is); (case k => k_is)
    have d_cut : K2.DA KX mg "cut" K2.s_cut K2.p_cut := by
      refine' K2.def_mk KX G ?a ?l ?c ?k (fun _ _ _ _ _ _ us hl => match us, hl with | [_], _ => rfl)
      (case a => k_is); (case l => k_is); (case c => k_is); (case k => k_is)
    have d_line_of : K2.DA KX mg "line_of" K2.s_line_of K2.p_line_of := by
      refine' K2.def_mk KX G ?a ?l ?c ?k (fun _ _ _ _ _ _ us hl => match us, hl with | [_], _ => rfl)
      (case a => k_is); (case l => k_is); (case c => k_is); (case k => k_is)
    have d_run_together : K2.DA KX mg "run_together" K2.s_run_together K2.p_run_together := by
      refine' K2.def_mk KX G ?a ?l ?c ?k (fun _ _ _ _ _ _ us hl => match us, hl with | [_, _], _ => rfl)
      (case a => k_is); (case l => k_is); (case c => k_is); (case k => k_is)
    have d_tight_line : K2.DA KX mg "tight_line" K2.s_tight_line K2.p_tight_line := by
      refine' K2.def_mk KX G ?a ?l ?c ?k (fun _ _ _ _ _ _ us hl => match us, hl with | [_], _ => rfl)
      (case a => k_is); (case l => k_is); (case c => k_is); (case k => k_is)
    have d__law_purse : K2.DA KX mg "_law_purse" K2.s__law_purse K2.p__law_purse := by
      refine' K2.def_mk KX G ?a ?l ?c ?k (fun _ _ _ _ _ _ us hl => match us, hl with | [_, _], _ => rfl)
      (case a => k_is); (case l => k_is); (case c => k_is); (case k => k_is)
    have d__law_mixed : K2.DA KX mg "_law_mixed" K2.s__law_mixed K2.p__law_mixed := by
      refine' K2.def_mk KX G ?a ?l ?c ?k (fun _ _ _ _ _ _ us hl => match us, hl with | [_, _, _], _ => rfl)
      (case a => k_is); (case l => k_is); (case c => k_is); (case k => k_is)
    have d__law_draw : K2.DA KX mg "_law_draw" K2.s__law_draw K2.p__law_draw := by
      refine' K2.def_mk KX G ?a ?l ?c ?k (fun _ _ _ _ _ _ us hl => match us, hl with | [_, _], _ => rfl)
      (case a => k_is); (case l => k_is); (case c => k_is); (case k => k_is)
    have d__law_purses : K2.DA KX mg "_law_purses" K2.s__law_purses K2.p__law_purses := by
      refine' K2.def_mk KX G ?a ?l ?c ?k (fun _ _ _ _ _ _ us hl => match us, hl with | [_, _], _ => rfl)
      (case a => k_is); (case l => k_is); (case c => k_is); (case k => k_is)
    have d__law_one_of : K2.DA KX mg "_law_one_of" K2.s__law_one_of K2.p__law_one_of := by
      refine' K2.def_mk KX G ?a ?l ?c ?k (fun _ _ _ _ _ _ us hl => match us, hl with | [_, _], _ => rfl)
      (case a => k_is); (case l => k_is); (case c => k_is); (case k => k_is)
    have d__law_exact : K2.DA KX mg "_law_exact" K2.s__law_exact K2.p__law_exact := by
      refine' K2.def_mk KX G ?a ?l ?c ?k (fun _ _ _ _ _ _ us hl => match us, hl with | [_, _], _ => rfl)
      (case a => k_is); (case l => k_is); (case c => k_is); (case k => k_is)
    have d__law_word : K2.DA KX mg "_law_word" K2.s__law_word K2.p__law_word := by
      refine' K2.def_mk KX G ?a ?l ?c ?k (fun _ _ _ _ _ _ us hl => match us, hl with | [_], _ => rfl)
      (case a => k_is); (case l => k_is); (case c => k_is); (case k => k_is)
    have d__law_number : K2.DA KX mg "_law_number" K2.s__law_number K2.p__law_number := by
      refine' K2.def_mk KX G ?a ?l ?c ?k (fun _ _ _ _ _ _ us hl => match us, hl with | [_], _ => rfl)
      (case a => k_is); (case l => k_is); (case c => k_is); (case k => k_is)
    have d__law_token : K2.DA KX mg "_law_token" K2.s__law_token K2.p__law_token := by
      refine' K2.def_mk KX G ?a ?l ?c ?k (fun _ _ _ _ _ _ us hl => match us, hl with | [_], _ => rfl)
      (case a => k_is); (case l => k_is); (case c => k_is); (case k => k_is)
    have d__law_kind : K2.DA KX mg "_law_kind" K2.s__law_kind K2.p__law_kind := by
      refine' K2.def_mk KX G ?a ?l ?c ?k (fun _ _ _ _ _ _ us hl => match us, hl with | [_], _ => rfl)
      (case a => k_is); (case l => k_is); (case c => k_is); (case k => k_is)
    have d__law_joined : K2.DA KX mg "_law_joined" K2.s__law_joined K2.p__law_joined := by
      refine' K2.def_mk KX G ?a ?l ?c ?k (fun _ _ _ _ _ _ us hl => match us, hl with | [_, _], _ => rfl)
      (case a => k_is); (case l => k_is); (case c => k_is); (case k => k_is)
    have d__law_line : K2.DA KX mg "_law_line" K2.s__law_line K2.p__law_line := by
      refine' K2.def_mk KX G ?a ?l ?c ?k (fun _ _ _ _ _ _ us hl => match us, hl with | [_, _], _ => rfl)
      (case a => k_is); (case l => k_is); (case c => k_is); (case k => k_is)
    have d__law_scanned : K2.DA KX mg "_law_scanned" K2.s__law_scanned K2.p__law_scanned := by
      refine' K2.def_mk KX G ?a ?l ?c ?k (fun _ _ _ _ _ _ us hl => match us, hl with | [_], _ => rfl)
      (case a => k_is); (case l => k_is); (case c => k_is); (case k => k_is)
    have d__law_good : K2.DA KX mg "_law_good" K2.s__law_good K2.p__law_good := by
      refine' K2.def_mk KX G ?a ?l ?c ?k (fun _ _ _ _ _ _ us hl => match us, hl with | [_], _ => rfl)
      (case a => k_is); (case l => k_is); (case c => k_is); (case k => k_is)
    have d__law_wild : K2.DA KX mg "_law_wild" K2.s__law_wild K2.p__law_wild := by
      refine' K2.def_mk KX G ?a ?l ?c ?k (fun _ _ _ _ _ _ us hl => match us, hl with | [_], _ => rfl)
      (case a => k_is); (case l => k_is); (case c => k_is); (case k => k_is)
    have d__law_told : K2.DA KX mg "_law_told" K2.s__law_told K2.p__law_told := by
      refine' K2.def_mk KX G ?a ?l ?c ?k (fun _ _ _ _ _ _ us hl => match us, hl with | [_, _], _ => rfl)
      (case a => k_is); (case l => k_is); (case c => k_is); (case k => k_is)
    have d__law_very : K2.DA KX mg "_law_very" K2.s__law_very K2.p__law_very := by
      refine' K2.def_mk KX G ?a ?l ?c ?k (fun _ _ _ _ _ _ us hl => match us, hl with | [_, _], _ => rfl)
      (case a => k_is); (case l => k_is); (case c => k_is); (case k => k_is)
    have d__law_cut_right : K2.DA KX mg "_law_cut_right" K2.s__law_cut_right K2.p__law_cut_right := by
      refine' K2.def_mk KX G ?a ?l ?c ?k (fun _ _ _ _ _ _ us hl => match us, hl with | [_, _], _ => rfl)
      (case a => k_is); (case l => k_is); (case c => k_is); (case k => k_is)
    have d__law_text_right : K2.DA KX mg "_law_text_right" K2.s__law_text_right K2.p__law_text_right := by
      refine' K2.def_mk KX G ?a ?l ?c ?k (fun _ _ _ _ _ _ us hl => match us, hl with | [_], _ => rfl)
      (case a => k_is); (case l => k_is); (case c => k_is); (case k => k_is)
    have d__law_edges_right : K2.DA KX mg "_law_edges_right" K2.s__law_edges_right K2.p__law_edges_right := by
      refine' K2.def_mk KX G ?a ?l ?c ?k (fun _ _ _ _ _ _ us hl => match us, hl with | [], _ => rfl)
      (case a => k_is); (case l => k_is); (case c => k_is); (case k => k_is)
    have d_law : K2.DA KX mg "law" K2.s_law K2.p_law := by
      refine' K2.def_mk KX G ?a ?l ?c ?k (fun _ _ _ _ _ _ us hl => match us, hl with | [_], _ => rfl)
      (case a => k_is); (case l => k_is); (case c => k_is); (case k => k_is)
    have n_all : mg "all" = none := PySem.W.mg_none_of KX G (by k_is)
    have n_bool : mg "bool" = none := PySem.W.mg_none_of KX G (by k_is)
    have n_dict : mg "dict" = none := PySem.W.mg_none_of KX G (by k_is)
    have n_int : mg "int" = none := PySem.W.mg_none_of KX G (by k_is)
    have n_isinstance : mg "isinstance" = none := PySem.W.mg_none_of KX G (by k_is)
    have n_len : mg "len" = none := PySem.W.mg_none_of KX G (by k_is)
    have n_list : mg "list" = none := PySem.W.mg_none_of KX G (by k_is)
    have n_max : mg "max" = none := PySem.W.mg_none_of KX G (by k_is)
    have n_min : mg "min" = none := PySem.W.mg_none_of KX G (by k_is)
    have n_range : mg "range" = none := PySem.W.mg_none_of KX G (by k_is)
    have n_str : mg "str" = none := PySem.W.mg_none_of KX G (by k_is)
    have n_sum : mg "sum" = none := PySem.W.mg_none_of KX G (by k_is)
    have n_tuple : mg "tuple" = none := PySem.W.mg_none_of KX G (by k_is)
    have n_zip : mg "zip" = none := PySem.W.mg_none_of KX G (by k_is)
    have c_FIGURES : ∃ t, mg "FIGURES" = some (.str K2.k_FIGURES t) := by
      refine' K2.str_mk KX G ?a
      (case a => k_is)
    have c_LETTERS : ∃ t, mg "LETTERS" = some (.str K2.k_LETTERS t) := by
      refine' K2.str_mk KX G ?a
      (case a => k_is)
    have c_MOST : ∃ t, mg "MOST" = some (.int 8 t) := by
      refine' K2.int_mk KX G ?a
      (case a => k_is)
    have c_SIGNS : ∃ t, mg "SIGNS" = some (.str K2.k_SIGNS t) := by
      refine' K2.str_mk KX G ?a
      (case a => k_is)
    have T : K2.TX KX mg := { d_has_only := d_has_only, d_is_run := d_is_run, d_is_word := d_is_word, d_is_number := d_is_number, d_kind_of := d_kind_of, d_is_text := d_is_text, d_check_text := d_check_text, d_is_token := d_is_token, d_run_end := d_run_end, d_token_end := d_token_end, d_cut := d_cut, d_line_of := d_line_of, d_run_together := d_run_together, d_tight_line := d_tight_line, d__law_purse := d__law_purse, d__law_mixed := d__law_mixed, d__law_draw := d__law_draw, d__law_purses := d__law_purses, d__law_one_of := d__law_one_of, d__law_exact := d__law_exact, d__law_word := d__law_word, d__law_number := d__law_number, d__law_token := d__law_token, d__law_kind := d__law_kind, d__law_joined := d__law_joined, d__law_line := d__law_line, d__law_scanned := d__law_scanned, d__law_good := d__law_good, d__law_wild := d__law_wild, d__law_told := d__law_told, d__law_very := d__law_very, d__law_cut_right := d__law_cut_right, d__law_text_right := d__law_text_right, d__law_edges_right := d__law_edges_right, d_law := d_law, n_all := n_all, n_bool := n_bool, n_dict := n_dict, n_int := n_int, n_isinstance := n_isinstance, n_len := n_len, n_list := n_list, n_max := n_max, n_min := n_min, n_range := n_range, n_str := n_str, n_sum := n_sum, n_tuple := n_tuple, n_zip := n_zip, c_FIGURES := c_FIGURES, c_LETTERS := c_LETTERS, c_MOST := c_MOST, c_SIGNS := c_SIGNS }
    obtain ⟨C, fI, TE⟩ := TE
    exact K2.end_mk T TE hmg
