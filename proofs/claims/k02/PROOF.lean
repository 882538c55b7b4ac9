import PyProof.Rows.All
import Wide.All
import OpenK.AllK
import Wide.FinOn
import HandS.ForMost
import HandS.Exc
import HandS.TryOnly
import HandS.TryMany
import HandS.ExcOwn
import HandS.IsInst
import HandS.Flow
import HandS.Style
import HandS.Wide
import HandS.WideMore
import HandS.TupLe
import HandS.TupAny
import HandS.TupMul
import KE.GoesEnum
import KE.GoesMore
import KE.GoesZip
import HandS.Iter
import HandS.EndBits
import KE.KxText
import PySem.Challenge.RW_showncalls_k02_logs_by_their_form
set_option Elab.async false
set_option linter.all false
set_option maxRecDepth 100000
set_option maxHeartbeats 4000000
/-! Dv: deep values, a store, and how they lie in a heap of the hand layer -/
namespace L2
namespace Dv
open PySem PySem.Spec PyProof.Rows

/-- a deep value: what is frozen by value, what may still change by its place in the store -/
inductive D where
  | non | bl (b : Bool) | int (i : Int) | str (x : Str)
  | tup (xs : List D) | lst (xs : List D) | dic (ks vs : List D) | obj (c : Nat) (ns : List Str) (vs : List D)
  | loc (n : Nat) | ro (xs : List D)
  deriving Inhabited

/-- what stands at a place of the store -/
inductive MO where
  | lst (xs : List D) | dic (ks vs : List D) | ins (c : Nat) (ns : List Str) (vs : List D)
  deriving Inhabited
abbrev Mem := List (Option MO)

/-- what is fixed: the written part, the classes -/
structure Wd where
  K : PySem.W.Frag
  cl : Nat → Option Addr

mutual
inductive Rp (W : Wd) (F : Hp) (ι : List Addr) : V → D → Prop
  | non : Rp W F ι .non .non
  | bl (b : Bool) : Rp W F ι (.bl b) (.bl b)
  | int (i : Int) : Rp W F ι (.int i) (.int i)
  | str (x : Str) : Rp W F ι (.str x) (.str x)
  | tup {a : Addr} {vs : List V} {ds : List D} : SqT W.K F a vs → Rps W F ι vs ds → Rp W F ι (.ref a) (.tup ds)
  | lst {a : Addr} {vs : List V} {ds : List D} : F a = some (.lst vs) → Rps W F ι vs ds → Rp W F ι (.ref a) (.lst ds)
  | ro {a : Addr} {vs : List V} {ds : List D} : SqL W.K F a vs → Rps W F ι vs ds → Rp W F ι (.ref a) (.ro ds)
  | dic {a : Addr} {kvs : List (Key × V)} {ks ds : List D} : F a = some (.dK kvs) → Rps W F ι (kvs.map fun p => kV p.1) ks → Rps W F ι (kvs.map (·.2)) ds → Rp W F ι (.ref a) (.dic ks ds)
  | obj {a C dx : Addr} {c : Nat} {ns : List Str} {vs : List V} {ds : List D} : W.cl c = some C → F a = some (.ins C dx (ns.zip vs)) → ns.length = vs.length → Rps W F ι vs ds → Rp W F ι (.ref a) (.obj c ns ds)
  | loc {n : Nat} {a : Addr} : ι[n]? = some a → Rp W F ι (.ref a) (.loc n)
inductive Rps (W : Wd) (F : Hp) (ι : List Addr) : List V → List D → Prop
  | nil : Rps W F ι [] []
  | cons {v : V} {vs : List V} {d : D} {ds : List D} : Rp W F ι v d → Rps W F ι vs ds → Rps W F ι (v :: vs) (d :: ds)
end

section
variable {W : Wd} {F F' G H H' : Hp} {ι ι' : List Addr} {v : V} {vs : List V} {d : D} {ds : List D} {a : Addr}
theorem Same.rd {o : HO} (s : Same F F') (h : Rd F a o) : Rd F' a o := by
  rcases h with h | ⟨u, h⟩
  · exact .inl (s _ _ h)
  · exact .inr ⟨u, s _ _ h⟩
theorem Same.seqT {K : PySem.W.Frag} {xs : List V} (s : Same F F') (h : SqT K F a xs) : SqT K F' a xs := by
  rcases h with h | h
  · exact .inl (Same.rd s h)
  · exact .inr h
def Ext (ι ι' : List Addr) : Prop := ∀ (n : Nat) (a : Addr), ι[n]? = some a → ι'[n]? = some a
theorem Ext.refl (ι : List Addr) : Ext ι ι := fun _ _ h => h
theorem Ext.trans {ι1 ι2 ι3 : List Addr} (a : Ext ι1 ι2) (b : Ext ι2 ι3) : Ext ι1 ι3 := fun n x h => b n x (a n x h)
theorem Ext.app (ι l : List Addr) : Ext ι (ι ++ l) := fun n a h => by
  rw [List.getElem?_append_left (List.getElem?_eq_some_iff.mp h).1]
  exact h
mutual
theorem Rp.mono (s : Same F F') (e : Ext ι ι') : ∀ {v : V} {d : D}, Rp W F ι v d → Rp W F' ι' v d
  | _, _, .non => .non
  | _, _, .bl b => .bl b
  | _, _, .int i => .int i
  | _, _, .str x => .str x
  | _, _, .tup h r => .tup (Same.seqT s h) (Rps.mono s e r)
  | _, _, .lst h r => .lst (s _ _ h) (Rps.mono s e r)
  | _, _, .ro h r => .ro (Same.seq s h) (Rps.mono s e r)
  | _, _, .dic h r1 r2 => .dic (s _ _ h) (Rps.mono s e r1) (Rps.mono s e r2)
  | _, _, .obj hc h l r => .obj hc (s _ _ h) l (Rps.mono s e r)
  | _, _, .loc h => .loc (e _ _ h)
theorem Rps.mono (s : Same F F') (e : Ext ι ι') : ∀ {vs : List V} {ds : List D}, Rps W F ι vs ds → Rps W F' ι' vs ds
  | _, _, .nil => .nil
  | _, _, .cons r t => .cons (Rp.mono s e r) (Rps.mono s e t)
end
theorem Rps.length : ∀ {vs : List V} {ds : List D}, Rps W F ι vs ds → vs.length = ds.length
  | _, _, .nil => rfl
  | _, _, .cons _ t => congrArg Nat.succ (Rps.length t)
theorem Rps.get : ∀ {vs : List V} {ds : List D} {i : Nat} {d : D}, Rps W F ι vs ds → ds[i]? = some d → ∃ v, vs[i]? = some v ∧ Rp W F ι v d
  | _, _, _, _, .nil, e => by simp at e
  | _, _, 0, _, .cons r _, e => by simp at e; subst e; exact ⟨_, rfl, r⟩
  | _, _, i + 1, d, .cons _ t, e => by
    obtain ⟨u, h1, h2⟩ := Rps.get (i := i) (d := d) t (by simpa using e)
    exact ⟨u, by simpa using h1, h2⟩
theorem Rps.getv : ∀ {vs : List V} {ds : List D} {i : Nat} {v : V}, Rps W F ι vs ds → vs[i]? = some v → ∃ d, ds[i]? = some d ∧ Rp W F ι v d
  | _, _, _, _, .nil, e => by simp at e
  | _, _, 0, _, .cons r _, e => by simp at e; subst e; exact ⟨_, rfl, r⟩
  | _, _, i + 1, v, .cons _ t, e => by
    obtain ⟨u, h1, h2⟩ := Rps.getv (i := i) (v := v) t (by simpa using e)
    exact ⟨u, by simpa using h1, h2⟩
theorem Rps.append : ∀ {vs ws : List V} {ds es : List D}, Rps W F ι vs ds → Rps W F ι ws es → Rps W F ι (vs ++ ws) (ds ++ es)
  | _, _, _, _, .nil, s => s
  | _, _, _, _, .cons r t, s => .cons r (Rps.append t s)
theorem Rps.take : ∀ {vs : List V} {ds : List D} (n : Nat), Rps W F ι vs ds → Rps W F ι (vs.take n) (ds.take n)
  | _, _, 0, _ => .nil
  | _, _, _ + 1, .nil => .nil
  | _, _, n + 1, .cons r t => .cons r (Rps.take n t)
theorem Rps.drop : ∀ {vs : List V} {ds : List D} (n : Nat), Rps W F ι vs ds → Rps W F ι (vs.drop n) (ds.drop n)
  | _, _, 0, r => r
  | _, _, _ + 1, .nil => .nil
  | _, _, n + 1, .cons _ t => Rps.drop n t
theorem Rps.set {x : V} {e : D} (r : Rp W F ι x e) : ∀ {vs : List V} {ds : List D} (i : Nat), Rps W F ι vs ds → Rps W F ι (vs.set i x) (ds.set i e)
  | _, _, _, .nil => .nil
  | _, _, 0, .cons _ t => .cons r t
  | _, _, i + 1, .cons q t => .cons q (Rps.set r i t)
theorem Rps.eraseIdx : ∀ {vs : List V} {ds : List D} (i : Nat), Rps W F ι vs ds → Rps W F ι (vs.eraseIdx i) (ds.eraseIdx i)
  | _, _, _, .nil => .nil
  | _, _, 0, .cons _ t => t
  | _, _, i + 1, .cons q t => .cons q (Rps.eraseIdx i t)
theorem Rps.reverse {vs : List V} {ds : List D} (r : Rps W F ι vs ds) : Rps W F ι vs.reverse ds.reverse := by
  induction vs generalizing ds with
  | nil => cases r; exact .nil
  | cons v vs ih =>
    cases r with
    | cons h t =>
      rw [List.reverse_cons, List.reverse_cons]
      exact (ih t).append (.cons h .nil)

/-- how an object of the store lies -/
inductive MRp (W : Wd) (F : Hp) (ι : List Addr) : HO → MO → Prop
  | lst {vs : List V} {ds : List D} : Rps W F ι vs ds → MRp W F ι (.lst vs) (.lst ds)
  | dic {kvs : List (Key × V)} {ks ds : List D} : Rps W F ι (kvs.map fun p => kV p.1) ks → Rps W F ι (kvs.map (·.2)) ds → MRp W F ι (.dK kvs) (.dic ks ds)
  | ins {C dx : Addr} {c : Nat} {ns : List Str} {vs : List V} {ds : List D} : W.cl c = some C → ns.length = vs.length → Rps W F ι vs ds → MRp W F ι (.ins C dx (ns.zip vs)) (.ins c ns ds)
theorem MRp.mono {o : HO} {m : MO} (s : Same F F') (e : Ext ι ι') : MRp W F ι o m → MRp W F' ι' o m
  | .lst r => .lst (r.mono s e)
  | .dic r1 r2 => .dic (r1.mono s e) (r2.mono s e)
  | .ins hc l r => .ins hc l (r.mono s e)

/-- the n-th place is alive -/
def live (M : Mem) (n : Nat) : Prop := ∃ o, M[n]? = some (some o)
/-- the store, the frozen part F, the whole heap H, the places' addresses -/
structure Rel (W : Wd) (M : Mem) (F H : Hp) (ι : List Addr) : Prop where
  sub : Same F H
  len : ι.length = M.length
  nd : ι.Nodup
  trk : ∀ (n : Nat) (a : Addr), ι[n]? = some a → H a ≠ none
  off : ∀ (n : Nat) (a : Addr), ι[n]? = some a → live M n → F a = none
  has : ∀ (n : Nat) (a : Addr) (m : MO), ι[n]? = some a → M[n]? = some (some m) → ∃ o, H a = some o ∧ MRp W F ι o m
structure Grow (M : Mem) (F H : Hp) (ι : List Addr) (M' : Mem) (F' H' : Hp) (ι' : List Addr) : Prop where
  f : Same F F'
  i : Ext ι ι'
  keep : ∀ (a : Addr) (o : HO), H a = some o → (∀ n : Nat, ι[n]? = some a → ¬ live M n) → H' a = some o
  there : ∀ a : Addr, H a ≠ none → H' a ≠ none
  fresh : ∀ (n : Nat) (a : Addr), ι'[n]? = some a → ι[n]? = some a ∨ H a = none
  lv : ∀ (n : Nat) (a : Addr), ι[n]? = some a → live M' n → live M n
  fz : ∀ (a : Addr) (o : HO), F' a = some o → F a = some o ∨ H a = none ∨ ∃ n : Nat, ι[n]? = some a ∧ live M n
theorem Grow.refl {M : Mem} : Grow M F H ι M F H ι := ⟨fun _ _ h => h, Ext.refl _, fun _ _ h _ => h, fun _ h => h, fun _ _ h => .inl h, fun _ _ _ l => l, fun _ _ h => .inl h⟩
theorem Grow.none_of {M M' : Mem} {F F' H H' : Hp} {ι ι' : List Addr} (a : Grow M F H ι M' F' H' ι') {x : Addr} (h : H' x = none) : H x = none := by
  cases q : H x with
  | none => rfl
  | some o => exact absurd h (a.there x (by rw [q]; exact fun z => nomatch z))
theorem Grow.trans {M1 M2 M3 : Mem} {F1 F2 F3 H1 H2 H3 : Hp} {ι1 ι2 ι3 : List Addr} (a : Grow M1 F1 H1 ι1 M2 F2 H2 ι2) (b : Grow M2 F2 H2 ι2 M3 F3 H3 ι3) : Grow M1 F1 H1 ι1 M3 F3 H3 ι3 := by
  refine ⟨a.f.trans b.f, a.i.trans b.i, fun x o h n => b.keep x o (a.keep x o h n) fun k hk l => ?_, fun x h => b.there x (a.there x h), fun n x h => ?_, fun n x h l => a.lv n x h (b.lv n x (a.i n x h) l), fun x o h => ?_⟩
  · rcases a.fresh k x hk with h1 | h1
    · exact n k h1 (a.lv k x h1 l)
    · rw [h1] at h; cases h
  · rcases b.fresh n x h with h1 | h1
    · exact a.fresh n x h1
    · exact .inr (a.none_of h1)
  · rcases b.fz x o h with h1 | h1 | ⟨n, h1, l⟩
    · exact a.fz x o h1
    · exact .inr (.inl (a.none_of h1))
    · rcases a.fresh n x h1 with h2 | h2
      · exact .inr (.inr ⟨n, h2, a.lv n x h2 l⟩)
      · exact .inr (.inl h2)
theorem Rel.ne {M : Mem} (R : Rel W M F H ι) {p : Addr} (hp : H p = none) : p ∉ ι := fun h => by
  obtain ⟨n, e⟩ := List.mem_iff_getElem?.mp h
  exact R.trk n p e hp
theorem Rel.Fn {M : Mem} (R : Rel W M F H ι) {p : Addr} (hp : H p = none) : F p = none := by
  cases q : F p with
  | none => rfl
  | some o => rw [R.sub _ _ q] at hp; cases hp
theorem same_upd {p : Addr} {o : HO} (h : F p = none) : Same F (upd F p o) := fun b x e => by
  rw [upd_ne (ne_of_none e h)]
  exact e
theorem same_upd2 {p : Addr} {o : HO} (s : Same F H) : Same (upd F p o) (upd H p o) := fun b x e => by
  by_cases hb : b = p
  · subst hb; rw [upd_same] at e ⊢; exact e
  · rw [upd_ne hb] at e ⊢; exact s _ _ e
/-- a new frozen object -/
theorem Rel.frozen {M : Mem} {p : Addr} {o : HO} (R : Rel W M F H ι) (hp : H p = none) : Rel W M (upd F p o) (upd H p o) ι := by
  have hF := R.Fn hp
  have hn : ∀ (n : Nat) (a : Addr), ι[n]? = some a → a ≠ p := fun n a e z => R.ne hp (z ▸ List.mem_of_getElem? e)
  refine ⟨same_upd2 R.sub, R.len, R.nd, fun n a e => ?_, fun n a e l => ?_, fun n a m e l => ?_⟩
  · rw [upd_ne (hn n a e)]; exact R.trk n a e
  · rw [upd_ne (hn n a e)]; exact R.off n a e l
  · obtain ⟨u, h1, h2⟩ := R.has n a m e l
    exact ⟨u, by rw [upd_ne (hn n a e)]; exact h1, h2.mono (same_upd hF) (Ext.refl _)⟩
theorem Grow.frozen {M : Mem} {p : Addr} {o : HO} (R : Rel W M F H ι) (hp : H p = none) : Grow M F H ι M (upd F p o) (upd H p o) ι := by
  refine ⟨same_upd (R.Fn hp), Ext.refl _, fun a u h _ => ?_, fun a h => ?_, fun n a h => .inl h, fun _ _ _ l => l, fun a u h => ?_⟩
  · rw [upd_ne (ne_of_none h hp)]; exact h
  · by_cases e : a = p
    · subst e; rw [upd_same]; exact fun z => nomatch z
    · rw [upd_ne e]; exact h
  · by_cases e : a = p
    · subst e; exact .inr (.inl hp)
    · rw [upd_ne e] at h; exact .inl h
theorem live_app {M : Mem} {m : Option MO} {n : Nat} (h : live (M ++ [m]) n) : live M n ∨ (n = M.length ∧ m.isSome = true) := by
  obtain ⟨o, e⟩ := h
  by_cases hn : n < M.length
  · rw [List.getElem?_append_left hn] at e; exact .inl ⟨o, e⟩
  · rw [List.getElem?_append_right (Nat.le_of_not_lt hn)] at e
    have h2 : n - M.length = 0 := by
      by_cases h0 : n - M.length = 0
      · exact h0
      · rw [List.getElem?_eq_none (by simp; omega)] at e; cases e
    rw [h2] at e
    have e' : m = some o := by simpa using e
    exact .inr ⟨by omega, by rw [e']; rfl⟩
/-- a new place of the store -/
theorem Rel.newloc {M : Mem} {p : Addr} {o : HO} {m : MO} (R : Rel W M F H ι) (hp : H p = none) (hm : MRp W F ι o m) : Rel W (M ++ [some m]) F (upd H p o) (ι ++ [p]) := by
  have hF := R.Fn hp
  have hne := R.ne hp
  have hn : ∀ (n : Nat) (a : Addr), ι[n]? = some a → a ≠ p := fun n a e z => hne (z ▸ List.mem_of_getElem? e)
  have cs : ∀ (n : Nat) (a : Addr), (ι ++ [p])[n]? = some a → (ι[n]? = some a ∧ n < ι.length) ∨ (n = ι.length ∧ a = p) := fun n a e => by
    by_cases hn : n < ι.length
    · rw [List.getElem?_append_left hn] at e; exact .inl ⟨e, hn⟩
    · rw [List.getElem?_append_right (Nat.le_of_not_lt hn)] at e
      have h2 : n - ι.length = 0 := by
        by_cases h0 : n - ι.length = 0
        · exact h0
        · rw [List.getElem?_eq_none (by simp; omega)] at e; cases e
      rw [h2] at e
      exact .inr ⟨by omega, by simpa using e.symm⟩
  refine ⟨fun b x e => ?_, by simp [R.len], ?_, fun n a e => ?_, fun n a e l => ?_, fun n a m' e l => ?_⟩
  · rw [upd_ne (ne_of_none e hF)]; exact R.sub _ _ e
  · rw [List.nodup_append]
    exact ⟨R.nd, by simp, fun x hx y hy e => hne (by rw [List.mem_singleton.mp hy] at e; exact e ▸ hx)⟩
  · rcases cs n a e with ⟨h1, _⟩ | ⟨_, rfl⟩
    · rw [upd_ne (hn n a h1)]; exact R.trk n a h1
    · rw [upd_same]; exact fun z => nomatch z
  · rcases cs n a e with ⟨h1, h2⟩ | ⟨_, rfl⟩
    · rcases live_app l with l | ⟨l, _⟩
      · exact R.off n a h1 l
      · rw [R.len] at h2; omega
    · exact hF
  · rcases cs n a e with ⟨h1, h2⟩ | ⟨h1, rfl⟩
    · rw [List.getElem?_append_left (by rw [← R.len]; exact h2)] at l
      obtain ⟨u, q1, q2⟩ := R.has n a m' h1 l
      exact ⟨u, by rw [upd_ne (hn n a h1)]; exact q1, q2.mono (fun _ _ h => h) (Ext.app _ _)⟩
    · subst h1
      rw [R.len, List.getElem?_append_right (Nat.le_refl _), Nat.sub_self] at l
      have l' : m = m' := by simpa using l
      subst l'
      exact ⟨o, upd_same, hm.mono (fun _ _ h => h) (Ext.app _ _)⟩
theorem Grow.newloc {M : Mem} {p : Addr} {o : HO} {m : MO} (R : Rel W M F H ι) (hp : H p = none) : Grow M F H ι (M ++ [some m]) F (upd H p o) (ι ++ [p]) := by
  refine ⟨fun _ _ h => h, Ext.app _ _, fun a u h _ => ?_, fun a h => ?_, fun n a h => ?_, fun n a h l => ?_, fun _ _ h => .inl h⟩
  · rw [upd_ne (ne_of_none h hp)]; exact h
  · by_cases e : a = p
    · subst e; rw [upd_same]; exact fun z => nomatch z
    · rw [upd_ne e]; exact h
  · by_cases hn : n < ι.length
    · rw [List.getElem?_append_left hn] at h; exact .inl h
    · rw [List.getElem?_append_right (Nat.le_of_not_lt hn)] at h
      have e : a = p := by
        have := List.mem_of_getElem? h
        simpa using this
      rw [e]; exact .inr hp
  · have hn := (List.getElem?_eq_some_iff.mp h).1
    rcases live_app l with l | ⟨l, _⟩
    · exact l
    · rw [R.len] at hn; omega
/-- a place of the store is changed -/
theorem Rel.setloc {M : Mem} {n : Nat} {a : Addr} {o : HO} {m m' : MO} (R : Rel W M F H ι) (hn : ι[n]? = some a) (hl : M[n]? = some (some m)) (hm : MRp W F ι o m') : Rel W (M.set n (some m')) F (upd H a o) ι := by
  have hF : F a = none := R.off n a hn ⟨m, hl⟩
  have hlt : n < M.length := (List.getElem?_eq_some_iff.mp hl).1
  have hi : ∀ (k : Nat) (b : Addr), ι[k]? = some b → b = a → k = n := fun k b e z => by
    obtain ⟨h1, e1⟩ := List.getElem?_eq_some_iff.mp e
    obtain ⟨h2, e2⟩ := List.getElem?_eq_some_iff.mp hn
    exact (List.getElem_inj R.nd).mp (by rw [e1, e2, z])
  have lv : ∀ k, live (M.set n (some m')) k → live M k := fun k ⟨u, e⟩ => by
    by_cases hk : n = k
    · subst hk; exact ⟨m, hl⟩
    · rw [List.getElem?_set_ne hk] at e; exact ⟨u, e⟩
  refine ⟨fun b x e => ?_, by simp [R.len], R.nd, fun k b e => ?_, fun k b e l => R.off k b e (lv k l), fun k b u e l => ?_⟩
  · rw [upd_ne (ne_of_none e hF)]; exact R.sub _ _ e
  · by_cases hb : b = a
    · subst hb; rw [upd_same]; exact fun z => nomatch z
    · rw [upd_ne hb]; exact R.trk k b e
  · by_cases hk : n = k
    · subst hk
      rw [List.getElem?_set_self hlt] at l
      have l' : m' = u := by simpa using l
      subst l'
      rw [hn] at e
      have e' : a = b := by simpa using e
      subst e'
      exact ⟨o, upd_same, hm⟩
    · rw [List.getElem?_set_ne hk] at l
      obtain ⟨x, q1, q2⟩ := R.has k b u e l
      exact ⟨x, by rw [upd_ne (fun z => hk (hi k b e z).symm)]; exact q1, q2⟩
theorem Grow.setloc {M : Mem} {n : Nat} {a : Addr} {o : HO} {m : MO} {mm : Option MO} (R : Rel W M F H ι) (hn : ι[n]? = some a) (hl : M[n]? = some (some m)) : Grow M F H ι (M.set n mm) F (upd H a o) ι := by
  refine ⟨fun _ _ h => h, Ext.refl _, fun b u h nl => ?_, fun b h => ?_, fun k b h => .inl h, fun k b _ l => ?_, fun _ _ h => .inl h⟩
  · rw [upd_ne (fun z : b = a => nl n (by rw [z]; exact hn) ⟨m, hl⟩)]; exact h
  · by_cases e : b = a
    · subst e; rw [upd_same]; exact fun z => nomatch z
    · rw [upd_ne e]; exact h
  · obtain ⟨u, e⟩ := l
    by_cases hk : n = k
    · subst hk; exact ⟨m, hl⟩
    · rw [List.getElem?_set_ne hk] at e; exact ⟨u, e⟩
/-- a tracked object that no place and no frozen value is -/
def hid (H : Hp) (p : Addr) : Hp := fun a => if a = p then none else H a
theorem hid_same {p : Addr} : hid H p p = none := by unfold hid; rw [if_pos rfl]
theorem hid_ne {p a : Addr} (h : a ≠ p) : hid H p a = H a := by unfold hid; rw [if_neg h]
theorem hid_upd {p : Addr} {o : HO} : upd (hid H p) p o = upd H p o := by
  funext a
  by_cases h : a = p
  · subst h; rw [upd_same, upd_same]
  · rw [upd_ne h, upd_ne h, hid_ne h]
theorem Rel.shown {M : Mem} {p : Addr} (R : Rel W M F (hid H p) ι) : Rel W M F H ι ∧ F p = none ∧ p ∉ ι := by
  have hn : ∀ (n : Nat) (a : Addr), ι[n]? = some a → a ≠ p := fun n a e z => R.trk n a e (by rw [z]; exact hid_same)
  refine ⟨⟨fun b x e => ?_, R.len, R.nd, fun n a e => ?_, R.off, fun n a m e l => ?_⟩, R.Fn hid_same, R.ne hid_same⟩
  · have := R.sub b x e
    by_cases hb : b = p
    · subst hb; rw [hid_same] at this; cases this
    · rwa [hid_ne hb] at this
  · have := R.trk n a e
    rwa [hid_ne (hn n a e)] at this
  · obtain ⟨o, h1, h2⟩ := R.has n a m e l
    exact ⟨o, by rwa [hid_ne (hn n a e)] at h1, h2⟩
theorem Rel.hidden {M : Mem} {p : Addr} (R : Rel W M F H ι) (h1 : F p = none) (h2 : p ∉ ι) : Rel W M F (hid H p) ι := by
  have hn : ∀ (n : Nat) (a : Addr), ι[n]? = some a → a ≠ p := fun n a e z => h2 (z ▸ List.mem_of_getElem? e)
  refine ⟨fun b x e => ?_, R.len, R.nd, fun n a e => ?_, R.off, fun n a m e l => ?_⟩
  · rw [hid_ne (ne_of_none e h1)]; exact R.sub _ _ e
  · rw [hid_ne (hn n a e)]; exact R.trk n a e
  · obtain ⟨o, q1, q2⟩ := R.has n a m e l
    exact ⟨o, by rw [hid_ne (hn n a e)]; exact q1, q2⟩
/-- what goes on beside p -/
theorem Grow.beside {M M' : Mem} {p : Addr} {o : HO} (g : Grow M F H ι M' F' H' ι') (hp : H p = some o) (h1 : F p = none) (h2 : p ∉ ι) : H' p = some o ∧ F' p = none ∧ p ∉ ι' ∧ Grow M F (hid H p) ι M' F' (hid H' p) ι' := by
  have nl : ∀ n : Nat, ι[n]? = some p → False := fun n e => h2 (List.mem_of_getElem? e)
  have hF : F' p = none := by
    cases q : F' p with
    | none => rfl
    | some u =>
      rcases g.fz p u q with z | z | ⟨n, z, _⟩
      · rw [h1] at z; cases z
      · rw [hp] at z; cases z
      · exact (nl n z).elim
  have hι : p ∉ ι' := fun hm => by
    obtain ⟨n, e⟩ := List.mem_iff_getElem?.mp hm
    rcases g.fresh n p e with z | z
    · exact nl n z
    · rw [hp] at z; cases z
  refine ⟨g.keep p o hp fun n e => (nl n e).elim, hF, hι, g.f, g.i, fun a u h k => ?_, fun a h => ?_, fun n a h => ?_, g.lv, fun a u h => ?_⟩
  · by_cases e : a = p
    · subst e; rw [hid_same] at h; cases h
    · rw [hid_ne e] at h ⊢; exact g.keep a u h k
  · by_cases e : a = p
    · subst e; exact absurd hid_same h
    · rw [hid_ne e] at h ⊢; exact g.there a h
  · rcases g.fresh n a h with z | z
    · exact .inl z
    · refine .inr ?_
      by_cases e : a = p
      · rw [e]; exact hid_same
      · rw [hid_ne e]; exact z
  · rcases g.fz a u h with z | z | z
    · exact .inl z
    · refine .inr (.inl ?_)
      by_cases e : a = p
      · rw [e]; exact hid_same
      · rw [hid_ne e]; exact z
    · exact .inr (.inr z)

/-- the slots -/
abbrev Env' := List (Option D)
structure RelS (W : Wd) (F : Hp) (ι : List Addr) (ρ : Env') (σ : St) : Prop where
  len : ρ.length = σ.length
  at_ : ∀ (i : Nat) (d : D), ρ[i]? = some (some d) → ∃ v, σ[i]? = some (some v) ∧ Rp W F ι v d
theorem RelS.mono {ρ : Env'} {σ : St} (R : RelS W F ι ρ σ) (s : Same F F') (e : Ext ι ι') : RelS W F' ι' ρ σ := ⟨R.len, fun i d h => let ⟨v, h1, h2⟩ := R.at_ i d h; ⟨v, h1, h2.mono s e⟩⟩
theorem RelS.set {ρ : Env'} {σ : St} (R : RelS W F ι ρ σ) (i : Nat) (r : Rp W F ι v d) : RelS W F ι (ρ.set i (some d)) (σ.set i (some v)) := by
  refine ⟨by simp [R.len], fun j e h => ?_⟩
  by_cases hij : i = j
  · subst hij
    by_cases hl : i < ρ.length
    · rw [List.getElem?_set_self hl] at h
      have h' : d = e := by simpa using h
      subst h'
      exact ⟨v, by rw [List.getElem?_set_self (by rw [← R.len]; exact hl)], r⟩
    · rw [List.getElem?_eq_none (by simp; omega)] at h; cases h
  · rw [List.getElem?_set_ne hij] at h ⊢
    exact R.at_ j e h
theorem RelS.forget {ρ : Env'} {σ : St} (R : RelS W F ι ρ σ) (i : Nat) : RelS W F ι (ρ.set i none) (σ.set i none) := by
  refine ⟨by simp [R.len], fun j e h => ?_⟩
  by_cases hij : i = j
  · subst hij
    by_cases hl : i < ρ.length
    · rw [List.getElem?_set_self hl] at h; cases h
    · rw [List.getElem?_eq_none (by simp; omega)] at h; cases h
  · rw [List.getElem?_set_ne hij] at h ⊢
    exact R.at_ j e h
end
end Dv
end L2
/-! Dv: the syntax of one's own, and what it means over deep values -/
namespace L2
namespace Dv
open PySem PySem.Spec PyProof.Rows

/-! ### syntax -/
inductive Tg where
  | nm (i : Nat) | tp (ts : List Tg)
  deriving Inhabited
/-- built-in functions and classes that are called -/
inductive Bi where
  | len | int | abs | max | min | all | any | sorted | list | listM | tuple | str | repr | bool | sum | set | dict
  deriving DecidableEq
/-- methods of built-in types -/
inductive Me where
  | append | pop | extend | join | items | values | get | index | clear | insert | split | partition | lstrip | lower | replace | update | setdefault | count
  deriving DecidableEq
/-- what isinstance asks for -/
inductive Ty where
  | bt (n : String) | own (c : Nat)
  deriving DecidableEq
inductive E where
  | var (i : Nat) | cst (c : Const) | glo (g : Nat)
  | bop (op : Operator) (a b : E) | neg (a : E) | boo (and : Bool) (es : List E) | not (a : E)
  | cmp (a : E) (op : CmpOp) (b : E) | chn (a : E) (op1 : CmpOp) (b : E) (op2 : CmpOp) (c : E)
  | ife (t a b : E)
  | tup (es : List E) | lst (fz : Bool) (es : List E) | dis (fz : Bool) (ks vs : List E) | star (e : E)
  | lc (fz : Bool) (elt : E) (tg : Tg) (it : E) (ifs : List E) (own : List Nat)
  | lc2 (fz : Bool) (elt : E) (tg : Tg) (it : E) (tg2 : Tg) (it2 : E) (own own2 : List Nat)
  | call (f : Nat) (es : List E) | blt (b : Bi) (es : List E) | mth (m : Me) (o : E) (es : List E)
  | isi (a : E) (t : Ty)
  | sub (o i : E) | slc (o : E) (lo hi : Option E) | rev (o : E)
  | rng (es : List E) | zip (a b : E) | enm (a : E)
  deriving Inhabited
inductive Pt where
  | wild | cap (i : Nat) | val (c : Const) | alt (ps : List Pt) | seq (ps : List Pt)
  deriving Inhabited
inductive S where
  | exp (e : E) | set (tg : Tg) (e : E) | par (i j : Nat) (a b : E) | aug (i : Nat) (op : Operator) (e : E) | sst (o i e : E)
  | ite (t : E) (a b : List S) | whl (t : E) (b : List S) | fr (tg : Tg) (it : E) (b : List S)
  | ret (e : E) | retN | pass | brk | cnt | mat (e : E) (cs : List Pt) (bs : List (List S)) | frz (i : Nat)
  | rai (c : Nat) (m : Str) | tr1 (b : List S) (h : Nat) (k : Const)
  deriving Inhabited

/-! ### what comes of a run -/
structure Ex where
  c : Nat
  ns : List Str
  vs : List D
inductive R (α : Type) where
  | ok (a : α) (M : Mem) | err (x : Ex) (M : Mem) | bad
def R.bnd {α β : Type} (r : R α) (f : α → Mem → R β) : R β := match r with
  | .ok a M => f a M
  | .err x M => .err x M
  | .bad => .bad
def R.of {α : Type} (o : Option α) (M : Mem) : R α := match o with
  | some a => .ok a M
  | none => .bad
@[simp] theorem R.bnd_ok {α β : Type} (a : α) (M : Mem) (f : α → Mem → R β) : (R.ok a M).bnd f = f a M := Eq.trans rfl rfl
@[simp] theorem R.bnd_err {α β : Type} (x : Ex) (M : Mem) (f : α → Mem → R β) : (R.err x M : R α).bnd f = .err x M := Eq.trans rfl rfl
@[simp] theorem R.bnd_bad {α β : Type} (f : α → Mem → R β) : (R.bad : R α).bnd f = .bad := Eq.trans rfl rfl
@[simp] theorem R.of_some {α : Type} (a : α) (M : Mem) : R.of (some a) M = .ok a M := Eq.trans rfl rfl
@[simp] theorem R.of_none {α : Type} (M : Mem) : (R.of none M : R α) = .bad := Eq.trans rfl rfl
inductive RS where
  | nx (ρ : Env') (M : Mem) | rt (d : D) (M : Mem) | bk (ρ : Env') (M : Mem) | ct (ρ : Env') (M : Mem) | er (x : Ex) (ρ : Env') (M : Mem) | bad
def R.st {α : Type} (r : R α) (ρ : Env') (f : α → Mem → RS) : RS := match r with
  | .ok a M => f a M
  | .err x M => .er x ρ M
  | .bad => .bad
@[simp] theorem R.st_ok {α : Type} (a : α) (M : Mem) (ρ : Env') (f : α → Mem → RS) : (R.ok a M).st ρ f = f a M := Eq.trans rfl rfl
@[simp] theorem R.st_err {α : Type} (x : Ex) (M : Mem) (ρ : Env') (f : α → Mem → RS) : (R.err x M : R α).st ρ f = .er x ρ M := Eq.trans rfl rfl
@[simp] theorem R.st_bad {α : Type} (ρ : Env') (f : α → Mem → RS) : (R.bad : R α).st ρ f = .bad := Eq.trans rfl rfl

/-! ### places -/
mutual
def D.bel (n : Nat) : D → Bool
  | .loc k => decide (k < n)
  | .tup zxs => D.bels n zxs
  | .lst zxs => D.bels n zxs
  | .ro zxs => D.bels n zxs
  | .dic ks vs => D.bels n ks && D.bels n vs
  | .obj _ _ vs => D.bels n vs
  | .non => true | .bl _ => true | .int _ => true | .str _ => true
def D.bels (n : Nat) : List D → Bool
  | [] => true
  | x :: zxs => D.bel n x && D.bels n zxs
end
def MO.bel (n : Nat) : MO → Bool
  | .lst zxs => D.bels n zxs
  | .dic ks vs => D.bels n ks && D.bels n vs
  | .ins _ _ vs => D.bels n vs
/-- a value with a place from n on taken as it stands -/
def res (M : Mem) (n : Nat) (d : D) : Option D := match d with
  | .loc k => if k < n then some d else match M[k]? with
    | some (some (.lst zxs)) => if D.bels n zxs then some (.lst zxs) else none
    | some (some (.dic ks vs)) => if D.bels n ks && D.bels n vs then some (.dic ks vs) else none
    | some (some (.ins c ns vs)) => if D.bels n vs then some (.obj c ns vs) else none
    | _ => none
  | d => if d.bel n then some d else none
mutual
def D.beq : D → D → Bool
  | .non, b => (match b with | .non => true | _ => false)
  | .bl x, b => (match b with | .bl y => x == y | _ => false)
  | .int x, b => (match b with | .int y => decide (x = y) | _ => false)
  | .str x, b => (match b with | .str y => decide (x = y) | _ => false)
  | .tup x, b => (match b with | .tup y => D.beqs x y | _ => false)
  | .lst x, b => (match b with | .lst y => D.beqs x y | _ => false)
  | .ro x, b => (match b with | .ro y => D.beqs x y | _ => false)
  | .dic k v, b => (match b with | .dic l w => D.beqs k l && D.beqs v w | _ => false)
  | .obj c n v, b => (match b with | .obj d m w => decide (c = d) && decide (n = m) && D.beqs v w | _ => false)
  | .loc n, b => (match b with | .loc m => decide (n = m) | _ => false)
def D.beqs : List D → List D → Bool
  | [], b => (match b with | [] => true | _ => false)
  | x :: zxs, b => (match b with | y :: ys => D.beq x y && D.beqs zxs ys | [] => false)
end
mutual
theorem D.beq_refl : ∀ a : D, D.beq a a = true
  | .non => rfl
  | .bl b => by simp [D.beq]
  | .int b => by simp [D.beq]
  | .str b => by simp [D.beq]
  | .tup x => by simp only [D.beq]; exact D.beqs_refl x
  | .lst x => by simp only [D.beq]; exact D.beqs_refl x
  | .ro x => by simp only [D.beq]; exact D.beqs_refl x
  | .dic k v => by simp only [D.beq, Bool.and_eq_true]; exact ⟨D.beqs_refl k, D.beqs_refl v⟩
  | .obj c n v => by simp only [D.beq, Bool.and_eq_true, decide_eq_true_eq]; exact ⟨⟨trivial, trivial⟩, D.beqs_refl v⟩
  | .loc n => by simp [D.beq]
theorem D.beqs_refl : ∀ a : List D, D.beqs a a = true
  | [] => rfl
  | x :: zxs => by simp only [D.beqs, Bool.and_eq_true]; exact ⟨D.beq_refl x, D.beqs_refl zxs⟩
end
mutual
theorem D.beq_eq : ∀ {a b : D}, D.beq a b = true → a = b
  | .non, b, h => by cases b <;> simp [D.beq] at h ⊢
  | .bl x, b, h => by cases b <;> simp [D.beq] at h ⊢; exact h
  | .int x, b, h => by cases b <;> simp [D.beq] at h ⊢; exact h
  | .str x, b, h => by cases b <;> simp [D.beq] at h ⊢; exact h
  | .tup x, b, h => by cases b <;> simp only [D.beq] at h <;> first | exact congrArg _ (D.beqs_eq h) | cases h
  | .lst x, b, h => by cases b <;> simp only [D.beq] at h <;> first | exact congrArg _ (D.beqs_eq h) | cases h
  | .ro x, b, h => by cases b <;> simp only [D.beq] at h <;> first | exact congrArg _ (D.beqs_eq h) | cases h
  | .dic k v, b, h => by
    cases b <;> simp only [D.beq, Bool.and_eq_true] at h <;> first | (rw [D.beqs_eq h.1, D.beqs_eq h.2]) | cases h
  | .obj c n v, b, h => by
    cases b <;> simp only [D.beq, Bool.and_eq_true, decide_eq_true_eq] at h <;> first | (rw [h.1.1, h.1.2, D.beqs_eq h.2]) | cases h
  | .loc x, b, h => by cases b <;> simp [D.beq] at h ⊢; exact h
theorem D.beqs_eq : ∀ {a b : List D}, D.beqs a b = true → a = b
  | [], b, h => by cases b <;> simp [D.beqs] at h ⊢
  | x :: zxs, b, h => by
    cases b <;> simp only [D.beqs, Bool.and_eq_true] at h
    · cases h
    · rw [D.beq_eq h.1, D.beqs_eq h.2]
end
def MO.beq : MO → MO → Bool
  | .lst x, .lst y => D.beqs x y
  | .dic k v, .dic l w => D.beqs k l && D.beqs v w
  | .ins c n v, .ins d m w => decide (c = d) && decide (n = m) && D.beqs v w
  | _, _ => false
theorem MO.beq_refl : ∀ a : MO, MO.beq a a = true
  | .lst x => D.beqs_refl x
  | .dic k v => by simp only [MO.beq, Bool.and_eq_true]; exact ⟨D.beqs_refl k, D.beqs_refl v⟩
  | .ins c n v => by simp only [MO.beq, Bool.and_eq_true, decide_eq_true_eq]; exact ⟨⟨trivial, trivial⟩, D.beqs_refl v⟩
theorem MO.beq_eq {a b : MO} (h : MO.beq a b = true) : a = b := by
  cases a <;> cases b <;> simp only [MO.beq, Bool.and_eq_true, decide_eq_true_eq] at h <;> first | exact congrArg _ (D.beqs_eq h) | (rw [D.beqs_eq h.1, D.beqs_eq h.2]) | (rw [h.1.1, h.1.2, D.beqs_eq h.2]) | cases h
/-- what stood before stands as before, or has places below n alone -/
def oldOk (n : Nat) : Mem → Mem → Bool
  | _, [] => true
  | [], none :: r => oldOk n [] r
  | [], some o :: r => o.bel n && oldOk n [] r
  | _ :: q, none :: r => oldOk n q r
  | none :: q, some o :: r => o.bel n && oldOk n q r
  | some u :: q, some o :: r => (MO.beq u o || o.bel n) && oldOk n q r
def trim (M0 : Mem) (d : D) (M : Mem) : R D := match res M M0.length d with
  | some e => if oldOk M0.length M0 (M.take M0.length) then .ok e (M.take M0.length) else .bad
  | none => .bad

/-! ### values -/
def cstD : Const → Option D
  | .none => some .non
  | .bool b => some (.bl b)
  | .int i => some (.int i)
  | .str x => some (.str x)
  | _ => none
/-- the items of a list, a tuple -/
def seqD (M : Mem) : D → Option (List D)
  | .lst zxs => some zxs
  | .ro zxs => some zxs
  | .tup zxs => some zxs
  | .loc n => match M[n]? with
    | some (some (.lst zxs)) => some zxs
    | _ => none
  | _ => none
def lstD (M : Mem) : D → Option (List D)
  | .lst zxs => some zxs
  | .loc n => match M[n]? with
    | some (some (.lst zxs)) => some zxs
    | _ => none
  | _ => none
def isTup : D → Option (List D)
  | .tup zxs => some zxs
  | _ => none
mutual
def D.toPy : D → Option PyData
  | .non => some .none
  | .bl b => some (.bool b)
  | .int i => some (.int i)
  | .str x => some (.str x)
  | .tup zxs => (D.toPys zxs).map .tuple
  | .lst zxs => (D.toPys zxs).map .list
  | .ro _ => none
  | .dic [] [] => some (.dict [])
  | .dic _ _ => none
  | .obj _ _ _ => none
  | .loc _ => none
def D.toPys : List D → Option (List PyData)
  | [] => some []
  | x :: zxs => match D.toPy x, D.toPys zxs with
    | some a, some b => some (a :: b)
    | _, _ => none
end
/-- .. of a place's list too -/
def toPyM (M : Mem) (d : D) : Option PyData := match d with
  | .loc n => match M[n]? with
    | some (some (.lst zxs)) => (D.toPys zxs).map .list
    | _ => none
  | d => d.toPy
mutual
/-- no list within -/
def noList : PyData → Bool
  | .list _ => false
  | .tuple zxs => noLists zxs
  | _ => true
def noLists : List PyData → Bool
  | [] => true
  | x :: zxs => noList x && noLists zxs
end
/-- == -/
def eqD (M : Mem) (a b : D) : Option Bool := match a, b with
  | .str x, .str y => some (decide (x = y))
  | a, b => match toPyM M a, toPyM M b with
    | some x, some y => if x.canLay0 && y.canLay0 && decide (min x.depth y.depth ≤ 64) then some (PyData.eqv x y) else match x, y with
      | .dict _, .str _ => some false
      | _, _ => none
    | _, _ => none
/-- != -/
def neD (M : Mem) (a b : D) : Option Bool := match a, b with
  | .str x, .str y => some (!decide (x = y))
  | a, b => match toPyM M a, toPyM M b with
    | some x, some y => if x.canLay0 && y.canLay0 && decide (min x.depth y.depth ≤ 64) then some (!PyData.eqv x y) else none
    | _, _ => none
/-- the truth of a value -/
def truD (M : Mem) : D → Option Bool
  | .non => some false
  | .bl b => some b
  | .int i => some (i != 0)
  | .str x => if x.length ≤ sizeLine then some (x.length != 0) else none
  | .tup zxs => some (!zxs.isEmpty)
  | .lst zxs => some (!zxs.isEmpty)
  | .ro zxs => some (!zxs.isEmpty)
  | .dic ks _ => some (!ks.isEmpty)
  | .loc n => match M[n]? with
    | some (some (.lst zxs)) => some (!zxs.isEmpty)
    | some (some (.dic ks _)) => some (!ks.isEmpty)
    | _ => none
  | .obj _ _ _ => none
def intsOf : List D → Option (List Int)
  | [] => some []
  | .int i :: r => (intsOf r).map (i :: ·)
  | _ => none
def strsOf : List D → Option (List Str)
  | [] => some []
  | .str x :: r => (strsOf r).map (x :: ·)
  | _ => none
def blsOf : List D → Option (List Bool)
  | [] => some []
  | .bl x :: r => (blsOf r).map (x :: ·)
  | _ => none
def bopD (M : Mem) (op : Operator) (a b : D) : Option D := match op, a, b with
  | .Add, .int i, .int j => some (.int (i + j))
  | .Sub, .int i, .int j => some (.int (i - j))
  | .Mult, .int i, .int j => if (-(2 ^ 64) < i ∧ i < 2 ^ 64) ∨ (-(2 ^ 64) < j ∧ j < 2 ^ 64) ∨ i.natAbs.log2 + j.natAbs.log2 < 1000000 then some (.int (i * j)) else none
  | .FloorDiv, .int i, .int j => if 0 < j ∧ j.natAbs.log2 < 9000 then some (.int (i / j)) else none
  | .Mod, .int i, .int j => if 0 < j then some (.int (i % j)) else none
  | .Pow, .int i, .int j => if 0 ≤ j ∧ (Builtin.Int.intBits i : Int) * j ≤ 2 ^ 27 then some (.int (i ^ j.toNat)) else none
  | .Add, .str x, .str y => if x.length + y.length ≤ sizeLine then some (.str (x ++ y)) else none
  | .Add, .tup zxs, .tup ys => if zxs.length + ys.length ≤ sizeLine then some (.tup (zxs ++ ys)) else none
  | .Mult, .tup zxs, .int k => if zxs ≠ [] ∧ 2 ≤ k ∧ k ≤ 1000 ∧ zxs.length ≤ 1000 then some (.tup (List.replicate k.toNat zxs).flatten) else none
  | .Add, a, b => match lstD M a, lstD M b with
    | some zxs, some ys => if zxs.length + ys.length ≤ sizeLine then some (.lst (zxs ++ ys)) else none
    | _, _ => none
  | .Mult, a, .int k => match lstD M a with
    | some zxs => if k ≤ 2 ^ 30 ∧ zxs.length * k.toNat ≤ sizeLine ∧ -(2 ^ 30) ≤ k then some (.lst (List.replicate k.toNat zxs).flatten) else none
    | none => none
  | _, _, _ => none
/-- flat things -/
def flatD : D → Bool
  | .non => true | .bl _ => true | .int _ => true | .str _ => true | _ => false
def toV : D → Option V
  | .non => some .non | .bl b => some (.bl b) | .int i => some (.int i) | .str x => some (.str x) | _ => none
def toVs : List D → Option (List V)
  | [] => some []
  | d :: ds => match toV d, toVs ds with
    | some v, some vs => some (v :: vs)
    | _, _ => none
def inS (x : Str) (y : Str) : Bool := !(Builtin.Str.occurrences y x 0 y.length 1).isEmpty
def cmpD (M : Mem) (op : CmpOp) (a b : D) : Option Bool := match op, a, b with
  | .Eq, a, b => eqD M a b
  | .NotEq, a, b => neD M a b
  | .Lt, .int i, .int j => some (decide (i < j))
  | .LtE, .int i, .int j => some (decide (i ≤ j))
  | .Gt, .int i, .int j => some (decide (j < i))
  | .GtE, .int i, .int j => some (decide (j ≤ i))
  | .Lt, .str x, .str y => some (decide (x.cps.toList < y.cps.toList))
  | .Gt, .str x, .str y => some (decide (y.cps.toList < x.cps.toList))
  | .Is, a, .non => match a with
    | .non => some true
    | _ => some false
  | .IsNot, a, .non => match a with
    | .non => some false
    | _ => some true
  | .Is, .bl x, .bl y => some (decide (x = y))
  | .IsNot, .bl x, .bl y => some (!decide (x = y))
  | .In, .str x, .str y => some (inS x y)
  | .NotIn, .str x, .str y => some (!inS x y)
  | .In, a, b => match seqD M b with
    | some ds => if flatD a && ds.all flatD then (match toV a, toVs ds with | some v, some vs => some (inV v vs) | _, _ => none) else none
    | none => none
  | .NotIn, a, b => match seqD M b with
    | some ds => if flatD a && ds.all flatD then (match toV a, toVs ds with | some v, some vs => some (!inV v vs) | _, _ => none) else none
    | none => none
  | _, _, _ => none
def tyName : D → Option String
  | .non => some "NoneType" | .bl _ => some "bool" | .int _ => some "int" | .str _ => some "str"
  | .tup _ => some "tuple" | .lst _ => some "list" | .ro _ => some "list" | .dic _ _ => some "dict" | _ => none
def isiD (d : D) : Ty → Option Bool
  | .bt n => match tyName d with
    | some t => kitB t n
    | none => none
  | .own _ => none
def subD (M : Mem) (o i : D) : Option D := match o, i with
  | .str x, .int k => if x.length ≤ sizeLine then (atI x.cps.toList k).map fun c => .str ⟨#[c]⟩ else none
  | o, .int k => (seqD M o).bind fun zxs => atI zxs k
  | _, _ => none
def cutL {α : Type} (zxs : List α) (lo hi : Option Int) : List α := (zxs.drop (HT.sIx zxs.length 0 lo)).take (HT.sIx zxs.length zxs.length hi - HT.sIx zxs.length 0 lo)
def slcD (M : Mem) (o : D) (lo hi : Option Int) : Option D := match o with
  | .tup zxs => some (.tup (cutL zxs lo hi))
  | .str x => if x.length ≤ sizeLine then some (.str (cutS x lo hi)) else none
  | o => (lstD M o).map fun zxs => .lst (cutL zxs lo hi)
def itD (M : Mem) : D → Option (List D)
  | .lst zxs => some zxs
  | .ro zxs => some zxs
  | .tup zxs => some zxs
  | .str x => some (x.cps.toList.map fun c => .str ⟨#[c]⟩)
  | _ => none
/-- a place made, or a frozen list -/
def mkL (fz : Bool) (zxs : List D) (M : Mem) : R D := if zxs.length ≤ sizeLine then (if fz then .ok (.lst zxs) M else .ok (.loc M.length) (M ++ [some (.lst zxs)])) else .bad

/-! ### targets -/
mutual
def Tg.put : Tg → D → Env' → Option Env'
  | .nm i, d, ρ => some (ρ.set i (some d))
  | .tp ts, .tup ds, ρ => if ds.length = ts.length then Tg.puts ts ds ρ else none
  | .tp _, _, _ => none
def Tg.puts : List Tg → List D → Env' → Option Env'
  | [], [], ρ => some ρ
  | t :: ts, d :: ds, ρ => match Tg.put t d ρ with
    | some ρ' => Tg.puts ts ds ρ'
    | none => none
  | _, _, _ => none
end
def wipeD (ρ : Env') : List Nat → Env'
  | [] => ρ
  | v :: vs => (wipeD ρ vs).set v none

/-! ### patterns: what is taken, or no -/
mutual
def Pt.go (M : Mem) : Pt → D → Option (Option (List (Nat × D)))
  | .wild, _ => some (some [])
  | .cap i, d => some (some [(i, d)])
  | .val c, d => match cstD c with
    | some e => match eqD M d e with
      | some true => some (some [])
      | some false => some none
      | none => none
    | none => none
  | .alt ps, d => Pt.alts M ps d
  | .seq ps, .tup zxs => if zxs.length = ps.length then Pt.gos M ps zxs else some none
  | .seq _, _ => none
def Pt.alts (M : Mem) : List Pt → D → Option (Option (List (Nat × D)))
  | [], _ => some none
  | p :: ps, d => match Pt.go M p d with
    | some (some l) => some (some l)
    | some none => Pt.alts M ps d
    | none => none
def Pt.gos (M : Mem) : List Pt → List D → Option (Option (List (Nat × D)))
  | p :: ps, x :: zxs => match Pt.go M p x with
    | some (some l) => match Pt.gos M ps zxs with
      | some (some r) => some (some (l ++ r))
      | other => other
    | other => other
  | _, _ => some (some [])
end
def sets (ρ : Env') : List (Nat × D) → Env'
  | [] => ρ
  | (i, d) :: r => sets (ρ.set i (some d)) r

/-! ### a list made, item by item -/
def foldC (f : D → Mem → R (Option D)) : List D → List D → Mem → R (List D)
  | [], acc, M => .ok acc M
  | x :: zxs, acc, M => match f x M with
    | .ok (some y) M1 => if acc.length < sizeLine then foldC f zxs (acc ++ [y]) M1 else .bad
    | .ok none M1 => foldC f zxs acc M1
    | _ => .bad
def isT : E → Bool
  | .not _ => true | .boo _ _ => true | .ife _ _ _ => true | .cmp _ _ _ => true | .chn _ _ _ _ _ => true
  | _ => false
def isIt : E → Bool
  | .rng _ => true | .zip _ _ => true | .enm _ => true
  | _ => false
def lastL (zxs : List D) : Option (D × List D) := match zxs.reverse with
  | [] => none
  | x :: r => some (x, r.reverse)
def joinS (sep : Str) (zxs : List Str) : Option Str := if (zxs.map (·.length)).sum + zxs.length * sep.length ≤ 16777216 then some (Txt.join sep zxs) else none

/-! ### built-ins -/
def lenD (M : Mem) : D → Option Int
  | .str x => if x.length ≤ sizeLine then some x.length else none
  | .tup zxs => some zxs.length
  | .lst zxs => some zxs.length
  | .ro zxs => some zxs.length
  | .loc n => match M[n]? with
    | some (some (.lst zxs)) => some zxs.length
    | _ => none
  | _ => none
def reprD (M : Mem) (d : D) : Option Str := match toPyM M d with
  | some x => if x.showable && decide (x.shown.length ≤ sizeLine) && decide (x.depth ≤ 60) && (!x.hasDict || noList x) then some x.shown else none
  | none => none
def bltD (b : Bi) (ds : List D) (M : Mem) : R D := match b, ds with
  | .len, [d] => R.of ((lenD M d).map .int) M
  | .int, [.int i] => .ok (.int i) M
  | .int, [.bl b] => .ok (.int (if b then 1 else 0)) M
  | .abs, [.int i] => .ok (.int (if i < 0 then -i else i)) M
  | .max, [.int i, .int j] => .ok (.int (if j > i then j else i)) M
  | .min, [.int i, .int j] => .ok (.int (if j < i then j else i)) M
  | .all, [d] => R.of (((lstD M d).bind blsOf).map fun bs => .bl (bs.all id)) M
  | .list, [d] => match seqD M d with
    | some zxs => mkL true zxs M
    | none => .bad
  | .listM, [d] => match seqD M d with
    | some zxs => mkL false zxs M
    | none => .bad
  | .tuple, [.tup zxs] => .ok (.tup zxs) M
  | .tuple, [d] => R.of ((lstD M d).map .tup) M
  | .repr, [d] => R.of ((reprD M d).map .str) M
  | _, _ => .bad
/-- methods: the receiver, the arguments -/
def mthD (m : Me) (o : D) (ds : List D) (M : Mem) : R D := match m, o, ds with
  | .append, .loc n, [d] => match M[n]? with
    | some (some (.lst zxs)) => if zxs.length < sizeLine then .ok .non (M.set n (some (.lst (zxs ++ [d])))) else .bad
    | _ => .bad
  | .pop, .loc n, [] => match M[n]? with
    | some (some (.lst zxs)) => match zxs.getLast? with
      | some x => .ok x (M.set n (some (.lst zxs.dropLast)))
      | none => .bad
    | _ => .bad
  | .pop, .loc n, [.int i] => match M[n]? with
    | some (some (.lst zxs)) => match ixN zxs.length i with
      | some j => match zxs[j]? with
        | some x => if -(2 ^ 63) ≤ i ∧ i < 2 ^ 63 then .ok x (M.set n (some (.lst (zxs.eraseIdx j)))) else .bad
        | none => .bad
      | none => .bad
    | _ => .bad
  | .join, .str s, [d] => match lstD M d with
    | some zxs => match strsOf zxs with
      | some ys => R.of ((joinS s ys).map .str) M
      | none => .bad
    | none => .bad
  | _, _, _ => .bad

/-- the receiver is of the method's kind -/
def rcvB (m : Me) (M : Mem) (x : D) : Bool := match m, x with
  | .join, .str _ => true
  | .append, .loc n => match M[n]? with
    | some (some (.lst _)) => true
    | _ => false
  | .pop, .loc n => match M[n]? with
    | some (some (.lst _)) => true
    | _ => false
  | _, _ => false

/-! ### expressions -/
/-- what is fixed in a text: the defs' bodies, the module's constants -/
structure FnE where
  name : Str
  ps : List Str
  N : List Str
  keep : Bool
  body : List S
structure Tb where
  fn : Nat → Option FnE
  gl : Nat → Option (Str × D)
  /-- own error classes -/
  cl : Nat → Option Str := fun _ => none
  /-- .. that have no __init__ of their own -/
  raw : Nat → Bool := fun _ => false
  /-- is an error of the first caught by 'except' of the second -/
  ex : Nat → Nat → Option Bool := fun _ _ => none
abbrev Calls := Nat → List D → Mem → R D

section
variable (Φ : Calls) (G : Tb)
mutual
def zev : E → Env' → Mem → R D
  | .var i, ρ, M => match ρ[i]? with
    | some (some d) => .ok d M
    | _ => .bad
  | .cst c, _, M => R.of (cstD c) M
  | .glo g, _, M => R.of ((G.gl g).map (·.2)) M
  | .bop op a b, ρ, M => (zev a ρ M).bnd fun x M1 => (zev b ρ M1).bnd fun y M2 => R.of (bopD M2 op x y) M2
  | .neg a, ρ, M => (zev a ρ M).bnd fun x M1 => match x with
    | .int i => .ok (.int (-i)) M1
    | _ => .bad
  | .boo k es, ρ, M => zevB k es ρ M
  | .not a, ρ, M => (zev a ρ M).bnd fun x M1 => R.of ((truD M1 x).map fun b => .bl (!b)) M1
  | .cmp a op b, ρ, M => (zev a ρ M).bnd fun x M1 => (zev b ρ M1).bnd fun y M2 => R.of ((cmpD M2 op x y).map .bl) M2
  | .chn a p b q c, ρ, M => (zev a ρ M).bnd fun x M1 => (zev b ρ M1).bnd fun y M2 => match cmpD M2 p x y with
    | some true => (zev c ρ M2).bnd fun z M3 => R.of ((cmpD M3 q y z).map .bl) M3
    | some false => .ok (.bl false) M2
    | none => .bad
  | .ife t a b, ρ, M => (if isT t then zevT t ρ M else (zev t ρ M).bnd fun d M9 => R.of (truD M9 d) M9).bnd fun k M1 => if k then zev a ρ M1 else zev b ρ M1
  | .tup es, ρ, M => (zevs es ρ M).bnd fun zxs M1 => if zxs.length ≤ sizeLine then .ok (.tup zxs) M1 else .bad
  | .lst fz es, ρ, M => (zevs es ρ M).bnd fun zxs M1 => mkL fz zxs M1
  | .dis _ [] [], _, M => .ok (.dic [] []) M
  | .dis _ _ _, _, _ => .bad
  | .star _, _, _ => .bad
  | .lc fz elt tg it ifs own, ρ, M => (if isIt it then zevI it ρ M else (zev it ρ M).bnd fun d M9 => R.of (itD M9 d) M9).bnd fun zxs M1 =>
    (foldC (fun x M2 => match tg.put x (wipeD ρ own) with
      | some ρ' => (zevF ifs ρ' M2).bnd fun b M3 => if b then (zev elt ρ' M3).bnd fun y M4 => .ok (some y) M4 else .ok none M3
      | none => .bad) zxs [] M1).bnd fun ys M5 => mkL fz ys M5
  | .lc2 _ _ _ _ _ _ _ _, _, _ => .bad
  | .call f es, ρ, M => (zevs es ρ M).bnd fun zxs M1 => Φ f zxs M1
  | .blt b es, ρ, M => (zevs es ρ M).bnd fun zxs M1 => bltD b zxs M1
  | .mth m o es, ρ, M => (zev o ρ M).bnd fun x M1 => if rcvB m M1 x then (zevs es ρ M1).bnd fun zxs M2 => mthD m x zxs M2 else .bad
  | .isi a t, ρ, M => (zev a ρ M).bnd fun x M1 => R.of ((isiD x t).map .bl) M1
  | .sub o i, ρ, M => (zev o ρ M).bnd fun x M1 => (zev i ρ M1).bnd fun y M2 => R.of (subD M2 x y) M2
  | .slc o lo hi, ρ, M => (zev o ρ M).bnd fun x M1 => (zevO lo ρ M1).bnd fun l M2 => (zevO hi ρ M2).bnd fun h M3 => R.of (slcD M3 x l h) M3
  | .rev o, ρ, M => (zev o ρ M).bnd fun x M1 => match x with
    | .tup zxs => .ok (.tup zxs.reverse) M1
    | x => R.of ((lstD M1 x).map fun zxs => .lst zxs.reverse) M1
  | .rng _, _, _ => .bad
  | .zip _ _, _, _ => .bad
  | .enm _, _, _ => .bad
/-- a test -/
def zevT : E → Env' → Mem → R Bool
  | .not a, ρ, M => (if isT a then zevT a ρ M else (zev a ρ M).bnd fun d M9 => R.of (truD M9 d) M9).bnd fun b M1 => .ok (!b) M1
  | .boo k es, ρ, M => zevTs k es ρ M
  | .ife t a b, ρ, M => (if isT t then zevT t ρ M else (zev t ρ M).bnd fun d M9 => R.of (truD M9 d) M9).bnd fun k M1 => if k then (if isT a then zevT a ρ M1 else (zev a ρ M1).bnd fun d M9 => R.of (truD M9 d) M9) else (if isT b then zevT b ρ M1 else (zev b ρ M1).bnd fun d M9 => R.of (truD M9 d) M9)
  | .cmp a op b, ρ, M => (zev a ρ M).bnd fun x M1 => (zev b ρ M1).bnd fun y M2 => R.of (cmpD M2 op x y) M2
  | .chn a p b q c, ρ, M => (zev a ρ M).bnd fun x M1 => (zev b ρ M1).bnd fun y M2 => match cmpD M2 p x y with
    | some true => (zev c ρ M2).bnd fun z M3 => R.of (cmpD M3 q y z) M3
    | some false => .ok false M2
    | none => .bad
  | _, _, _ => .bad
/-- and, or: values -/
def zevB : Bool → List E → Env' → Mem → R D
  | _, [], _, _ => .bad
  | _, [a], ρ, M => zev a ρ M
  | k, a :: es, ρ, M => (zev a ρ M).bnd fun x M1 => match truD M1 x with
    | some b => if b = k then zevB k es ρ M1 else .ok x M1
    | none => .bad
/-- and, or: tests -/
def zevTs : Bool → List E → Env' → Mem → R Bool
  | _, [], _, _ => .bad
  | _, [a], ρ, M => (if isT a then zevT a ρ M else (zev a ρ M).bnd fun d M9 => R.of (truD M9 d) M9)
  | k, a :: es, ρ, M => (if isT a then zevT a ρ M else (zev a ρ M).bnd fun d M9 => R.of (truD M9 d) M9).bnd fun b M1 => if b = k then zevTs k es ρ M1 else .ok b M1
/-- the tests of a comprehension: none or one -/
def zevF : List E → Env' → Mem → R Bool
  | [], _, M => .ok true M
  | [t], ρ, M => (if isT t then zevT t ρ M else (zev t ρ M).bnd fun d M9 => R.of (truD M9 d) M9)
  | _, _, _ => .bad
def zevs : List E → Env' → Mem → R (List D)
  | [], _, M => .ok [] M
  | e :: es, ρ, M => (zev e ρ M).bnd fun x M1 => (zevs es ρ M1).bnd fun zxs M2 => .ok (x :: zxs) M2
def zevO : Option E → Env' → Mem → R (Option Int)
  | none, _, M => .ok none M
  | some e, ρ, M => (zev e ρ M).bnd fun x M1 => match x with
    | .int i => .ok (some i) M1
    | _ => .bad
/-- what is walked -/
def zevI : E → Env' → Mem → R (List D)
  | .rng es, ρ, M => (zevs es ρ M).bnd fun zxs M1 => match zxs, es.length with
    | [.int j], 1 => if -(2 ^ 62) ≤ j ∧ j < 2 ^ 62 then .ok ((List.range j.toNat).map fun (i : Nat) => .int (0 + (i : Int))) M1 else .bad
    | [.int i, .int j], 2 => if -(2 ^ 62) ≤ i ∧ i < 2 ^ 62 ∧ -(2 ^ 62) ≤ j ∧ j < 2 ^ 62 then .ok ((List.range (j - i).toNat).map fun (k : Nat) => .int (i + (k : Int))) M1 else .bad
    | _, _ => .bad
  | .zip a b, ρ, M => (zev a ρ M).bnd fun x M1 => (zev b ρ M1).bnd fun y M2 => match itD M2 x, itD M2 y with
    | some zxs, some ys => .ok (List.zipWith (fun p q => .tup [p, q]) zxs ys) M2
    | _, _ => .bad
  | .enm a, ρ, M => (zev a ρ M).bnd fun x M1 => match itD M1 x with
    | some zxs => .ok (zxs.zipIdx.map fun p => .tup [.int p.2, p.1]) M1
    | none => .bad
  | _, _, _ => .bad
end

/-- a test, whatever it is; what is walked, whatever it is -/
def ztst (e : E) (ρ : Env') (M : Mem) : R Bool := if isT e then zevT Φ G e ρ M else (zev Φ G e ρ M).bnd fun d M9 => R.of (truD M9 d) M9
def zwlk (e : E) (ρ : Env') (M : Mem) : R (List D) := if isIt e then zevI Φ G e ρ M else (zev Φ G e ρ M).bnd fun d M9 => R.of (itD M9 d) M9

/-! ### statements -/
def ipF : Operator → Option (Int → Int → Int)
  | .Add => some fun a b => a + b
  | .Sub => some fun a b => a - b
  | _ => none
def loopF (g : D → Env' → Mem → RS) : List D → Env' → Mem → RS
  | [], ρ, M => .nx ρ M
  | d :: ds, ρ, M => match g d ρ M with
    | .nx ρ1 M1 => loopF g ds ρ1 M1
    | .ct ρ1 M1 => loopF g ds ρ1 M1
    | .bk ρ1 M1 => .nx ρ1 M1
    | r => r
def loopW (t : Env' → Mem → R Bool) (g : Env' → Mem → RS) : Nat → Env' → Mem → RS
  | 0, _, _ => .bad
  | n + 1, ρ, M => (t ρ M).st ρ fun b M1 => if b then (match g ρ M1 with
    | .nx ρ2 M2 => loopW t g n ρ2 M2
    | .ct ρ2 M2 => loopW t g n ρ2 M2
    | .bk ρ2 M2 => .nx ρ2 M2
    | r => r) else .nx ρ M1
/-- how many turns a while may take -/
def turns : Nat := 100000
mutual
def zxc : S → Env' → Mem → RS
  | .exp e, ρ, M => (zev Φ G e ρ M).st ρ fun _ M1 => .nx ρ M1
  | .set tg e, ρ, M => (zev Φ G e ρ M).st ρ fun x M1 => match tg.put x ρ with
    | some ρ' => .nx ρ' M1
    | none => .bad
  | .par i j a b, ρ, M => (zev Φ G a ρ M).st ρ fun x M1 => (zev Φ G b ρ M1).st ρ fun y M2 => .nx ((ρ.set i (some x)).set j (some y)) M2
  | .aug i op e, ρ, M => match ρ[i]? with
    | some (some x) => (zev Φ G e ρ M).st ρ fun y M1 => match ipF op, x, y with
      | some f, .int a, .int b => .nx (ρ.set i (some (.int (f a b)))) M1
      | _, _, _ => .bad
    | _ => .bad
  | .sst o i e, ρ, M => (zev Φ G e ρ M).st ρ fun y M1 => (zev Φ G o ρ M1).st ρ fun x M2 => (zev Φ G i ρ M2).st ρ fun k M3 => match x, k with
    | .loc n, .int j => match M3[n]? with
      | some (some (.lst zxs)) => match ixN zxs.length j with
        | some q => .nx ρ (M3.set n (some (.lst (zxs.set q y))))
        | none => .bad
      | _ => .bad
    | _, _ => .bad
  | .ite t a b, ρ, M => (ztst Φ G t ρ M).st ρ fun k M1 => if k then zxs a ρ M1 else zxs b ρ M1
  | .whl t b, ρ, M => loopW (fun ρ M => ztst Φ G t ρ M) (fun ρ M => zxs b ρ M) turns ρ M
  | .fr tg it b, ρ, M => (zwlk Φ G it ρ M).st ρ fun ds M1 => loopF (fun d ρ M => match tg.put d ρ with
    | some ρ' => zxs b ρ' M
    | none => .bad) ds ρ M1
  | .ret e, ρ, M => (zev Φ G e ρ M).st ρ fun d M1 => .rt d M1
  | .retN, _, M => .rt .non M
  | .pass, ρ, M => .nx ρ M
  | .brk, ρ, M => .bk ρ M
  | .cnt, ρ, M => .ct ρ M
  | .mat e ps bs, ρ, M => (zev Φ G e ρ M).st ρ fun d M1 => zxm ps bs d ρ M1
  | .rai c _, ρ, M => if G.raw c then .er ⟨c, [], []⟩ ρ M else .bad
  | .tr1 b h k, ρ, M => match zxs b ρ M with
    | .er x ρ1 M1 => match G.ex x.c h with
      | some true => match cstD k with
        | some d => .rt d M1
        | none => .bad
      | some false => .er x ρ1 M1
      | none => .bad
    | r => r
  | .frz i, ρ, M => match ρ[i]? with
    | some (some (.loc n)) => match M[n]? with
      | some (some (.lst zxs)) => .nx (ρ.set i (some (.lst zxs))) (M.set n none)
      | _ => .bad
    | _ => .bad
def zxs : List S → Env' → Mem → RS
  | [], ρ, M => .nx ρ M
  | s :: r, ρ, M => match zxc s ρ M with
    | .nx ρ1 M1 => zxs r ρ1 M1
    | o => o
def zxm : List Pt → List (List S) → D → Env' → Mem → RS
  | p :: ps, b :: bs, d, ρ, M => match Pt.go M p d with
    | some (some l) => zxs b (sets ρ l) M
    | some none => zxm ps bs d ρ M
    | none => .bad
  | _, [], _, ρ, M => .nx ρ M
  | [], _, _, ρ, M => .nx ρ M
end
end

/-- the end of a call -/
def fin (keep : Bool) (M0 : Mem) : RS → R D
  | .nx _ M => if keep then .ok .non M else trim M0 .non M
  | .rt d M => if keep then .ok d M else trim M0 d M
  | .er x _ M => if keep then .err x M else if D.bels M0.length x.vs && oldOk M0.length M0 (M.take M0.length) then .err x (M.take M0.length) else .bad
  | _ => .bad
/-- the defs, by how deep calls may go -/
def Phi (G : Tb) : Nat → Calls
  | 0, _, _, _ => .bad
  | k + 1, f, ds, M => match G.fn f with
    | none => .bad
    | some e => if ds.length = e.ps.length then fin e.keep M (zxs (Phi G k) G e.body (ds.map some ++ List.replicate (e.N.length - ds.length) none) M) else .bad
end Dv
end L2
/-! Dv: that a def's body in the text is the one in own syntax -/
namespace L2
namespace Dv
open PySem PySem.Spec PyProof.Rows

/-- builtin names that must be built-in -/
def bnames : List Str := ["len", "int", "abs", "max", "min", "all", "any", "sorted", "list", "tuple", "str", "repr", "bool", "sum", "set", "dict", "range", "zip", "enumerate", "isinstance"]
def visB (sc : Scope) (x : Str) : Bool := match sc.names.lookup x with
  | some .local => true | some .cell => true | some .free => true | _ => false
def locB (sc : Scope) (x : Str) : Bool := match sc.names.lookup x with
  | some .local => true | some .cell => true | _ => false
def lclB (sc : Scope) (x : Str) : Bool := match sc.names.lookup x with
  | some .local => true | _ => false
def glB (sc : Scope) (x : Str) : Bool := match sc.names.lookup x with
  | some .globalImplicit => true | _ => false
def okn (x : Str) : Bool := !(x == ("__debug__" : Str)) && !(x == ("__classdict__" : Str)) && !(x == ("__name__" : Str))
def Bi.nm : Bi → String
  | .len => "len" | .int => "int" | .abs => "abs" | .max => "max" | .min => "min" | .all => "all" | .any => "any" | .sorted => "sorted"
  | .list => "list" | .listM => "list" | .tuple => "tuple" | .str => "str" | .repr => "repr" | .bool => "bool" | .sum => "sum" | .set => "set" | .dict => "dict"
def Me.nm : Me → String
  | .append => "append" | .pop => "pop" | .extend => "extend" | .join => "join" | .items => "items" | .values => "values" | .get => "get" | .index => "index"
  | .clear => "clear" | .insert => "insert" | .split => "split" | .partition => "partition" | .lstrip => "lstrip" | .lower => "lower" | .replace => "replace"
  | .update => "update" | .setdefault => "setdefault" | .count => "count"
/-- no super() -/
def noSup : Expr → Bool
  | .Call (.Name _ _) [] [] _ => false
  | _ => true
def noSl : Expr → Bool
  | .Slice _ _ _ _ => false
  | _ => true
def noSet : Expr → Bool
  | .Set _ _ _ => false
  | _ => true
def noComp : Expr → Bool
  | .ListComp _ _ _ _ => false | .SetComp _ _ _ _ => false | .DictComp _ _ _ _ _ => false
  | _ => true
def noTup : Expr → Bool
  | .Tuple _ _ _ => false
  | _ => true
def noStar : Expr → Bool
  | .Starred _ _ => false
  | _ => true
/-- what is tested by its value -/
def plT : Expr → Bool
  | .UnaryOp .Not _ _ => false | .BoolOp _ _ _ => false | .IfExp _ _ _ _ => false | .Compare _ _ _ _ => false
  | _ => true
def tsB (e : E) (x : Expr) : Bool := isT e || plT x
def tsBs : List E → List Expr → Bool
  | e :: es, x :: zxs => tsB e x && tsBs es zxs
  | _, _ => true
/-- what walks pairs has a target of two -/
def itB : E → Tg → Bool
  | .zip _ _, .tp _ => true
  | .enm _, .tp _ => true
  | .zip _ _, _ => false
  | .enm _, _ => false
  | _, _ => true
mutual
/-- the slots of a target -/
def Tg.ix : Tg → List Nat
  | .nm i => [i]
  | .tp ts => Tg.ixs ts
def Tg.ixs : List Tg → List Nat
  | [] => []
  | t :: ts => Tg.ix t ++ Tg.ixs ts
end
mutual
def chT (q : Bool) (N : List Str) (sc : Scope) : Tg → Expr → Bool
  | .nm i, .Name x _ => decide (N[i]? = some x) && (if q then locB sc x else lclB sc x) && okn x
  | .tp ts, .Tuple es _ _ => chTs q N sc ts es
  | _, _ => false
def chTs (q : Bool) (N : List Str) (sc : Scope) : List Tg → List Expr → Bool
  | [], [] => true
  | t :: ts, e :: es => chT q N sc t e && chTs q N sc ts es
  | _, _ => false
end
def ownN (N : List Str) (own : List Nat) : List (Str × Nat) := own.map fun i => (N.getD i Str.empty, i)

/-! ### what stands there -/
def asName : Expr → Option Str
  | .Name x _ => some x
  | _ => none
def asConst : Expr → Option Const
  | .Constant c _ _ => some c
  | _ => none
def asBin : Expr → Option (Operator × Expr × Expr)
  | .BinOp a o b _ => some (o, a, b)
  | _ => none
def asUn : Expr → Option (UnaryOp × Expr)
  | .UnaryOp o a _ => some (o, a)
  | _ => none
def asBool : Expr → Option (BoolOp × List Expr)
  | .BoolOp o a _ => some (o, a)
  | _ => none
def asCmp : Expr → Option (Expr × CmpOp × Expr)
  | .Compare a [o] [b] _ => some (a, o, b)
  | _ => none
def asChn : Expr → Option (Expr × CmpOp × Expr × CmpOp × Expr)
  | .Compare a [o, p] [b, c] _ => some (a, o, b, p, c)
  | _ => none
def asIf : Expr → Option (Expr × Expr × Expr)
  | .IfExp a b c _ => some (a, b, c)
  | _ => none
def asTup : Expr → Option (List Expr)
  | .Tuple es _ _ => some es
  | _ => none
def asLst : Expr → Option (List Expr)
  | .List es _ => some es
  | _ => none
def asDict0 : Expr → Bool
  | .Dict [] [] _ => true
  | _ => false
def asComp : Expr → Option (Expr × Expr × Expr × List Expr × Scope)
  | .ListComp x [⟨t, i, fs, a⟩] sc _ => if a = 0 then some (x, t, i, fs, sc) else none
  | _ => none
def asCall : Expr → Option (Str × List Expr)
  | .Call (.Name z _) ys [] _ => some (z, ys)
  | _ => none
def asMeth : Expr → Option (Expr × Str × List Expr)
  | .Call (.Attribute o n ap) ys [] p => if (ap.endLine == p.line) = true then some (o, n, ys) else none
  | _ => none
def asSub : Expr → Option (Expr × Expr)
  | .Subscript o i _ => some (o, i)
  | _ => none
def asSlc : Expr → Option (Option Expr × Option Expr)
  | .Slice l h none _ => some (l, h)
  | _ => none
def asBack : Expr → Bool
  | .Slice none none (some (.UnaryOp .USub (.Constant (.int 1) _ _) _)) _ => true
  | _ => false
/-- methods that are known, by how many arguments they have -/
def mthB : Me → Nat → Bool
  | .append, 1 => true | .join, 1 => true | .pop, 0 => true | .pop, 1 => true
  | _, _ => false

section
variable (T : Tb) (N : List Str)
mutual
def chE : Scope → E → Expr → Bool
  | sc, .var i, x => (match asName x with | some y => decide (N[i]? = some y) && visB sc y && okn y | none => false)
  | _, .cst c, x => (match asConst x with | some d => decide (c = d) | none => false)
  | sc, .glo g, x => (match asName x with | some y => (match T.gl g with | some (z, _) => decide (z = y) | none => false) && glB sc y && okn y | none => false)
  | sc, .bop op a b, x => (match asBin x with | some (o, y, z) => decide (op = o) && chE sc a y && chE sc b z | none => false)
  | sc, .neg a, x => (match asUn x with | some (o, y) => decide (o = .USub) && chE sc a y | none => false)
  | sc, .boo k es, x => (match asBool x with | some (o, ys) => decide (o = if k then BoolOp.And else BoolOp.Or) && chEs sc es ys && tsBs es ys | none => false)
  | sc, .not a, x => (match asUn x with | some (o, y) => decide (o = .Not) && chE sc a y && tsB a y | none => false)
  | sc, .cmp a op b, x => (match asCmp x with | some (y, o, z) => decide (op = o) && chE sc a y && chE sc b z && noSet z | none => false)
  | sc, .chn a p b q c, x => (match asChn x with | some (y, o1, z, o2, w) => decide (p = o1) && decide (q = o2) && chE sc a y && chE sc b z && chE sc c w && noSet w | none => false)
  | sc, .ife t a b, x => (match asIf x with | some (y, z, w) => chE sc t y && chE sc a z && chE sc b w && tsB t y && tsB a z && tsB b w | none => false)
  | sc, .tup es, x => (match asTup x with | some ys => chEs sc es ys | none => false)
  | sc, .lst _ es, x => (match asLst x with | some ys => chEs sc es ys | none => false)
  | _, .dis _ ks vs, x => ks.isEmpty && vs.isEmpty && asDict0 x
  | sc, .lc _ elt tg it ifs own, x => (match asComp x with
    | some (y, t, i, fs, scope) => blkC N sc scope (ownN N own) && chE sc it i && noSet i && chT false N (relS scope sc) tg t && (tg.ix.all fun j => own.contains j) && chEs (relS scope sc) ifs fs && tsBs ifs fs && itB it tg && chE (relS scope sc) elt y
    | none => false)
  | sc, .call f es, x => (match asCall x with | some (y, ys) => (match T.fn f with | some e => decide (e.name = y) | none => false) && glB sc y && okn y && !es.isEmpty && chEs sc es ys | none => false)
  | sc, .blt b es, x => (match asCall x with | some (y, ys) => decide (y = Str.ofString b.nm) && glB sc y && !es.isEmpty && chEs sc es ys | none => false)
  | sc, .mth m o es, x => (match asMeth x with | some (y, n, ys) => decide (n = Str.ofString m.nm) && chE sc o y && noSup y && chEs sc es ys && mthB m es.length | none => false)
  | sc, .isi a (.bt n), x => (match asCall x with
    | some (y, [z, t]) => decide (y = "isinstance") && glB sc y && (match asName t with
      | some t => decide (t = Str.ofString n) && glB sc t && okn t && bnames.contains t && decide (bootBuiltins t = some (.type n)) && chE sc a z
      | none => false)
    | _ => false)
  | _, .isi _ (.own _), _ => false
  | sc, .sub o i, x => (match asSub x with | some (y, z) => chE sc o y && chE sc i z && noSl z | none => false)
  | sc, .slc o lo hi, x => (match asSub x with
    | some (y, z) => chE sc o y && (match asSlc z with | some (l, h) => chO sc lo l && chO sc hi h | none => false)
    | none => false)
  | sc, .rev o, x => (match asSub x with | some (y, z) => chE sc o y && asBack z | none => false)
  | sc, .rng es, x => (match asCall x with | some (y, ys) => decide (y = "range") && glB sc y && (es.length == 1 || es.length == 2) && chEs sc es ys | none => false)
  | sc, .zip a b, x => (match asCall x with | some (y, [z, w]) => decide (y = "zip") && glB sc y && chE sc a z && chE sc b w | _ => false)
  | sc, .enm a, x => (match asCall x with | some (y, [z]) => decide (y = "enumerate") && glB sc y && chE sc a z | _ => false)
  | _, .star _, _ => false
  | _, .lc2 _ _ _ _ _ _ _ _, _ => false
def chEs : Scope → List E → List Expr → Bool
  | _, [], [] => true
  | sc, e :: es, x :: zxs => chE sc e x && chEs sc es zxs
  | _, _, _ => false
def chO : Scope → Option E → Option Expr → Bool
  | _, none, none => true
  | sc, some e, some x => chE sc e x
  | _, _, _ => false
end
mutual
def chP (sc : Scope) : Pt → Pattern → Bool
  | .wild, .MatchAs none none _ => true
  | .cap i, .MatchAs none (some x) _ => decide (N[i]? = some x) && locB sc x && okn x
  | .val c, .MatchValue (.Constant d _ _) _ => decide (c = d)
  | .alt ps, .MatchOr qs _ => chPs sc ps qs && chNo ps
  | .seq ps, .MatchSequence qs _ => chPs sc ps qs && !(ps.all fun p => match p with | .wild => true | _ => false) && decide (ps.length < 1000)
  | _, _ => false
def chPs (sc : Scope) : List Pt → List Pattern → Bool
  | [], [] => true
  | p :: ps, q :: qs => chP sc p q && chPs sc ps qs
  | _, _ => false
/-- alternatives that take nothing -/
def chNo : List Pt → Bool
  | [] => true
  | .val _ :: ps => chNo ps
  | _ => false
end
/-! ### what statement stands there -/
def asExp : Stmt → Option Expr
  | .Expr x _ => some x
  | _ => none
def asAsg : Stmt → Option (Expr × Expr × Nat)
  | .Assign [t] x p => some (t, x, p.line)
  | _ => none
def asAug : Stmt → Option (Str × Operator × Expr)
  | .AugAssign (.Name x _) o y _ => some (x, o, y)
  | _ => none
def asIfS : Stmt → Option (Expr × List Stmt × List Stmt)
  | .If x ys zs _ => some (x, ys, zs)
  | _ => none
def asWhl : Stmt → Option (Expr × List Stmt)
  | .While x ys [] _ => some (x, ys)
  | _ => none
def asFor : Stmt → Option (Expr × Expr × List Stmt)
  | .For t i ys [] _ => some (t, i, ys)
  | _ => none
def asRet : Stmt → Option (Option Expr)
  | .Return x _ => some x
  | _ => none
def asMat : Stmt → Option (Expr × List MatchCase)
  | .Match x cs _ => some (x, cs)
  | _ => none
def asRai : Stmt → Option (Str × Str)
  | .Raise (some (.Call (.Name x _) [.Constant (.str m) _ _] [] _)) none _ => some (x, m)
  | _ => none
def asTr1 : Stmt → Option (List Stmt × Str × Const)
  | .Try b [.ExceptHandler (some (.Name x _)) none [.Return (some (.Constant k _ _)) _] _] [] [] _ => some (b, x, k)
  | _ => none
def asPass : Stmt → Bool
  | .Pass _ => true
  | _ => false
def asBrk : Stmt → Bool
  | .Break _ => true
  | _ => false
def asCnt : Stmt → Bool
  | .Continue _ => true
  | _ => false
/-- two names, on one line -/
def asTwo : Expr → Option (Str × Str)
  | .Tuple [.Name x px, .Name y py] _ _ => if (py.line == px.line) = true then some (x, y) else none
  | _ => none
def asPair : Expr → Option (Expr × Expr)
  | .Tuple [u, v] _ _ => some (u, v)
  | _ => none
/-- x = [..] on one line, a local that is not the block's own -/
def swB (sc : Scope) : Expr → Expr → Bool
  | .ListComp _ _ scope pos, .Name y py => lclB sc y && (py.line == pos.line) && !(scope.names.any fun (n, k) => n == y && (k == .local || k == .cell))
  | _, _ => false
/-- a tuple of names, the first (or the second) of which is no plain local -/
def cellT (sc : Scope) : Expr → Bool
  | .Tuple [.Name x _, .Name y _] _ _ => !lclB sc x || !lclB sc y
  | _ => false
/-- .. not so -/
def swN (sc : Scope) : Expr → Expr → Bool
  | .ListComp _ _ scope pos, .Name y py => !(lclB sc y && (py.line == pos.line) && !(scope.names.any fun (n, k) => n == y && (k == .local || k == .cell)))
  | x, _ => noComp x
mutual
def chS (sc : Scope) : S → Stmt → Bool
  | .exp e, s => (match asExp s with | some x => chE T N sc e x && noComp x | none => false)
  | .set tg e, s => (match asAsg s with | some (t, x, _) => chT true N sc tg t && chE T N sc e x && ((swN sc x t && (noTup x || noTup t || cellT sc t)) || swB sc x t) | none => false)
  | .par i j a b, s => (match asAsg s with
    | some (t, x, _) => (match asTwo t, asPair x with
      | some (p, q), some (u, v) => decide (N[i]? = some p) && decide (N[j]? = some q) && decide (i ≠ j) && lclB sc p && lclB sc q && chE T N sc a u && chE T N sc b v && !(foldedForSure 8 u && foldedForSure 8 v) && !(constantsAlone 8 u && constantsAlone 8 v)
      | _, _ => false)
    | none => false)
  | .aug i op e, s => (match asAug s with | some (x, o, y) => decide (op = o) && decide (N[i]? = some x) && locB sc x && (ipF op).isSome && chE T N sc e y | none => false)
  | .sst o i e, s => (match asAsg s with
    | some (t, z, _) => (match asSub t with
      | some (x, y) => chE T N sc o x && chE T N sc i y && noSl y && chE T N sc e z && noComp z
      | none => false)
    | none => false)
  | .ite t a b, s => (match asIfS s with | some (x, ys, zs) => chE T N sc t x && tsB t x && chSs sc a ys && chSs sc b zs | none => false)
  | .whl t b, s => (match asWhl s with | some (x, ys) => chE T N sc t x && tsB t x && chSs sc b ys | none => false)
  | .fr tg it b, s => (match asFor s with | some (t, i, ys) => chT true N sc tg t && itB it tg && chE T N sc it i && noSet i && chSs sc b ys | none => false)
  | .ret e, s => (match asRet s with | some (some x) => chE T N sc e x | _ => false)
  | .retN, s => (match asRet s with | some none => true | _ => false)
  | .pass, s => asPass s
  | .brk, s => asBrk s
  | .cnt, s => asCnt s
  | .mat e ps bs, s => (match asMat s with | some (x, cs) => chE T N sc e x && chCs sc ps bs cs | none => false)
  | .frz _, _ => false
  | .rai c m, s => (match asRai s with | some (x, n) => decide (T.cl c = some x) && T.raw c && decide (m = n) && glB sc x && okn x | none => false)
  | .tr1 b h k, s => (match asTr1 s with | some (y, x, c) => decide (T.cl h = some x) && decide (k = c) && glB sc x && okn x && chSs sc b y | none => false)
def chSs (sc : Scope) : List S → List Stmt → Bool
  | [], st => st.isEmpty
  | .frz _ :: r, st => chSs sc r st
  | s :: r, st => (match st with
    | x :: y => chS sc s x && chSs sc r y
    | [] => false)
def chCs (sc : Scope) : List Pt → List (List S) → List MatchCase → Bool
  | p :: ps, b :: bs, ⟨q, none, c⟩ :: cs => chP N sc p q && chSs sc b c && chCs sc ps bs cs
  | [], [], [] => true
  | _, _, _ => false
end
end
end Dv
end L2
/-! Dv: what is wanted of a run, and steps of it -/
namespace L2
namespace Dv
open PySem PySem.Spec PyProof.Rows

/-- an error as it lies: its class, its own dict -/
def XRp (W : Wd) (F : Hp) (ι : List Addr) (H : Hp) (x : Ex) (cls : Value) (dx : Option Addr) : Prop :=
  ∃ C vs, W.cl x.c = some C ∧ cls = .ref C ∧ Rps W F ι vs x.vs ∧ x.ns.length = vs.length ∧ (match dx with
    | none => x.ns = []
    | some d => H d = some (.xd (x.ns.zip vs)))
abbrev WXH := Value → Option Addr → Hp → Prop
def Pst {α β : Type} (W : Wd) (Wx : WXH) (rel : Hp → List Addr → β → α → Prop) (Q : β → Hp → Prop) (r : R α) (M : Mem) (F H : Hp) (ι : List Addr) : Prop := match r with
  | .ok d M' => ∀ v F' H' ι', Rel W M' F' H' ι' → Grow M F H ι M' F' H' ι' → rel F' ι' v d → Q v H'
  | .err x M' => ∀ cls dx F' H' ι', Rel W M' F' H' ι' → Grow M F H ι M' F' H' ι' → XRp W F' ι' H' x cls dx → Wx cls dx H'
  | .bad => False
def tG {α β : Type} (W : Wd) (Wx : WX) (rel : Hp → List Addr → β → α → Prop) (r : Env' → Mem → R α) : L2.St → Hp → (β → Hp → Prop) → Prop := fun σ H Q =>
  ∃ ρ M F ι, Rel W M F H ι ∧ RelS W F ι ρ σ ∧ Pst W (fun c d H' => Wx c d σ H') rel Q (r ρ M) M F H ι
def eqB : Hp → List Addr → Bool → Bool → Prop := fun _ _ b c => b = c
def eqO : Hp → List Addr → Option Int → Option Int → Prop := fun _ _ b c => b = c

section
variable {α β γ δ : Type} {W : Wd} {Wx : WXH} {rel : Hp → List Addr → β → α → Prop} {rel2 : Hp → List Addr → δ → γ → Prop} {Q Q' : β → Hp → Prop} {M M1 : Mem} {F F1 H H1 : Hp} {ι ι1 : List Addr} {ρ : Env'} {σ : L2.St}
theorem Pst.imp {r : R α} (h : ∀ v H, Q v H → Q' v H) : Pst W Wx rel Q r M F H ι → Pst W Wx rel Q' r M F H ι := by
  cases r with
  | ok d M' => exact fun p v F' H' ι' a b c => h _ _ (p v F' H' ι' a b c)
  | err x M' => exact id
  | bad => exact id
theorem Pst.from {r : R α} (g : Grow M F H ι M1 F1 H1 ι1) : Pst W Wx rel Q r M F H ι → Pst W Wx rel Q r M1 F1 H1 ι1 := by
  cases r with
  | ok d M' => exact fun p v F' H' ι' a b c => p v F' H' ι' a (g.trans b) c
  | err x M' => exact fun p cls dx F' H' ι' a b c => p cls dx F' H' ι' a (g.trans b) c
  | bad => exact id
theorem Pst.bnd {r : R α} {f : α → Mem → R γ} {Q : δ → Hp → Prop} : Pst W Wx rel2 Q (r.bnd f) M F H ι →
    Pst W Wx rel (fun v H1 => ∃ M1 F1 ι1 d, Rel W M1 F1 H1 ι1 ∧ Grow M F H ι M1 F1 H1 ι1 ∧ rel F1 ι1 v d ∧ Pst W Wx rel2 Q (f d M1) M1 F1 H1 ι1) r M F H ι := by
  cases r with
  | ok d M' => exact fun p v F' H' ι' a b c => ⟨M', F', ι', d, a, b, c, p.from b⟩
  | err x M' => exact id
  | bad => exact id
end
section
variable {α β γ δ : Type} {W : Wd} {Wx : WX} {rel : Hp → List Addr → β → α → Prop} {rel2 : Hp → List Addr → δ → γ → Prop} {M M1 : Mem} {F F1 H H1 : Hp} {ι ι1 : List Addr} {ρ : Env'} {σ : L2.St}
/-- one part of a run -/
theorem step {r : Env' → Mem → R α} {f : α → Mem → R γ} {Q : δ → Hp → Prop} (R : Rel W M F H ι) (S : RelS W F ι ρ σ) (p : Pst W (fun c d H' => Wx c d σ H') rel2 Q ((r ρ M).bnd f) M F H ι) :
    tG W Wx rel r σ H (fun v H1 => ∃ M1 F1 ι1 d, Rel W M1 F1 H1 ι1 ∧ RelS W F1 ι1 ρ σ ∧ Grow M F H ι M1 F1 H1 ι1 ∧ rel F1 ι1 v d ∧ Pst W (fun c d H' => Wx c d σ H') rel2 Q (f d M1) M1 F1 H1 ι1) :=
  ⟨ρ, M, F, ι, R, S, p.bnd.imp fun v H1 ⟨M1, F1, ι1, d, a, b, c, e⟩ => ⟨M1, F1, ι1, d, a, S.mono b.f b.i, b, c, e⟩⟩
end

/-! ### readings may be weakened -/
section
variable {X : Cx}
theorem _root_.L2.PE.imp {e : Expr} {t t' : TE} (h : PE X e t) (i : ∀ σ H Q, t' σ H Q → t σ H Q) : PE X e t' := ⟨fun pins s σ H Q I q => h.run pins s σ H Q I (i σ H Q q)⟩
theorem _root_.L2.PT.imp {e : Expr} {t t' : TT} (h : PT X e t) (i : ∀ σ H Q, t' σ H Q → t σ H Q) : PT X e t' := ⟨fun pins s σ H Q I q => h.run pins s σ H Q I (i σ H Q q)⟩
theorem _root_.L2.PW.imp {e : Expr} {t t' : TT} (h : PW X e t) (i : ∀ σ H Q, t' σ H Q → t σ H Q) : PW X e t' := ⟨fun wh pins s σ H Q I q => h.run wh pins s σ H Q I (i σ H Q q)⟩
theorem _root_.L2.PA.imp {e : List Expr} {t t' : TA} (h : PA X e t) (i : ∀ σ H Q, t' σ H Q → t σ H Q) : PA X e t' := ⟨fun pos pins s σ H Q I q => h.run pos pins s σ H Q I (i σ H Q q)⟩
theorem _root_.L2.PS.imp {e : Stmt} {t t' : TS} (h : PS X e t) (i : ∀ D σ H, t' D σ H → t D σ H) : PS X e t' := ⟨fun pins s σ H D I q => h.run pins s σ H D I (i D σ H q)⟩
theorem _root_.L2.PSs.imp {e : List Stmt} {t t' : TS} (h : PSs X e t) (i : ∀ D σ H, t' D σ H → t D σ H) : PSs X e t' := ⟨fun pins s σ H D I q => h.run pins s σ H D I (i D σ H q)⟩
theorem _root_.L2.PI.imp {tg e : Expr} {t t' : TI} (h : PI X tg e t) (i : ∀ σ H R, t' σ H R → t σ H R) : PI X tg e t' := ⟨fun pins s σ H R I q => h.run pins s σ H R I (i σ H R q)⟩
theorem _root_.L2.PO.imp {e : Option Expr} {t t' : TO} (h : PO X e t) (i : ∀ σ H Q, t' σ H Q → t σ H Q) : PO X e t' := ⟨fun pins s σ H Q I q => h.run pins s σ H Q I (i σ H Q q)⟩
theorem _root_.L2.PTs.imp {e : List Expr} {t t' : TT} (h : PTs X e t) (i : ∀ σ H Q, t' σ H Q → t σ H Q) : PTs X e t' := ⟨fun pins s σ H Q I q => h.run pins s σ H Q I (i σ H Q q)⟩
end

/-! ### calls of defs, where nothing is being shown -/
structure FnG (P : Program) (w : World) (K : PySem.W.Frag) (mg : Str → Option Value) (base : Heap) (k : Nat) (f : Addr) (fd : FuncData) (ps : List Str) (sp : Sp) : Prop where
  len : ∀ vs H Q E, sp vs H Q E → vs.length = ps.length
  run : ∀ (A : Around) (outer : List Env) (s : Shared) (H : Hp) (args : Args) (us : List Value) (vs : List V) (Q : VK) (E : XK), Room k A → A.guards = some [] → Env0 P w K mg base A outer s H →
    BindsTo s fd args (ps.zip us) → Vals vs us → sp vs H Q E → codeAny (model P w) A (.call (.ref f) args) (CR (L2.CX P w) outer P w H s Q E) s
/-- the promise of a def: what the interpreter says -/
def spF (W : Wd) (Φ : Calls) (f : Nat) : Sp := fun vs H Q E => ∃ M F ι ds, Rel W M F H ι ∧ Rps W F ι vs ds ∧ Pst W (fun c d H' => E c d H') (Rp W) Q (Φ f ds M) M F H ι

/-- what is known of the module, and of the defs that may be called -/
structure Glo (T : Tb) (Φ : Calls) (W : Wd) (k : Nat) (P : Program) (w : World) (mg : Str → Option Value) (base : Heap) : Prop where
  fn : ∀ f e, T.fn f = some e → ∃ a fd, mg e.name = some (.ref a) ∧ PySem.W.keepIn W.K (.ref a) = true ∧ Binds W.K fd e.ps [] ∧ FnG P w W.K mg base k a fd e.ps (spF W Φ f)
  gl : ∀ g x d, T.gl g = some (x, d) → ∃ u v, mg x = some u ∧ RelV v u ∧ Rp W (fun _ => none) [] v d
  bl : ∀ x, x ∈ bnames → mg x = none
  cl : ∀ c x, T.cl c = some x → ∃ C, W.cl c = some C ∧ mg x = some (.ref C) ∧ PySem.W.keepIn W.K (.ref C) = true ∧ PySem.W.subIn W.K (.ref C) (.type "BaseException") = some true ∧ PySem.W.typeIn W.K (.ref C) = some (.type "type")
  raw : ∀ c C, T.raw c = true → W.cl c = some C → ∃ B newId initId bmB, ExcBaseFacts B newId initId bmB ∧ PySem.W.excIn W.K C bmB newId = true
  ex : ∀ c h b C D, T.ex c h = some b → W.cl c = some C → W.cl h = some D → PySem.W.exmOne W.K (.ref C) (.ref D) = some b
/-- a place in which expressions are run -/
structure Ok (T : Tb) (Φ : Calls) (W : Wd) (k : Nat) (Wx : WX) (X : Cx) : Prop where
  K : X.K = W.K
  nd : X.N.Nodup
  room : Room k X.A
  gd : X.A.guards = some []
  calm : X.calm = true
  glo : Glo T Φ W k X.prog X.w X.mg X.base
  tk : Takes X Wx

section
variable {X : Cx} {k : Nat} {f : Addr} {fd : FuncData} {ps : List Str} {sp : Sp} {E : L2.St → XK} {x : Str} {p pos : Pos} {e : Expr} {es : List Expr} {t : TA}
theorem run_fnG {pins : List (Addr × Obj)} {σ : L2.St} {H : Hp} {s : Shared} {Q : VK} {us : List Value} {vs : List V} (G : FnG X.prog X.w X.K X.mg X.base k f fd ps sp) (hr : Room k X.A) (hg : X.A.guards = some []) (hb : Binds X.K fd ps [])
    (hx : PassesAt (L2.CX X.prog X.w) X σ (E σ)) (I : Inv X pins σ H s) (r : Vals vs us) (h : sp vs H Q (E σ)) : wpAny (model X.prog X.w) X.A (call (.ref f) us) (EP X pins σ Q) X.xe s := by
  have hl : us.length = ps.length := r.length.symm.trans (G.len _ _ _ _ h)
  have hb' : BindsTo s fd ⟨us, []⟩ (ps.zip us) := by
    have b := hb s us I.kIn (by simpa using hl)
    simpa using b
  refine wpAny_call (codeAny_mono (G.run X.A X.stack s H ⟨us, []⟩ us vs Q (E σ) hr hg I.env0 hb' r h) fun res s' hq => ?_)
  match res, hq with
  | .error e, hq => exact hx pins H s e s' I hq
  | .ok (.ret u), hq => exact I.after hq
theorem pe_callG (G : FnG X.prog X.w X.K X.mg X.base k f fd ps sp) (hr : Room k X.A) (hgd : X.A.guards = some []) (hg : Gl X x) (hm : X.mg x = some (.ref f)) (hk : PySem.W.keepIn X.K (.ref f) = true) (hb : Binds X.K fd ps [])
    (hx : ∀ σ, PassesAt (L2.CX X.prog X.w) X σ (E σ)) (ha : PA X (e :: es) t) (hdb : (x == ("__debug__" : Str)) = false) (he : starEach (e :: es) X.env = (false, eval e X.env) :: starEach es X.env)
    (hpl : (backTo pos (starEach es X.env)).any (·.1) = false) : PE X (.Call (.Name x p) (e :: es) [] pos) (tCallS sp E t) := by
  constructor
  intro pins s σ H Q I h
  refine wpAny_Call_Name_kw (ld_glob I hg hm (PySem.W.callWith_K (h₀ := X.base) I.ok.mod.kin hk ?_ he hpl) hdb)
  exact thn (ha.run pos pins s σ H _ I h) fun us s1 ⟨vs, H1, I1, r, q⟩ => ⟨I1.kIn, run_fnG G hr hgd hb (hx σ) I1 r q⟩
end
end Dv
end L2
/-! Dv: operators -/
namespace L2
namespace Dv
open PySem PySem.Spec PyProof.Rows

def Pok (W : Wd) (Q : VK) (o : Option D) (M : Mem) (F H : Hp) (ι : List Addr) : Prop := match o with
  | some d => ∀ v F' H' ι', Rel W M F' H' ι' → Grow M F H ι M F' H' ι' → Rp W F' ι' v d → Q v H'
  | none => False
section
variable {W : Wd} {Wx : WXH} {Q : VK} {M : Mem} {F H : Hp} {ι : List Addr}
theorem Pok.of {o : Option D} (p : Pst W Wx (Rp W) Q (R.of o M) M F H ι) : Pok W Q o M F H ι := by
  cases o with
  | none => exact p
  | some d => exact p
theorem Pok.now {d : D} {v : V} (p : Pok W Q (some d) M F H ι) (R : Rel W M F H ι) (r : Rp W F ι v d) : Q v H := p v F H ι R Grow.refl r
theorem Pok.newT {ds : List D} {vs : List V} (p : Pok W Q (some (.tup ds)) M F H ι) (R : Rel W M F H ι) (r : Rps W F ι vs ds) : ∀ q, H q = none → Q (.ref q) (upd H q (.tup vs)) := fun q hq =>
  p _ _ _ ι (R.frozen hq) (Grow.frozen R hq) (.tup (SqT.of upd_same) (r.mono (same_upd (R.Fn hq)) (Ext.refl _)))
theorem Pok.newL {ds : List D} {vs : List V} (p : Pok W Q (some (.lst ds)) M F H ι) (R : Rel W M F H ι) (r : Rps W F ι vs ds) : ∀ q, H q = none → Q (.ref q) (upd H q (.lst vs)) := fun q hq =>
  p _ _ _ ι (R.frozen hq) (Grow.frozen R hq) (.lst upd_same (r.mono (same_upd (R.Fn hq)) (Ext.refl _)))

/-- a list that is read: frozen, or in a place -/
theorem lst_at {d : D} {ds : List D} {v : V} (R : Rel W M F H ι) (r : Rp W F ι v d) (h : lstD M d = some ds) : ∃ a vs, v = .ref a ∧ H a = some (.lst vs) ∧ Rps W F ι vs ds := by
  cases r with
  | @lst a vs ds' h1 h2 =>
    cases (show ds' = ds from by simpa [lstD] using h)
    exact ⟨a, vs, rfl, R.sub _ _ h1, h2⟩
  | @loc n a h1 =>
    simp only [lstD] at h
    split at h
    · rename_i zxs e
      cases h
      obtain ⟨o, q1, q2⟩ := R.has n a _ h1 e
      cases q2 with
      | lst q2 => exact ⟨a, _, rfl, q1, q2⟩
    · cases h
  | _ => simp [lstD] at h
theorem seq_at {d : D} {ds : List D} {v : V} (R : Rel W M F H ι) (r : Rp W F ι v d) (h : seqD M d = some ds) : ∃ a vs, v = .ref a ∧ (SqL W.K H a vs ∨ SqT W.K H a vs) ∧ Rps W F ι vs ds := by
  cases r with
  | @lst a vs ds' h1 h2 =>
    cases (show ds' = ds from by simpa [seqD] using h)
    exact ⟨a, vs, rfl, .inl (SqL.of (R.sub _ _ h1)), h2⟩
  | @ro a vs ds' h1 h2 =>
    cases (show ds' = ds from by simpa [seqD] using h)
    exact ⟨a, vs, rfl, .inl (R.sub.seq h1), h2⟩
  | @tup a vs ds' h1 h2 =>
    cases (show ds' = ds from by simpa [seqD] using h)
    exact ⟨a, vs, rfl, .inr (Same.seqT R.sub h1), h2⟩
  | @loc n a h1 =>
    simp only [seqD] at h
    split at h
    · rename_i zxs e
      cases h
      obtain ⟨o, q1, q2⟩ := R.has n a _ h1 e
      cases q2 with
      | lst q2 => exact ⟨a, _, rfl, .inl (SqL.of q1), q2⟩
    · cases h
  | _ => simp [seqD] at h
end

theorem flatten_rep {α : Type} (k : Nat) (zxs : List α) : True := trivial
theorem Rps.rep {W : Wd} {F : Hp} {ι : List Addr} {vs : List V} {ds : List D} (r : Rps W F ι vs ds) : ∀ k : Nat, Rps W F ι (List.replicate k vs).flatten (List.replicate k ds).flatten
  | 0 => .nil
  | k + 1 => by
    rw [List.replicate_succ, List.replicate_succ, List.flatten_cons, List.flatten_cons]
    exact r.append (Rps.rep r k)

def rB (W : Wd) (op : Operator) : R2 := fun x y H Q => ∃ M F ι a b, Rel W M F H ι ∧ Rp W F ι x a ∧ Rp W F ι y b ∧ Pok W Q (bopD M op a b) M F H ι
theorem op_bop {X : Cx} {W : Wd} (hK : X.K = W.K) (op : Operator) : OpR X (binaryOp op) (rB W op) := by
  intro pins s σ H x y v u Q I rx ry h
  obtain ⟨M, F, ι, a, b, R, ra, rb, p⟩ := h
  simp only [bopD] at p
  split at p
  · cases ra; cases rb; exact op_add pins s σ H _ _ v u Q I rx ry ⟨_, _, rfl, rfl, p.now R (.int _)⟩
  · cases ra; cases rb; exact op_sub pins s σ H _ _ v u Q I rx ry ⟨_, _, rfl, rfl, p.now R (.int _)⟩
  · split at p
    · rename_i hc
      cases ra; cases rb
      rcases hc with hc | hc | hc
      · exact op_mul pins s σ H _ _ v u Q I rx ry ⟨_, _, rfl, rfl, .inl hc, p.now R (.int _)⟩
      · exact op_mul pins s σ H _ _ v u Q I rx ry ⟨_, _, rfl, rfl, .inr hc, p.now R (.int _)⟩
      · exact op_mulW pins s σ H _ _ v u Q I rx ry ⟨_, _, rfl, rfl, hc, p.now R (.int _)⟩
    · exact p.elim
  · split at p
    · rename_i hc
      cases ra; cases rb; exact op_fdivW pins s σ H _ _ v u Q I rx ry ⟨_, _, rfl, rfl, hc, p.now R (.int _)⟩
    · exact p.elim
  · split at p
    · rename_i hc
      cases ra; cases rb; exact op_mod pins s σ H _ _ v u Q I rx ry ⟨_, _, rfl, rfl, hc, p.now R (.int _)⟩
    · exact p.elim
  · split at p
    · rename_i hc
      cases ra; cases rb
      obtain ⟨t, rfl⟩ := rx
      obtain ⟨t', rfl⟩ := ry
      exact pow_int hc.1 hc.2 ⟨.int _, H, I.tok _, ⟨_, rfl⟩, p.now R (.int _)⟩
    · exact p.elim
  · split at p
    · rename_i hc
      cases ra; cases rb; exact op_add_str pins s σ H _ _ v u Q I rx ry ⟨_, _, rfl, rfl, hc, p.now R (.str _)⟩
    · exact p.elim
  · split at p
    · rename_i zxs ys hc
      cases ra with
      | tup h1 r1 =>
        cases rb with
        | tup h2 r2 =>
          have l1 := r1.length
          have l2 := r2.length
          refine op_catA pins s σ H _ _ v u Q I rx ry ⟨_, _, _, _, rfl, rfl, by rw [hK]; exact Same.seqT R.sub h1, by rw [hK]; exact Same.seqT R.sub h2, by omega, fun e => ?_, fun _ e => ?_, fun _ _ => p.newT R (r1.append r2)⟩
          · subst e
            cases r1
            exact p.now R (.tup h2 r2)
          · subst e
            cases r2
            rw [List.append_nil] at p
            exact p.now R (.tup h1 r1)
    · exact p.elim
  · split at p
    · rename_i zxs k hc
      obtain ⟨c1, c2, c3, c4⟩ := hc
      cases rb
      cases ra with
      | tup h1 r1 =>
        have l1 := r1.length
        exact op_repT pins s σ H _ _ v u Q I rx ry ⟨_, _, _, rfl, rfl, by rw [hK]; exact Same.seqT R.sub h1, fun e => c1 (by subst e; cases r1; rfl), c2, c3, by omega, p.newT R (r1.rep _)⟩
    · exact p.elim
  · split at p
    · rename_i zxs ys ha hb
      split at p
      · rename_i hc
        obtain ⟨q1, vs1, rfl, e1, r1⟩ := lst_at R ra ha
        obtain ⟨q2, vs2, rfl, e2, r2⟩ := lst_at R rb hb
        have l1 := r1.length
        have l2 := r2.length
        exact op_cat pins s σ H _ _ v u Q I rx ry ⟨_, _, _, _, rfl, rfl, e1, e2, by omega, p.newL R (r1.append r2)⟩
      · exact p.elim
    · exact p.elim
  · split at p
    · rename_i zxs ha
      split at p
      · rename_i hc
        obtain ⟨c1, c2, c3⟩ := hc
        cases rb
        obtain ⟨q1, vs1, rfl, e1, r1⟩ := lst_at R ra ha
        have l1 := r1.length
        exact op_rep pins s σ H _ _ v u Q I rx ry ⟨_, _, _, rfl, rfl, e1, by omega, by omega, by rw [l1]; exact c2, p.newL R (r1.rep _)⟩
      · exact p.elim
    · exact p.elim
  · exact p.elim
end Dv
end L2
/-! Dv: comparisons, truth, items, slices, built-ins, methods -/
namespace L2
namespace Dv
open PySem PySem.Spec PyProof.Rows

/-! ### data in the heap -/
section
variable {X : Cx} {pins : List (Addr × Obj)} {σ : L2.St} {H F : Hp} {s : Shared} {W : Wd} {ι : List Addr} {M : Mem}
mutual
theorem Rp.reads (I : Inv X pins σ H s) (hK : X.K = W.K) (sub : Same F H) : ∀ (d : D) {v : V} {u : Value} {p : PyData}, Rp W F ι v d → RelV v u → d.toPy = some p → ∃ as, Reads s.heap u p as ∧ (noList p = true → ∀ b ∈ as, b ≠ sysModules)
  | .non, _, _, _, h, r, e => by
    cases h; cases r
    cases (show some PyData.none = some _ from e)
    exact ⟨_, .none, fun _ b hb => nomatch hb⟩
  | .bl x, _, _, _, h, r, e => by
    cases h; cases r
    cases (show some (PyData.bool x) = some _ from e)
    exact ⟨_, .bool x, fun _ b hb => nomatch hb⟩
  | .int i, _, _, _, h, r, e => by
    cases h
    obtain ⟨t, rfl⟩ := r
    cases (show some (PyData.int i) = some _ from e)
    exact ⟨_, .int i t, fun _ b hb => nomatch hb⟩
  | .str x, _, _, _, h, r, e => by
    cases h
    obtain ⟨t, rfl⟩ := r
    cases (show some (PyData.str x) = some _ from e)
    exact ⟨_, .str x t, fun _ b hb => nomatch hb⟩
  | .tup ds, _, _, _, h, r, e => by
    cases h with
    | tup hs ha =>
      cases r
      obtain ⟨its, rv, ⟨o, ho, hc, n, hd⟩, _⟩ := I.tuple (by rw [hK]; exact Same.seqT sub hs)
      simp only [D.toPy, Option.map_eq_some_iff] at e
      obtain ⟨ps, e, rfl⟩ := e
      obtain ⟨as, hr, hn⟩ := Rps.reads I hK sub ds ha rv e
      exact ⟨_, .tuple ho hc hd hr, fun z => hn (by simpa [noList] using z)⟩
  | .lst ds, _, _, _, h, r, e => by
    cases h with
    | lst hs ha =>
      cases r
      obtain ⟨its, rv, ⟨o, n, ho, hc, _, hd⟩, _⟩ := I.list (SqL.of (sub _ _ hs))
      simp only [D.toPy, Option.map_eq_some_iff] at e
      obtain ⟨ps, e, rfl⟩ := e
      obtain ⟨as, hr, hn⟩ := Rps.reads I hK sub ds ha rv e
      exact ⟨_, .list ho hc hd hr, fun z => by simp [noList] at z⟩
  | .dic [] [], _, _, _, h, r, e => by
    cases h with
    | @dic a kvs ks ds hs h1 h2 =>
      cases r
      cases (show some (PyData.dict []) = some _ from e)
      obtain ⟨_, hy, vs, rv, o, es, ep, ho, hx, hd, _, hp, _⟩ := I.hok _ _ (sub _ _ hs)
      have e0 : kvs = [] := by
        cases kvs with
        | nil => rfl
        | cons _ _ => cases h1
      subst e0
      cases rv
      obtain ⟨l⟩ := es
      cases hp
      exact ⟨_, .dict (kvs := []) ho hx.1 hd .nil .nil, fun _ b hb => by
        have hb' : b = a := by simpa using hb
        rw [hb']
        simpa using hy⟩
  | .dic (_ :: _) _, _, _, _, _, _, e => by simp [D.toPy] at e
  | .dic [] (_ :: _), _, _, _, _, _, e => by simp [D.toPy] at e
  | .obj _ _ _, _, _, _, _, _, e => by simp [D.toPy] at e
  | .loc _, _, _, _, _, _, e => by simp [D.toPy] at e
  | .ro _, _, _, _, _, _, e => by simp [D.toPy] at e
theorem Rps.reads (I : Inv X pins σ H s) (hK : X.K = W.K) (sub : Same F H) : ∀ (ds : List D) {vs : List V} {us : List Value} {ps : List PyData}, Rps W F ι vs ds → Vals vs us → D.toPys ds = some ps → ∃ as, ReadsAll s.heap us ps as ∧ (noLists ps = true → ∀ b ∈ as, b ≠ sysModules)
  | [], _, _, _, h, r, e => by
    cases h; cases r
    cases (show some [] = some _ from e)
    exact ⟨_, .nil, fun _ b hb => nomatch hb⟩
  | d :: ds, _, _, _, h, r, e => by
    cases h with
    | cons h1 h2 =>
      cases r with
      | cons r1 r2 =>
        simp only [D.toPys] at e
        split at e
        · rename_i p q e1 e2
          cases e
          obtain ⟨as, a1, n1⟩ := Rp.reads I hK sub d h1 r1 e1
          obtain ⟨bs, a2, n2⟩ := Rps.reads I hK sub ds h2 r2 e2
          refine ⟨_, .cons a1 a2, fun z b hb => ?_⟩
          simp only [noLists, Bool.and_eq_true] at z
          rcases List.mem_append.mp hb with hb | hb
          · exact n1 z.1 b hb
          · exact n2 z.2 b hb
        · cases e
end
theorem readsM (I : Inv X pins σ H s) (hK : X.K = W.K) (R : Rel W M F H ι) {d : D} {v : V} {u : Value} {p : PyData} (h : Rp W F ι v d) (r : RelV v u) (e : toPyM M d = some p) : ∃ as, Reads s.heap u p as ∧ (noList p = true → ∀ b ∈ as, b ≠ sysModules) := by
  cases h with
  | @loc n a h1 =>
    simp only [toPyM] at e
    split at e
    · rename_i zxs e1
      obtain ⟨o, q1, q2⟩ := R.has n a _ h1 e1
      cases q2 with
      | lst q2 =>
        cases r
        obtain ⟨its, rv, ⟨o, n, ho, hc, _, hd⟩, _⟩ := I.list (SqL.of q1)
        simp only [Option.map_eq_some_iff] at e
        obtain ⟨ps, e, rfl⟩ := e
        obtain ⟨as, hr, hn⟩ := Rps.reads I hK R.sub zxs q2 rv e
        exact ⟨_, .list ho hc hd hr, fun z => by simp [noList] at z⟩
    · cases e
  | non => exact Rp.reads (ι := ι) I hK R.sub _ .non r e
  | bl b => exact Rp.reads (ι := ι) I hK R.sub _ (.bl b) r e
  | int i => exact Rp.reads (ι := ι) I hK R.sub _ (.int i) r e
  | str x => exact Rp.reads (ι := ι) I hK R.sub _ (.str x) r e
  | tup h1 h2 => exact Rp.reads I hK R.sub _ (.tup h1 h2) r e
  | lst h1 h2 => exact Rp.reads I hK R.sub _ (.lst h1 h2) r e
  | ro h1 h2 => exact Rp.reads I hK R.sub _ (.ro h1 h2) r e
  | dic h1 h2 h3 => exact Rp.reads I hK R.sub _ (.dic h1 h2 h3) r e
  | obj h0 h1 h2 h3 => exact Rp.reads I hK R.sub _ (.obj h0 h1 h2 h3) r e
end

/-! ### a dict is no text -/
section
open SeqAt MeetsSeq
theorem dict_no_text (l : Addr) (es : Array DictEntry) (n : Nat) (dd : Option Addr) (sl : Array (Option Value)) (b : Str) (u : Tok) :
    Meets (Builtin.«dict.__eq__» ⟨[.ref l, .str b u], []⟩) (fun _ R s => s.heap.get? l = some ⟨.type "dict", dd, .dict es n, sl⟩ ∧ R (.ok (.ret .notImplemented)) s) :=
  .of_wp fun prog w A R s h => by
    obtain ⟨hp, g, d, tk, os⟩ := s
    obtain ⟨hl, h⟩ := h
    have f1 := PySem.F.sub_str_dict
    wp_walk using AutoSeq1.wpAny_loadPart' hl, wpAny_load hl
    all_goals first | exact ⟨_, rfl, h⟩ | exact h
theorem text_no_dict (b : Str) (u : Tok) (l : Addr) (es : Array DictEntry) (n : Nat) (dd : Option Addr) (sl : Array (Option Value)) :
    Meets (Builtin.«str.__eq__» ⟨[.str b u, .ref l], []⟩) (fun _ R s => s.heap.get? l = some ⟨.type "dict", dd, .dict es n, sl⟩ ∧ R (.ok (.ret .notImplemented)) s) :=
  .of_wp fun prog w A R s h => by
    obtain ⟨hp, g, d, tk, os⟩ := s
    obtain ⟨hl, h⟩ := h
    wp_walk using AutoSeq1.wpAny_loadPart' hl, wpAny_load hl
    all_goals first | exact ⟨_, rfl, h⟩ | exact h
end
end Dv
end L2
namespace L2
namespace Dv
open PySem PySem.Spec PyProof.Rows
section
open SeqAt MeetsSeq
variable {A : Around} {s : Shared}
theorem rc_dict_text {l : Addr} {o : Obj} {es : Array DictEntry} {n : Nat} (ho : s.heap.get? l = some o) (hc : o.cls = .type "dict") (hd : o.data = .dict es n) (b : Str) (u : Tok) (hu : A.units < cLine) : RcAt A s (.ref l) (.str b u) false := fun prog w E Q h => by
  obtain ⟨c, dd, dt, sl⟩ := o
  cases hc; cases hd
  refine rc_eq_decline_or (k := false) (Ta := "dict") (Tb := "str") ⟨_, ho, rfl⟩ (typeIs_str s b u) (by decide) PySem.F.sub_str_dict PySem.F.slot_dict_eq PySem.F.slot_str_eq_refl ?_ ?_ ?_ (.inr hu) h
  · exact fun _ hq => call_meets PySem.F.slot_dict_eq ⟨_, ho, rfl⟩ PySem.F.entry_dict_eq (PySem.F.args_dict_eq_2 _ _) (dict_no_text l es n dd sl b u) ⟨ho, hq⟩
  · exact fun _ hq => call_meets PySem.F.slot_str_eq_refl (typeIs_str s b u) PySem.F.entry_str_eq (PySem.F.args_str_eq_2 _ _) (text_no_dict b u l es n dd sl) ⟨ho, hq⟩
  · exact fun _ hq => wpAny_of_eq (show isSame (.ref l) (.str b u) = pure false from rfl) hq
end

section
variable {X : Cx} {W : Wd}
theorem ne_reads {prog : Program} {w : World} {A : Around} {E : Value → Shared → Prop} {s : Shared} {a b : Value} {da db : PyData} {as bs : List Addr} {Q : Value → Shared → Prop}
    (ra : Reads s.heap a da as) (rb : Reads s.heap b db bs) (ha : da.canLay0 = true) (hb : db.canLay0 = true) (hu : A.units + min da.depth db.depth < cLine) (h : Q (.bool (!PyData.eqv da db)) s) :
    wpAny (model prog w) A (compareOp .NotEq a b) Q E s := SeqAt.neOverData prog w A E s a b da db as bs Q ra rb ha hb hu h
/-- == and != by values -/
def rEqW (W : Wd) (k : Bool) : R2 := fun x y H Q => ∃ M F ι a b c, Rel W M F H ι ∧ Rp W F ι x a ∧ Rp W F ι y b ∧ eqD M a b = some c ∧ Q (.bl (if k then c else !c)) H
theorem op_eqW (hK : X.K = W.K) (hu : X.A.units + 64 < cLine) : OpR X (compareOp .Eq) (rEqW W true) := by
  intro pins s σ H x y v u Q I rx ry h
  obtain ⟨M, F, ι, a, b, c, R, ra, rb, e, q⟩ := h
  simp only [eqD] at e
  split at e
  · cases ra
    cases rb
    cases e
    refine op_eq pins s σ H _ _ v u Q I rx ry ⟨rfl, ?_⟩
    rename_i x y
    have e1 : decide (V.str x = V.str y) = decide (x = y) := by simp
    rw [e1]
    exact q
  split at e
  · rename_i p1 p2 e1 e2
    obtain ⟨as, r1, _⟩ := readsM I hK R ra rx e1
    obtain ⟨bs, r2, _⟩ := readsM I hK R rb ry e2
    split at e
    · rename_i hc
      simp only [Bool.and_eq_true, decide_eq_true_eq] at hc
      cases e
      exact SeqAt.compareEq_reads r1 r2 hc.1.1 hc.1.2 (by omega) ⟨.bl _, H, I, rfl, q⟩
    · split at e
      · cases e
        cases r1 with
        | dict h1 h2 h3 _ _ =>
          cases r2 with
          | str _ t => exact rc_dict_text h1 h2 h3 _ t (by omega) _ _ _ _ ⟨.bl false, H, I, rfl, q⟩
      · cases e
  · cases e
theorem op_neW (hK : X.K = W.K) (hu : X.A.units + 64 < cLine) : OpR X (compareOp .NotEq) (fun x y H Q => ∃ M F ι a b c, Rel W M F H ι ∧ Rp W F ι x a ∧ Rp W F ι y b ∧ neD M a b = some c ∧ Q (.bl c) H) := by
  intro pins s σ H x y v u Q I rx ry h
  obtain ⟨M, F, ι, a, b, c, R, ra, rb, e, q⟩ := h
  simp only [neD] at e
  split at e
  · cases ra
    cases rb
    cases e
    refine op_ne pins s σ H _ _ v u Q I rx ry ⟨rfl, ?_⟩
    rename_i x y
    have e1 : decide (V.str x = V.str y) = decide (x = y) := by simp
    rw [e1]
    exact q
  split at e
  · rename_i p1 p2 e1 e2
    obtain ⟨as, r1, _⟩ := readsM I hK R ra rx e1
    obtain ⟨bs, r2, _⟩ := readsM I hK R rb ry e2
    split at e
    · rename_i hc
      simp only [Bool.and_eq_true, decide_eq_true_eq] at hc
      cases e
      exact ne_reads r1 r2 hc.1.1 hc.1.2 (by omega) ⟨.bl _, H, I, rfl, q⟩
    · cases e
  · cases e

/-! ### in -/
theorem flat_v {F : Hp} {ι : List Addr} {v : V} {d : D} (r : Rp W F ι v d) (h : flatD d = true) : flatV v = true ∧ toV d = some v := by
  cases r <;> first | exact ⟨rfl, rfl⟩ | (simp [flatD] at h)
theorem flats_v {F : Hp} {ι : List Addr} : ∀ {vs : List V} {ds : List D}, Rps W F ι vs ds → ds.all flatD = true → vs.all flatV = true ∧ toVs ds = some vs
  | _, _, .nil, _ => ⟨rfl, rfl⟩
  | _, _, .cons r t, h => by
    simp only [List.all_cons, Bool.and_eq_true] at h
    obtain ⟨h1, h2⟩ := flat_v r h.1
    obtain ⟨h3, h4⟩ := flats_v t h.2
    exact ⟨by simp [h1, h3], by simp [toVs, h2, h4]⟩

def rC (W : Wd) (op : CmpOp) : R2 := fun x y H Q => ∃ M F ι a b c, Rel W M F H ι ∧ Rp W F ι x a ∧ Rp W F ι y b ∧ cmpD M op a b = some c ∧ Q (.bl c) H
theorem op_cmp (hK : X.K = W.K) (hu : X.A.units + 64 < cLine) (op : CmpOp) : OpR X (compareOp op) (rC W op) := by
  intro pins s σ H x y v u Q I rx ry h
  obtain ⟨M, F, ι, a, b, c, R, ra, rb, e, q⟩ := h
  simp only [cmpD] at e
  split at e
  · exact op_eqW hK hu pins s σ H x y v u Q I rx ry ⟨M, F, ι, _, _, _, R, ra, rb, e, q⟩
  · exact op_neW hK hu pins s σ H x y v u Q I rx ry ⟨M, F, ι, _, _, _, R, ra, rb, e, q⟩
  · cases e; cases ra; cases rb; exact op_lt pins s σ H _ _ v u Q I rx ry ⟨_, _, rfl, rfl, q⟩
  · cases e; cases ra; cases rb; exact op_le pins s σ H _ _ v u Q I rx ry ⟨_, _, rfl, rfl, q⟩
  · cases e; cases ra; cases rb; exact op_gt pins s σ H _ _ v u Q I rx ry ⟨_, _, rfl, rfl, q⟩
  · cases e; cases ra; cases rb; exact op_ge pins s σ H _ _ v u Q I rx ry ⟨_, _, rfl, rfl, q⟩
  · cases e; cases ra; cases rb; exact op_lt_str pins s σ H _ _ v u Q I rx ry ⟨_, _, rfl, rfl, q⟩
  · cases e; cases ra; cases rb; exact op_gt_str pins s σ H _ _ v u Q I rx ry ⟨_, _, rfl, rfl, q⟩
  · cases rb
    refine op_isN pins s σ H _ _ v u Q I rx ry ⟨rfl, ?_⟩
    split at e
    · cases e; cases ra; exact q
    · rename_i hne
      cases e
      rw [decide_eq_false (fun z => ?_)]
      · exact q
      · subst z; cases ra; exact hne rfl
  · cases rb
    refine op_notN pins s σ H _ _ v u Q I rx ry ⟨rfl, ?_⟩
    split at e
    · cases e; cases ra; exact q
    · rename_i hne
      cases e
      rw [decide_eq_false (fun z => ?_)]
      · exact q
      · subst z; cases ra; exact hne rfl
  · cases e; cases ra; cases rb; exact op_isBl pins s σ H _ _ v u Q I rx ry ⟨_, _, rfl, rfl, q⟩
  · cases e; cases ra; cases rb; exact op_notBl pins s σ H _ _ v u Q I rx ry ⟨_, _, rfl, rfl, q⟩
  · cases e; cases ra; cases rb; exact op_in_str pins s σ H _ _ v u Q I rx ry ⟨_, _, rfl, rfl, q⟩
  · cases e; cases ra; cases rb; exact op_notin_str pins s σ H _ _ v u Q I rx ry ⟨_, _, rfl, rfl, q⟩
  · split at e
    · rename_i ds e1
      split at e
      · rename_i hc
        simp only [Bool.and_eq_true] at hc
        obtain ⟨p, vs, rfl, hs, rs⟩ := seq_at R rb e1
        obtain ⟨h1, h2⟩ := flat_v ra hc.1
        obtain ⟨h3, h4⟩ := flats_v rs hc.2
        refine op_in_seq pins s σ H _ _ v u Q I rx ry ⟨p, vs, rfl, by rw [hK]; exact hs, h1, h3, ?_⟩
        simp only [h2, h4] at e
        cases e
        exact q
      · cases e
    · cases e
  · split at e
    · rename_i ds e1
      split at e
      · rename_i hc
        simp only [Bool.and_eq_true] at hc
        obtain ⟨p, vs, rfl, hs, rs⟩ := seq_at R rb e1
        obtain ⟨h1, h2⟩ := flat_v ra hc.1
        obtain ⟨h3, h4⟩ := flats_v rs hc.2
        refine op_notIn_seq pins s σ H _ _ v u Q I rx ry ⟨p, vs, rfl, by rw [hK]; exact hs, h1, h3, ?_⟩
        simp only [h2, h4] at e
        cases e
        exact q
      · cases e
    · cases e
  · cases e
end
end Dv
end L2
namespace L2
namespace Dv
open PySem PySem.Spec PyProof.Rows
section
variable {X : Cx} {W : Wd} {pins : List (Addr × Obj)} {σ : L2.St} {H F : Hp} {s : Shared} {ι : List Addr} {M : Mem}

/-! ### truth -/
theorem tru_v (hK : X.K = W.K) (R : Rel W M F H ι) {v : V} {d : D} {b : Bool} (r : Rp W F ι v d) (e : truD M d = some b) : TruV X.K v H b := by
  have em : ∀ {vs : List V} {ds : List D}, Rps W F ι vs ds → ds.isEmpty = vs.isEmpty := fun q => by cases q <;> rfl
  cases r with
  | non =>
    simp only [truD] at e
    cases e
    exact (show false = false from rfl)
  | bl x =>
    simp only [truD] at e
    cases e
    exact (show b = b from rfl)
  | int i =>
    simp only [truD] at e
    cases e
    exact (show (i != 0) = (i != 0) from rfl)
  | str x =>
    simp only [truD] at e
    split at e
    · rename_i hc
      cases e
      refine ⟨hc, ?_⟩
      by_cases h0 : x.length = 0
      · simp [h0]
      · simp only [bne, beq_iff_eq, h0, Int.natCast_eq_zero, Bool.not_eq_true']
        have h1 : (x.length == 0) = false := by simpa using h0
        have h2 : (((x.length : Nat) : Int) == 0) = false := by simpa using h0
        rw [h1, h2]
    · cases e
  | tup h1 h2 =>
    simp only [truD] at e
    cases e
    exact .inr (.inl ⟨_, by rw [hK]; exact Same.seqT R.sub h1, by rw [em h2]⟩)
  | lst h1 h2 =>
    simp only [truD] at e
    cases e
    exact .inl ⟨_, SqL.of (R.sub _ _ h1), by rw [em h2]⟩
  | ro h1 h2 =>
    simp only [truD] at e
    cases e
    exact .inl ⟨_, by rw [hK]; exact R.sub.seq h1, by rw [em h2]⟩
  | dic h1 h2 h3 =>
    simp only [truD] at e
    cases e
    refine .inr (.inr ⟨_, R.sub _ _ h1, ?_⟩)
    rw [em h2, List.isEmpty_map]
  | obj h0 h1 h2 h3 => simp [truD] at e
  | @loc n a h1 =>
    simp only [truD] at e
    split at e
    · rename_i zxs e1
      cases e
      obtain ⟨o, q1, q2⟩ := R.has n a _ h1 e1
      cases q2 with
      | lst q2 => exact .inl ⟨_, SqL.of q1, by rw [em q2]⟩
    · rename_i ks vs e1
      cases e
      obtain ⟨o, q1, q2⟩ := R.has n a _ h1 e1
      cases q2 with
      | dic q2 q3 =>
        refine .inr (.inr ⟨_, q1, ?_⟩)
        rw [em q2, List.isEmpty_map]
    · cases e

/-! ### what isinstance sees -/
theorem ty_x (hK : X.K = W.K) (R : Rel W M F H ι) {v : V} {d : D} {t : String} (r : Rp W F ι v d) (e : tyName d = some t) : TyX X.K H v (.type t) := by
  cases r with
  | non => cases e; exact .base .non
  | bl x => cases e; exact .base (.bl x)
  | int i => cases e; exact .base (.int i)
  | str x => cases e; exact .base (.str x)
  | tup h1 h2 =>
    cases e
    rcases Same.seqT R.sub h1 with (q | ⟨o, q⟩) | ⟨o, its, n, q, c, _⟩
    · exact .base (.tup q)
    · exact .fTuple q
    · exact .kTuple (by rw [hK]; exact q) c
  | lst h1 h2 => cases e; exact .base (.lst (R.sub _ _ h1))
  | ro h1 h2 =>
    cases e
    rcases R.sub.seq h1 with (q | ⟨o, q⟩) | ⟨o, its, n, q, c, _⟩
    · exact .base (.lst q)
    · exact .base (.frz q)
    · exact .kList (by rw [hK]; exact q) c
  | dic h1 h2 h3 => cases e; exact .base (.dK (R.sub _ _ h1))
  | obj h0 h1 h2 h3 => simp [tyName] at e
  | loc h1 => simp [tyName] at e

/-! ### items -/
theorem at_v {vs : List V} {ds : List D} {i : Int} {d : D} (r : Rps W F ι vs ds) (h : atI ds i = some d) : ∃ v, atI vs i = some v ∧ Rp W F ι v d := by
  unfold atI at h ⊢
  rw [r.length]
  cases e : ixN ds.length i with
  | none => rw [e] at h; cases h
  | some j =>
    rw [e] at h
    exact r.get (show ds[j]? = some d from h)
def rSub (W : Wd) : R2 := fun x y H Q => ∃ M F ι a b, Rel W M F H ι ∧ Rp W F ι x a ∧ Rp W F ι y b ∧ Pok W Q (subD M a b) M F H ι
theorem ix_sub (hK : X.K = W.K) : IxR X (rSub W) := by
  intro value slice pins s σ H x y v u Q I rx ry h hs
  obtain ⟨M, F, ι, a, b, R, ra, rb, p⟩ := h
  simp only [subD] at p
  split at p
  · split at p
    · rename_i hc
      cases ra; cases rb
      cases e : atI (_ : Str).cps.toList _ with
      | none => rw [e] at p; exact p.elim
      | some c =>
        rw [e] at p
        exact ix_str value slice pins s σ H _ _ v u Q I rx ry ⟨_, _, c, rfl, rfl, hc, e, p.now R (.str _)⟩ hs
    · exact p.elim
  · cases rb
    cases e1 : seqD M a with
    | none => rw [e1] at p; exact p.elim
    | some ds =>
      rw [e1] at p
      obtain ⟨q, vs, rfl, hq, rs⟩ := seq_at R ra e1
      rename_i k _
      simp only [Option.bind_some] at p
      cases e2 : atI ds k with
      | none => rw [e2] at p; exact p.elim
      | some d =>
        rw [e2] at p
        obtain ⟨w, h1, h2⟩ := at_v rs e2
        have z := p.now R h2
        rcases hq with hq | hq
        · exact ix_list value slice pins s σ H _ _ v u Q I rx ry ⟨q, vs, _, w, rfl, rfl, by rw [hK]; exact hq, h1, z⟩ hs
        · exact ix_tup value slice pins s σ H _ _ v u Q I rx ry ⟨q, vs, _, w, rfl, rfl, by rw [hK]; exact hq, h1, z⟩ hs
  · exact p.elim

/-! ### slices -/
theorem cut_v (vs : List V) (lo hi : Option Int) : cutV vs lo hi = cutL vs lo hi := rfl
theorem Rps.cut {vs : List V} {ds : List D} (r : Rps W F ι vs ds) (lo hi : Option Int) : Rps W F ι (cutL vs lo hi) (cutL ds lo hi) := by
  unfold cutL
  rw [r.length]
  exact (r.drop _).take _
def rSlc (W : Wd) : V → Option Int → Option Int → Hp → VK → Prop := fun x lo hi H Q => ∃ M F ι a, Rel W M F H ι ∧ Rp W F ι x a ∧ Pok W Q (slcD M a lo hi) M F H ι
theorem sl_slc (hK : X.K = W.K) : SlR X (rSlc W) := by
  intro pins s σ H x v vl vu lo hi sl Q I rx hs pl pu h
  obtain ⟨M, F, ι, a, R, ra, p⟩ := h
  simp only [slcD] at p
  split at p
  · cases ra with
    | tup h1 h2 =>
      rename_i ds a vs
      refine sl_tupA pins s σ H _ v vl vu lo hi sl Q I rx hs pl pu ⟨a, vs, rfl, by rw [hK]; exact Same.seqT R.sub h1, fun e => ?_, fun _ => ?_⟩
      · refine p.now R (.tup h1 ?_)
        have e2 : cutL ds lo hi = ds := by
          unfold cutL
          rw [← h2.length, e.1, e.2, Nat.sub_zero, List.drop_zero, h2.length, List.take_length]
        rw [e2]
        exact h2
      · rw [cut_v]
        exact p.newT R (h2.cut lo hi)
  · split at p
    · rename_i hc
      cases ra
      exact sl_str pins s σ H _ v vl vu lo hi sl Q I rx hs pl pu ⟨_, rfl, hc, p.now R (.str _)⟩
    · exact p.elim
  · cases e1 : lstD M a with
    | none => rw [e1] at p; exact p.elim
    | some ds =>
      rw [e1] at p
      obtain ⟨q, vs, rfl, hq, rs⟩ := lst_at R ra e1
      refine sl_list pins s σ H _ v vl vu lo hi sl Q I rx hs pl pu ⟨q, vs, rfl, SqL.of hq, ?_⟩
      rw [cut_v]
      exact p.newL R (rs.cut lo hi)
end
end Dv
end L2
namespace L2
namespace Dv
open PySem PySem.Spec PyProof.Rows

def Bi.val : Bi → Value
  | .len => .builtin "len" | .int => .type "int" | .abs => .builtin "abs" | .max => .builtin "max" | .min => .builtin "min" | .all => .builtin "all" | .any => .builtin "any" | .sorted => .builtin "sorted"
  | .list => .type "list" | .listM => .type "list" | .tuple => .type "tuple" | .str => .type "str" | .repr => .builtin "repr" | .bool => .type "bool" | .sum => .builtin "sum" | .set => .type "set" | .dict => .type "dict"
theorem bi_boot : ∀ b : Bi, bootBuiltins (Str.ofString b.nm) = some b.val
  | .len => by decide +kernel
  | .int => by decide +kernel
  | .abs => by decide +kernel
  | .max => by decide +kernel
  | .min => by decide +kernel
  | .all => by decide +kernel
  | .any => by decide +kernel
  | .sorted => by decide +kernel
  | .list => by decide +kernel
  | .listM => by decide +kernel
  | .tuple => by decide +kernel
  | .str => by decide +kernel
  | .repr => by decide +kernel
  | .bool => by decide +kernel
  | .sum => by decide +kernel
  | .set => by decide +kernel
  | .dict => by decide +kernel

section
variable {X : Cx} {W : Wd} {pins : List (Addr × Obj)} {σ : L2.St} {H F : Hp} {s : Shared} {ι : List Addr} {M : Mem}
theorem rps1 {vs : List V} {d : D} (r : Rps W F ι vs [d]) : ∃ v, vs = [v] ∧ Rp W F ι v d := by
  cases r with
  | cons h t => cases t; exact ⟨_, rfl, h⟩
theorem rps2 {vs : List V} {d e : D} (r : Rps W F ι vs [d, e]) : ∃ v u, vs = [v, u] ∧ Rp W F ι v d ∧ Rp W F ι u e := by
  cases r with
  | cons h t =>
    cases t with
    | cons h2 t => cases t; exact ⟨_, _, rfl, h, h2⟩
theorem bls_v : ∀ {vs : List V} {ds : List D} {bs : List Bool}, Rps W F ι vs ds → blsOf ds = some bs → vs = bs.map V.bl
  | _, [], _, .nil, e => by cases e; rfl
  | _, d :: ds, bs, .cons r t, e => by
    cases d with
    | bl b =>
      simp only [blsOf, Option.map_eq_some_iff] at e
      obtain ⟨l, e, rfl⟩ := e
      cases r
      rw [bls_v t e]
      rfl
    | _ => simp [blsOf] at e
theorem strs_v : ∀ {vs : List V} {ds : List D} {bs : List Str}, Rps W F ι vs ds → strsOf ds = some bs → vs = bs.map V.str
  | _, [], _, .nil, e => by cases e; rfl
  | _, d :: ds, bs, .cons r t, e => by
    cases d with
    | str b =>
      simp only [strsOf, Option.map_eq_some_iff] at e
      obtain ⟨l, e, rfl⟩ := e
      cases r
      rw [strs_v t e]
      rfl
    | _ => simp [strsOf] at e
/-- a list made: frozen, or in a new place -/
theorem mkL_end {Wx : WXH} {Q : VK} {fz : Bool} {ds : List D} {vs : List V} (R : Rel W M F H ι) (r : Rps W F ι vs ds) (p : Pst W Wx (Rp W) Q (mkL fz ds M) M F H ι) : vs.length ≤ sizeLine ∧ ∀ q, H q = none → Q (.ref q) (upd H q (.lst vs)) := by
  unfold mkL at p
  split at p
  · rename_i hc
    refine ⟨by rw [r.length]; exact hc, fun q hq => ?_⟩
    split at p
    · exact p _ _ _ ι (R.frozen hq) (Grow.frozen R hq) (.lst upd_same (r.mono (same_upd (R.Fn hq)) (Ext.refl _)))
    · exact p _ _ _ _ (R.newloc hq (.lst r)) (Grow.newloc R hq) (.loc (by rw [← R.len, List.getElem?_append_right (Nat.le_refl _), Nat.sub_self]; rfl))
  · exact p.elim
theorem repr_w (hK : X.K = W.K) (hg : X.A.guards = some []) (hu : X.A.units + 64 < cLine) (I : Inv X pins σ H s) (R : Rel W M F H ι) {v : V} {u : Value} {d : D} {x : Str} {Q : VK} (r : Rp W F ι v d) (rv : RelV v u) (e : reprD M d = some x) (q : Q (.str x) H) :
    wpAny (model X.prog X.w) X.A (call (.builtin "repr") [u]) (EP X pins σ Q) X.xe s := by
  simp only [reprD] at e
  split at e
  · rename_i p e1
    split at e
    · rename_i hc
      simp only [Bool.and_eq_true, decide_eq_true_eq, Bool.or_eq_true, Bool.not_eq_true'] at hc
      obtain ⟨⟨⟨h1, h2⟩, h3⟩, h4⟩ := hc
      cases e
      obtain ⟨as, rd, hn⟩ := readsM I hK R r rv e1
      have hd : p.hasDict = true → sysModules ∉ as := fun z hm => by
        rcases h4 with h4 | h4
        · rw [h4] at z; cases z
        · exact hn h4 _ hm rfl
      have fin : ∀ (h' : Heap) (u : Tok) (tk : Nat), (∀ b o, s.heap.get? b = some o → h'.get? b = some o) → EP X pins σ Q (.str p.shown u) { s with heap := h', toks := tk } := fun h' u tk k => ⟨.str p.shown, H, I.kept k, ⟨_, rfl⟩, q⟩
      cases rd with
      | none => exact P.repr_of_none (fin s.heap _ _ fun _ _ z => z)
      | bool b => exact P.repr_of_bool (fin s.heap _ _ fun _ _ z => z)
      | int i t =>
        have h1' : i.natAbs.log2 < 1920 := by simpa [PyData.showable] using h1
        exact P.repr_of_int h1' (fin s.heap _ _ fun _ _ z => z)
      | str y t => exact P.repr_of_str (fin s.heap _ _ fun _ _ z => z) h2
      | list a1 a2 a3 a4 => exact repr_of_reads' (.list a1 a2 a3 a4) h1 hd hg (by omega) (fun _ _ z => z) fin h2
      | tuple a1 a2 a3 a4 => exact repr_of_reads' (.tuple a1 a2 a3 a4) h1 hd hg (by omega) (fun _ _ z => z) fin h2
      | dict a1 a2 a3 a4 a5 => exact repr_of_reads' (.dict a1 a2 a3 a4 a5) h1 hd hg (by omega) (fun _ _ z => z) fin h2
    · cases e
  · cases e
def rBlt (W : Wd) (b : Bi) : List V → Hp → VK → Prop := fun vs H Q => ∃ Wx M F ι ds, Rel W M F H ι ∧ Rps W F ι vs ds ∧ Pst W Wx (Rp W) Q (bltD b ds M) M F H ι
theorem call_blt (hK : X.K = W.K) (hc : X.calm = true) (hg : X.A.guards = some []) (hu : X.A.units + 64 < cLine) (b : Bi) : CallR X b.val (rBlt W b) := by
  intro pins s σ H vs us Q I r h
  obtain ⟨Wx, M, F, ι, ds, R, rs, p⟩ := h
  simp only [bltD] at p
  split at p
  · obtain ⟨v, rfl, r1⟩ := rps1 rs
    rename_i d
    cases e : lenD M d with
    | none => rw [e] at p; exact p.elim
    | some n =>
      rw [e] at p
      have q : Q (.int n) H := Pok.now (Pok.of p) R (.int n)
      cases r1 with
      | str x =>
        simp only [lenD] at e
        split at e
        · rename_i hl
          cases e
          exact call_len_str pins s σ H _ us Q I r ⟨_, rfl, hl, q⟩
        · cases e
      | tup h1 h2 =>
        simp only [lenD] at e
        cases e
        exact call_len_seq pins s σ H _ us Q I r ⟨_, _, rfl, .inr (by rw [hK]; exact Same.seqT R.sub h1), by rw [h2.length]; exact q⟩
      | lst h1 h2 =>
        simp only [lenD] at e
        cases e
        exact call_len_seq pins s σ H _ us Q I r ⟨_, _, rfl, .inl (SqL.of (R.sub _ _ h1)), by rw [h2.length]; exact q⟩
      | ro h1 h2 =>
        simp only [lenD] at e
        cases e
        exact call_len_seq pins s σ H _ us Q I r ⟨_, _, rfl, .inl (by rw [hK]; exact R.sub.seq h1), by rw [h2.length]; exact q⟩
      | @loc k a h1 =>
        simp only [lenD] at e
        split at e
        · rename_i zxs e1
          cases e
          obtain ⟨o, q1, q2⟩ := R.has _ _ _ h1 e1
          cases q2 with
          | lst q2 => exact call_len_seq pins s σ H _ us Q I r ⟨_, _, rfl, .inl (SqL.of q1), by rw [q2.length]; exact q⟩
        · cases e
      | _ => simp [lenD] at e
  · obtain ⟨v, rfl, r1⟩ := rps1 rs
    cases r1
    exact call_int1 pins s σ H _ us Q I r (.inl ⟨_, rfl, p _ _ _ ι R Grow.refl (.int _)⟩)
  · obtain ⟨v, rfl, r1⟩ := rps1 rs
    cases r1
    exact call_int1 pins s σ H _ us Q I r (.inr ⟨_, rfl, p _ _ _ ι R Grow.refl (.int _)⟩)
  · obtain ⟨v, rfl, r1⟩ := rps1 rs
    cases r1
    exact call_abs pins s σ H _ us Q I r ⟨_, rfl, p _ _ _ ι R Grow.refl (.int _)⟩
  · obtain ⟨v, u, rfl, r1, r2⟩ := rps2 rs
    cases r1; cases r2
    exact call_max2 hc pins s σ H _ us Q I r ⟨_, _, rfl, p _ _ _ ι R Grow.refl (.int _)⟩
  · obtain ⟨v, u, rfl, r1, r2⟩ := rps2 rs
    cases r1; cases r2
    exact call_min2 hc pins s σ H _ us Q I r ⟨_, _, rfl, p _ _ _ ι R Grow.refl (.int _)⟩
  · obtain ⟨v, rfl, r1⟩ := rps1 rs
    rename_i d
    cases e : lstD M d with
    | none => rw [e] at p; exact p.elim
    | some zxs =>
      cases e2 : blsOf zxs with
      | none => rw [e, Option.bind_some, e2] at p; exact p.elim
      | some bs =>
        rw [e, Option.bind_some, e2] at p
        obtain ⟨a, ws, rfl, ha, rw'⟩ := lst_at R r1 e
        have e3 := bls_v rw' e2
        subst e3
        exact cr_all hc pins s σ H _ us Q I r ⟨a, bs, rfl, SqL.of ha, Pok.now (Pok.of p) R (.bl _)⟩
  · obtain ⟨v, rfl, r1⟩ := rps1 rs
    split at p
    · rename_i zxs e
      obtain ⟨a, ws, rfl, ha, rw'⟩ := seq_at R r1 e
      obtain ⟨hl, z⟩ := mkL_end R rw' p
      exact call_list_of pins s σ H _ us Q I r ⟨a, ws, rfl, by rw [hK]; exact ha, z⟩
    · exact p.elim
  · obtain ⟨v, rfl, r1⟩ := rps1 rs
    split at p
    · rename_i zxs e
      obtain ⟨a, ws, rfl, ha, rw'⟩ := seq_at R r1 e
      obtain ⟨hl, z⟩ := mkL_end R rw' p
      exact call_list_of pins s σ H _ us Q I r ⟨a, ws, rfl, by rw [hK]; exact ha, z⟩
    · exact p.elim
  · obtain ⟨v, rfl, r1⟩ := rps1 rs
    cases r1 with
    | tup h1 h2 =>
      exact call_tuple_of pins s σ H _ us Q I r ⟨_, _, rfl, .inr ⟨by rw [hK]; exact Same.seqT R.sub h1, p _ _ _ ι R Grow.refl (.tup h1 h2)⟩⟩
  · obtain ⟨v, rfl, r1⟩ := rps1 rs
    rename_i d _
    cases e : lstD M d with
    | none => rw [e] at p; exact p.elim
    | some zxs =>
      rw [e] at p
      obtain ⟨a, ws, rfl, ha, rw'⟩ := lst_at R r1 e
      exact call_tuple_of pins s σ H _ us Q I r ⟨a, ws, rfl, .inl ⟨SqL.of ha, (Pok.of p).newT R rw'⟩⟩
  · obtain ⟨v, rfl, r1⟩ := rps1 rs
    rename_i d
    obtain ⟨u, rfl, ru⟩ := vals1 r
    cases e : reprD M d with
    | none => rw [e] at p; exact p.elim
    | some x =>
      rw [e] at p
      exact repr_w hK hg hu I R r1 ru e (Pok.now (Pok.of p) R (.str x))
  · exact p.elim

/-! ### methods -/
def rMth (W : Wd) (m : Me) : V → List V → Hp → VK → Prop := fun x vs H Q => ∃ Wx M F ι d ds, Rel W M F H ι ∧ Rp W F ι x d ∧ Rps W F ι vs ds ∧ Pst W Wx (Rp W) Q (mthD m d ds M) M F H ι
theorem rps0 {vs : List V} (r : Rps W F ι vs []) : vs = [] := by cases r; rfl
/-- the place's list -/
theorem loc_lst {n : Nat} {zxs : List D} {v : V} (R : Rel W M F H ι) (r : Rp W F ι v (.loc n)) (e : M[n]? = some (some (.lst zxs))) : ∃ a vs, v = .ref a ∧ ι[n]? = some a ∧ H a = some (.lst vs) ∧ Rps W F ι vs zxs := by
  cases r with
  | loc h1 =>
    obtain ⟨o, q1, q2⟩ := R.has _ _ _ h1 e
    cases q2 with
    | lst q2 => exact ⟨_, _, rfl, h1, q1, q2⟩
theorem mt_app : MtM X "list.append" (rMth W .append) := by
  intro pins s σ H x vs v us Q I rx rv h
  obtain ⟨Wx, M, F, ι, d, ds, R, rd, rs, p⟩ := h
  simp only [mthD] at p
  split at p
  · rename_i n y
    split at p
    · rename_i zxs e
      split at p
      · rename_i hc
        obtain ⟨w, rfl, rw'⟩ := rps1 rs
        obtain ⟨a, ws, rfl, hi, ha, rws⟩ := loc_lst R rd e
        refine mt_append pins s σ H _ _ v us Q I rx rv ⟨a, ws, w, rfl, rfl, ha, by rw [rws.length]; exact hc, ?_⟩
        exact p _ _ _ ι (R.setloc hi e (.lst (rws.append (.cons rw' .nil)))) (Grow.setloc R hi e) .non
      · exact p.elim
    · exact p.elim
  all_goals first | exact p.elim | (rename_i h1; cases h1; done) | skip
theorem ixN_lt {n : Nat} {i : Int} {j : Nat} (h : ixN n i = some j) : seqIndex? i n = some j := (ixN_seq h).1
theorem mt_pops : MtM X "list.pop" (rMth W .pop) := by
  intro pins s σ H x vs v us Q I rx rv h
  obtain ⟨Wx, M, F, ι, d, ds, R, rd, rs, p⟩ := h
  simp only [mthD] at p
  split at p
  · rename_i h1; cases h1
  · rename_i n _
    split at p
    · rename_i zxs e
      split at p
      · rename_i y ey
        cases rps0 rs
        obtain ⟨a, ws, rfl, hi, ha, rws⟩ := loc_lst R rd e
        rw [List.getLast?_eq_getElem?] at ey
        obtain ⟨z, hz, rz⟩ := rws.get ey
        rw [← rws.length] at hz
        refine mt_pop pins s σ H _ _ v us Q I rx rv ⟨a, ws, z, rfl, rfl, ha, hz, ?_⟩
        refine p _ _ _ ι (R.setloc hi e (.lst ?_)) (Grow.setloc R hi e) rz
        rw [List.dropLast_eq_take, List.dropLast_eq_take, rws.length]
        exact rws.take _
      · exact p.elim
    · exact p.elim
  · rename_i n i _
    split at p
    · rename_i zxs e
      split at p
      · rename_i j ej
        split at p
        · rename_i y ey
          split at p
          · rename_i hc
            obtain ⟨w, rfl, rw'⟩ := rps1 rs
            cases rw'
            obtain ⟨a, ws, rfl, hi, ha, rws⟩ := loc_lst R rd e
            obtain ⟨z, hz, rz⟩ := rws.get ey
            refine mt_popAt pins s σ H _ _ v us Q I rx rv ⟨a, ws, i, j, z, rfl, rfl, ha, hc.1, hc.2, by rw [rws.length]; exact ixN_lt ej, hz, ?_⟩
            exact p _ _ _ ι (R.setloc hi e (.lst (rws.eraseIdx j))) (Grow.setloc R hi e) rz
          · exact p.elim
        · exact p.elim
      · exact p.elim
    · exact p.elim
  all_goals first | exact p.elim | (rename_i h1; cases h1; done) | skip
theorem mt_joinW (hK : X.K = W.K) : MtR X "str.join" (rMth W .join) := by
  intro pins s σ H x vs v us Q I rx rv h
  obtain ⟨Wx, M, F, ι, d, ds, R, rd, rs, p⟩ := h
  simp only [mthD] at p
  split at p
  · rename_i h1; cases h1
  · rename_i h1; cases h1
  · rename_i h1; cases h1
  · rename_i sep y _
    split at p
    · rename_i zxs e
      split at p
      · rename_i ys ey
        simp only [joinS] at p
        split at p
        · rename_i hc
          obtain ⟨w, rfl, rw'⟩ := rps1 rs
          obtain ⟨a, ws, rfl, ha, rws⟩ := lst_at R rw' e
          have e3 := strs_v rws ey
          subst e3
          cases rd
          exact mt_join pins s σ H _ _ v us Q I rx rv ⟨sep, a, ys, rfl, rfl, .inl (SqL.of ha), hc, Pok.now (Pok.of p) R (.str _)⟩
        · exact p.elim
      · exact p.elim
    · exact p.elim
  all_goals first | exact p.elim | (rename_i h1; cases h1; done) | skip
end
end Dv
end L2
namespace L2
namespace Dv
open PySem PySem.Spec PyProof.Rows

/-! ### targets -/
theorem wipe_set {σ : L2.St} {i : Nat} {x : Option V} : ∀ {own : List Nat}, i ∈ own → wipe (σ.set i x) own = wipe σ own
  | v :: vs, h => by
    show (wipe (σ.set i x) vs).set v none = (wipe σ vs).set v none
    by_cases hv : i ∈ vs
    · rw [wipe_set hv]
    · have e : v = i := by
        rcases List.mem_cons.mp h with h | h
        · exact h.symm
        · exact absurd h hv
      subst e
      have out : ∀ (vs : List Nat) (σ : L2.St), v ∉ vs → wipe (σ.set v x) vs = (wipe σ vs).set v x := fun vs => by
        induction vs with
        | nil => intro σ _; rfl
        | cons a r ih =>
          intro σ hn
          simp only [List.mem_cons, not_or] at hn
          show (wipe (σ.set v x) r).set a none = ((wipe σ r).set a none).set v x
          rw [ih σ hn.2, List.set_comm _ _ (fun z => hn.1 z)]
      rw [out vs σ hv, List.set_set]
theorem RelS.wipe {W : Wd} {F : Hp} {ι : List Addr} {ρ : Env'} {σ : L2.St} (S : RelS W F ι ρ σ) : ∀ own : List Nat, RelS W F ι (wipeD ρ own) (L2.wipe σ own)
  | [] => S
  | v :: vs => (RelS.wipe S vs).forget v
theorem lcl_of {sc : Scope} {x : Str} (h : lclB sc x = true) : sc.names.lookup x = some .local := by
  unfold lclB at h
  split at h
  · assumption
  · cases h
theorem okn_of {x : Str} (h : okn x = true) : (x == ("__debug__" : Str)) = false ∧ (x == ("__classdict__" : Str)) = false ∧ x ≠ "__name__" := by
  simp only [okn, Bool.and_eq_true, Bool.not_eq_true'] at h
  exact ⟨h.1.1, h.1.2, fun z => by rw [z] at h; simp at h⟩
def gT (W : Wd) (tg : Tg) : TG := fun v σ H Q => ∃ ρ M F ι d ρ', Rel W M F H ι ∧ RelS W F ι ρ σ ∧ Rp W F ι v d ∧ tg.put d ρ = some ρ' ∧
  ∀ σ', RelS W F ι ρ' σ' → (∀ own : List Nat, (∀ j ∈ tg.ix, j ∈ own) → wipe σ' own = wipe σ own) → Q σ' H
def gTs (W : Wd) (ts : List Tg) : TGs := fun vs σ H Q => ∃ ρ M F ι ds ρ', Rel W M F H ι ∧ RelS W F ι ρ σ ∧ Rps W F ι vs ds ∧ Tg.puts ts ds ρ = some ρ' ∧
  ∀ σ', RelS W F ι ρ' σ' → (∀ own : List Nat, (∀ j ∈ Tg.ixs ts, j ∈ own) → wipe σ' own = wipe σ own) → Q σ' H
theorem _root_.L2.PG.imp {X : Cx} {e : Expr} {t t' : TG} (h : PG X e t) (i : ∀ v σ H Q, t' v σ H Q → t v σ H Q) : PG X e t' := ⟨fun pins s σ H v u Q I r q => h.run pins s σ H v u Q I r (i v σ H Q q)⟩
theorem _root_.L2.PGs.imp {X : Cx} {e : List Expr} {t t' : TGs} (h : PGs X e t) (i : ∀ v σ H Q, t' v σ H Q → t v σ H Q) : PGs X e t' := ⟨fun pins s σ H v u Q I r q => h.run pins s σ H v u Q I r (i v σ H Q q)⟩
theorem loc_of {sc : Scope} {x : Str} (h : locB sc x = true) : Loc sc x := by
  unfold locB at h
  unfold Loc
  split at h
  · rename_i e; exact .inl e
  · rename_i e; exact .inr e
  · cases h
theorem chTs_plain {q : Bool} {N : List Str} {sc : Scope} {env : Env} : ∀ {ts : List Tg} {es : List Expr}, chTs q N sc ts es = true → (assignEach es env).length = ts.length ∧ (assignEach es env).findIdx? (·.1) = none
  | [], [], _ => ⟨rfl, rfl⟩
  | t :: ts, e :: es, h => by
    simp only [chTs, Bool.and_eq_true] at h
    obtain ⟨h1, h2⟩ := chTs_plain (env := env) h.2
    have e1 : assignEach (e :: es) env = (false, assign e env) :: assignEach es env := by
      cases e <;> first | rfl | (cases t <;> simp [chT] at h)
    rw [e1]
    refine ⟨by simp [h1], ?_⟩
    rw [List.findIdx?_cons]
    simp [h2]
  | [], _ :: _, h => by simp [chTs] at h
  | _ :: _, [], h => by simp [chTs] at h
mutual
theorem pg_T {X : Cx} {W : Wd} {q : Bool} (hK : X.K = W.K) (hN : X.N.Nodup) (hc : X.calm = true) (hq : q = true → ∀ x, X.fn x = true) : ∀ (tg : Tg) {e : Expr}, chT q X.N X.env.scope tg e = true → PG X e (gT W tg)
  | .nm i, e, h => by
    cases e with
    | Name x pos =>
      simp only [chT, Bool.and_eq_true, decide_eq_true_eq] at h
      have hl : Loc X.env.scope x ∧ (X.fn x = true ∨ X.env.scope.names.lookup x = some .local) := by
        have h0 := h.1.2
        split at h0
        · exact ⟨loc_of h0, .inl (hq (by assumption) x)⟩
        · exact ⟨.inl (lcl_of h0), .inr (lcl_of h0)⟩
      refine (pg_name hN h.1.1 hl.1 hl.2).imp fun v σ H Q ⟨ρ, M, F, ι, d, ρ', R, S, r, e, q⟩ => ?_
      simp only [Tg.put, Option.some.injEq] at e
      subst e
      exact q _ (S.set i r) fun own ho => wipe_set (ho i (by simp [Tg.ix]))
    | _ => simp [chT] at h
  | .tp ts, e, h => by
    cases e with
    | Tuple es k pos =>
      simp only [chT] at h
      obtain ⟨h1, h2⟩ := chTs_plain (env := X.env) h
      refine (pg_tup (n := ts.length) hc (pg_Ts hK hN hc hq ts h) h1 h2).imp fun v σ H Q ⟨ρ, M, F, ι, d, ρ', R, S, r, e, q⟩ => ?_
      cases d with
      | tup ds =>
        simp only [Tg.put] at e
        split at e
        · rename_i hl
          cases r with
          | tup a1 a2 => exact ⟨_, _, rfl, by rw [hK]; exact Same.seqT R.sub a1, by rw [a2.length]; exact hl, ρ, M, F, ι, ds, ρ', R, S, a2, e, fun σ' S' w => q σ' S' fun own ho => w own fun j hj => ho j (by simpa [Tg.ix] using hj)⟩
        · cases e
      | _ => simp [Tg.put] at e
    | _ => simp [chT] at h
theorem pg_Ts {X : Cx} {W : Wd} {q : Bool} (hK : X.K = W.K) (hN : X.N.Nodup) (hc : X.calm = true) (hq : q = true → ∀ x, X.fn x = true) : ∀ (ts : List Tg) {es : List Expr}, chTs q X.N X.env.scope ts es = true → PGs X es (gTs W ts)
  | [], [], _ => pgs_nil.imp fun vs σ H Q ⟨ρ, M, F, ι, ds, ρ', R, S, r, e, q⟩ => by
    cases ds with
    | nil =>
      cases r
      simp only [Tg.puts, Option.some.injEq] at e
      subst e
      exact ⟨rfl, q σ S fun _ _ => rfl⟩
    | cons _ _ => simp [Tg.puts] at e
  | t :: ts, e :: es, h => by
    simp only [chTs, Bool.and_eq_true] at h
    have e1 : (assignEach (e :: es) X.env).map (·.2) = assign e X.env :: (assignEach es X.env).map (·.2) := by
      cases e <;> first | rfl | (cases t <;> simp [chT] at h)
    refine (pgs_cons (pg_T hK hN hc hq t h.1) (pg_Ts hK hN hc hq ts h.2) e1).imp fun vs σ H Q ⟨ρ, M, F, ι, ds, ρ', R, S, r, ep, q⟩ => ?_
    cases ds with
    | nil => simp [Tg.puts] at ep
    | cons d ds =>
      simp only [Tg.puts] at ep
      split at ep
      · rename_i ρ1 e2
        cases r with
        | cons r1 r2 =>
          refine ⟨_, _, rfl, ρ, M, F, ι, d, ρ1, R, S, r1, e2, fun σ1 S1 w1 => ⟨ρ1, M, F, ι, ds, ρ', R, S1, r2, ep, fun σ2 S2 w2 => q σ2 S2 fun own ho => ?_⟩⟩
          rw [w2 own fun j hj => ho j (by simp [Tg.ixs, hj]), w1 own fun j hj => ho j (by simp [Tg.ixs, hj])]
      · cases ep
  | [], _ :: _, h => by simp [chTs] at h
  | _ :: _, [], h => by simp [chTs] at h
end

/-! ### what is walked -/
structure JOk (W : Wd) (F : Hp) (ι : List Addr) (J : L2.It) (ds : List D) : Prop where
  go : ∀ (i : Nat) (F2 H2 : Hp), Same F F2 → Same F2 H2 → i < ds.length → J.go i H2
  stop : ∀ (i : Nat) (F2 H2 : Hp), Same F F2 → Same F2 H2 → ds.length ≤ i → J.stop i H2
  yld : ∀ (i : Nat) (M2 : Mem) (F2 H2 : Hp) (ι2 : List Addr) (x : V) (H3 : Hp) (d : D), Same F F2 → Ext ι ι2 → Rel W M2 F2 H2 ι2 → J.yld i H2 x H3 → ds[i]? = some d →
    ∃ F3, Rel W M2 F3 H3 ι2 ∧ Grow M2 F2 H2 ι2 M2 F3 H3 ι2 ∧ Rp W F3 ι2 x d
def relI (W : Wd) : Hp → List Addr → L2.It → List D → Prop := fun F ι J ds => JOk W F ι J ds

section
variable {W : Wd} {F : Hp} {ι : List Addr}
theorem jok_list {a : Addr} {vs : List V} {ds : List D} (h : SqL W.K F a vs) (r : Rps W F ι vs ds) : JOk W F ι (Itl W.K a) ds where
  go := fun i F2 H2 s1 s2 hi => ⟨vs, vs[i]'(by rw [r.length]; exact hi), s2.seq (s1.seq h), by simp⟩
  stop := fun i F2 H2 s1 s2 hi => ⟨vs, s2.seq (s1.seq h), by rw [r.length]; exact hi⟩
  yld := fun i M2 F2 H2 ι2 x H3 d s1 e R y hd => by
    obtain ⟨rfl, y⟩ := y
    have hx := y vs (R.sub.seq (s1.seq h))
    obtain ⟨v, h1, h2⟩ := r.get hd
    rw [hx] at h1
    cases h1
    exact ⟨F2, R, Grow.refl, h2.mono s1 e⟩
theorem jok_tup {a : Addr} {vs : List V} {ds : List D} (h : SqT W.K F a vs) (r : Rps W F ι vs ds) : JOk W F ι (Itt W.K a) ds where
  go := fun i F2 H2 s1 s2 hi => ⟨vs, vs[i]'(by rw [r.length]; exact hi), Same.seqT s2 (Same.seqT s1 h), by simp⟩
  stop := fun i F2 H2 s1 s2 hi => ⟨vs, Same.seqT s2 (Same.seqT s1 h), by rw [r.length]; exact hi⟩
  yld := fun i M2 F2 H2 ι2 x H3 d s1 e R y hd => by
    obtain ⟨rfl, y⟩ := y
    have hx := y vs (Same.seqT R.sub (Same.seqT s1 h))
    obtain ⟨v, h1, h2⟩ := r.get hd
    rw [hx] at h1
    cases h1
    exact ⟨F2, R, Grow.refl, h2.mono s1 e⟩
theorem jok_str (x : Str) : JOk W F ι (Its x) (x.cps.toList.map fun c => .str ⟨#[c]⟩) where
  go := fun i F2 H2 s1 s2 hi => (show i < x.cps.size from by simpa using hi)
  stop := fun i F2 H2 s1 s2 hi => (show x.cps.size ≤ i from by simpa using hi)
  yld := fun i M2 F2 H2 ι2 v H3 d s1 e R y hd => by
    obtain ⟨rfl, c, hc, rfl⟩ := y
    rw [List.getElem?_map, Array.getElem?_toList, hc] at hd
    cases hd
    exact ⟨F2, R, Grow.refl, .str _⟩
theorem jok_rng (lo : Int) (n : Nat) : JOk W F ι (Itr lo n) ((List.range n).map fun (k : Nat) => .int (lo + (k : Int))) where
  go := fun i F2 H2 s1 s2 hi => (show i < n from by simpa using hi)
  stop := fun i F2 H2 s1 s2 hi => (show n ≤ i from by simpa using hi)
  yld := fun i M2 F2 H2 ι2 v H3 d s1 e R y hd => by
    obtain ⟨rfl, rfl⟩ := y
    rw [List.getElem?_map] at hd
    cases hr : (List.range n)[i]? with
    | none => rw [hr] at hd; cases hd
    | some k =>
      rw [hr] at hd
      cases hd
      have hk : i = k := by
        have := List.getElem?_range (n := n) (i := i) (by
          have := (List.getElem?_eq_some_iff.mp hr).1
          simpa using this)
        rw [hr] at this
        exact (Option.some.inj this).symm
      subst hk
      exact ⟨F2, R, Grow.refl, .int _⟩
end

/-- walking a value -/
def ItV (K : PySem.W.Frag) (v : V) (H : Hp) (R : L2.It → Hp → Prop) : Prop := (∃ x, v = .str x ∧ R (Its x) H) ∨ (∃ a zxs, v = .ref a ∧ SqL K H a zxs ∧ R (Itl K a) H) ∨ ∃ a zxs, v = .ref a ∧ SqT K H a zxs ∧ R (Itt K a) H
theorem pi_val {X : Cx} {tg e : Expr} {te : TE} (he : PE X e te) : PI X tg e (fun σ H R => te σ H fun v H1 => ItV X.K v H1 R) := by
  constructor
  intro pins s σ H R I h
  refine thn (he.run pins s σ H _ I h) ?_
  rintro u s1 ⟨v, H1, I1, r1, (⟨x, rfl, q⟩ | ⟨a, zxs, rfl, hq, q⟩ | ⟨a, zxs, rfl, hq, q⟩)⟩
  · obtain ⟨t, rfl⟩ := r1
    by_cases ha : x.cps.all (· < 128) = true
    · exact wpAny_pyIter_ascii ha (pi_one (tk := s1.toks) I1 _ (turn_str _ x t _ (.inl rfl)) ⟨_, Heap.get?_push_size _ rfl, rfl, rfl⟩ q)
    · exact wpAny_pyIter_wide (by simpa using ha) (pi_one (tk := s1.toks) I1 _ (turn_str _ x t _ (.inr rfl)) ⟨_, Heap.get?_push_size _ rfl, rfl, rfl⟩ q)
  · cases r1
    obtain ⟨its, rv, p, hz⟩ := I1.list hq
    refine wpAny_pyIter_list p.isList ⟨_, [s1.heap.objs.size], _, _, H1, rfl, I1.kept (t' := s1.toks) fun b o => Heap.get?_push_of_some _, turn_list a _, ⟨_, Heap.get?_push_size _ rfl, rfl, rfl⟩, ?_, q⟩
    intro b hb
    rw [List.mem_singleton.mp hb]
    exact I1.fpOk (Nat.le_refl _) (I1.hok.fresh (Nat.le_refl _))
  · cases r1
    obtain ⟨its, rv, p, hz⟩ := I1.tuple hq
    refine wpAny_pyIter_tuple (show s1.heap.IsTuple a its.toArray from p) ⟨_, [s1.heap.objs.size], _, _, H1, rfl, I1.kept (t' := s1.toks) fun b o => Heap.get?_push_of_some _, turn_tuple a _, ⟨_, Heap.get?_push_size _ rfl, rfl, rfl⟩, ?_, q⟩
    intro b hb
    rw [List.mem_singleton.mp hb]
    exact I1.fpOk (Nat.le_refl _) (I1.hok.fresh (Nat.le_refl _))
end Dv
end L2
/-! Dv: enumerate and zip over lists, tuples, texts -/
namespace L2
namespace Dv
open PySem PySem.Spec PyProof.Rows

/-! ### what is walked: its value, the kind of its iterator -/
structure Kd where
  src : Value
  ty : String
/-- an iterator over it, at turn i -/
def Kd.st (k : Kd) (it : Addr) (i : Nat) (h : Heap) : Prop := ∃ o, h.get? it = some o ∧ o.cls = .type k.ty ∧ o.data = .fields #[k.src, .int i 0]
def Kd.obj (k : Kd) : Obj := { cls := .type k.ty, data := .fields #[k.src, .int 0 0] }
def Kd.away (k : Kd) (b : Addr) : Prop := k.src ≠ .ref b
inductive Kd.Of (K : PySem.W.Frag) (H : Hp) : Kd → V → List V → Prop
  | lst {a : Addr} {zxs : List V} : SqL K H a zxs → Kd.Of K H ⟨.ref a, "list_iterator"⟩ (.ref a) zxs
  | tup {a : Addr} {zxs : List V} : SqT K H a zxs → Kd.Of K H ⟨.ref a, "tuple_iterator"⟩ (.ref a) zxs
  | str (x : Str) (t : Tok) : Kd.Of K H ⟨.str x t, strIterType x⟩ (.str x) (x.cps.toList.map fun c => .str ⟨#[c]⟩)
/-- the objects that the iterator looks at -/
def Kd.fp (k : Kd) (it : Addr) : List Addr := it :: (match k.src with | .ref a => [a] | _ => [])
theorem Kd.st.at_ {k : Kd} {it : Addr} {i : Nat} {h h' : Heap} (st : k.st it i h) (f : ∀ o, h.get? it = some o → h'.get? it = some o) : k.st it i h' := by
  obtain ⟨o, e, r⟩ := st
  exact ⟨o, f o e, r⟩
theorem mem_fp {k : Kd} {it b : Addr} (h : b ∈ k.fp it) : b = it ∨ k.src = .ref b := by
  unfold Kd.fp at h
  rcases List.mem_cons.mp h with h | h
  · exact .inl h
  · split at h
    · rename_i a e
      rw [List.mem_singleton.mp h]
      exact .inr e
    · simp at h
theorem draws_mono {prog : Program} {w : World} {A : Around} {it : Addr} {fp : List Addr} {n m : Nat} {P P' : Nat → Value → Prop} {St : Nat → Heap → Prop} (D : Draws prog w A it fp n P St) (e : n = m) (f : ∀ i v, P i v → P' i v) : Draws prog w A it fp m P' St := by
  subst e
  exact ⟨D.live, D.frame, fun i s Q E hi st hQ => D.item i s Q E hi st fun x h' tk p => hQ x h' tk (f i x p), D.done⟩
theorem vals_getu : ∀ {zxs : List V} {us : List Value} {i : Nat} {u : Value}, Vals zxs us → us[i]? = some u → ∃ x, zxs[i]? = some x ∧ RelV x u
  | _, _, i, _, .nil, e => by simp at e
  | _, _, 0, _, .cons r _, e => by simp at e; subst e; exact ⟨_, rfl, r⟩
  | _, _, i + 1, u, .cons _ t, e => by
    obtain ⟨x, h1, h2⟩ := vals_getu (i := i) (u := u) t (by simpa using e)
    exact ⟨x, by simpa using h1, h2⟩
section
variable {X : Cx} {pins : List (Addr × Obj)} {σ : L2.St} {H : Hp} {s : Shared} {k : Kd} {v : V} {zxs : List V} {A : Around}
/-- what its iterator draws -/
theorem Kd.Of.draws (of : Kd.Of X.K H k v zxs) (I : Inv X pins σ H s) : ∃ src : Heap → Prop, src s.heap ∧ Begins k.src k.obj src ∧ ∀ A : Around, A.handled = none → ∀ it, k.away it → Draws X.prog X.w A it (k.fp it) zxs.length (fun i u => ∃ x, zxs[i]? = some x ∧ RelV x u) (fun i h => k.st it i h ∧ src h) := by
  cases of with
  | @lst a zxs h =>
    obtain ⟨its, rv, p, _⟩ := I.list h
    exact ⟨_, p.isList, begins_list a its.toArray, fun A hh it aw => draws_mono (Draws.list hh it a (fun z => aw (by rw [z])) its.toArray) (by simp [rv.length]) fun i u e => vals_getu rv (by simpa using e)⟩
  | @tup a zxs h =>
    obtain ⟨its, rv, p, _⟩ := I.tuple h
    exact ⟨_, p, begins_tuple a its.toArray, fun A hh it aw => draws_mono (Draws.tuple hh it a (fun z => aw (by rw [z])) its.toArray) (by simp [rv.length]) fun i u e => vals_getu rv (by simpa using e)⟩
  | str x t =>
    refine ⟨fun _ => True, trivial, begins_text x t, fun A hh it _ => ?_⟩
    have D := Draws.text (prog := X.prog) (w := X.w) hh it x t
    refine draws_mono (P := fun i v => ∃ c u, x.cps[i]? = some c ∧ v = .str ⟨#[c]⟩ u) ⟨fun i h st => D.live i h st.1, fun i h h' st f => ⟨D.frame i h h' st.1 f, trivial⟩, fun i s Q E hi st hQ => D.item i s Q E hi st.1 fun y h' tk p q => hQ y h' tk p ⟨q, trivial⟩, fun s Q E st => D.done s Q E st.1⟩ (by simp) fun i u ⟨c, t', e, z⟩ => ?_
    subst z
    exact ⟨.str ⟨#[c]⟩, by rw [List.getElem?_map]; simp [e], ⟨t', rfl⟩⟩
end
/-- kinds of what is walked -/
inductive Kn where
  | l | t | s
def Sqk (K : PySem.W.Frag) (H : Hp) (n : Kn) (v : V) (zxs : List V) : Prop := match n with
  | .l => ∃ a, v = .ref a ∧ SqL K H a zxs
  | .t => ∃ a, v = .ref a ∧ SqT K H a zxs
  | .s => ∃ x : Str, v = .str x ∧ zxs = x.cps.toList.map fun c => .str ⟨#[c]⟩
def kdOf (n : Kn) (u : Value) : Kd := ⟨u, match n, u with
  | .l, _ => "list_iterator"
  | .t, _ => "tuple_iterator"
  | .s, .str x _ => strIterType x
  | .s, _ => ""⟩
theorem Sqk.of {K : PySem.W.Frag} {H : Hp} {n : Kn} {v : V} {zxs : List V} {u : Value} (h : Sqk K H n v zxs) (r : RelV v u) : Kd.Of K H (kdOf n u) v zxs := by
  cases n with
  | l => obtain ⟨a, rfl, h⟩ := h; cases r; exact .lst h
  | t => obtain ⟨a, rfl, h⟩ := h; cases r; exact .tup h
  | s => obtain ⟨x, rfl, rfl⟩ := h; obtain ⟨t, rfl⟩ := r; exact .str x t
theorem Sqk.mono {K : PySem.W.Frag} {H H' : Hp} {n : Kn} {v : V} {zxs : List V} (sm : Same H H') (h : Sqk K H n v zxs) : Sqk K H' n v zxs := by
  cases n with
  | l => obtain ⟨a, e, h⟩ := h; exact ⟨a, e, sm.seq h⟩
  | t => obtain ⟨a, e, h⟩ := h; exact ⟨a, e, Same.seqT sm h⟩
  | s => exact h
/-- enumerate(v): each item in a new pair -/
def Itew (K : PySem.W.Frag) (k : Kn) (v : V) (zxs : List V) : L2.It :=
  ⟨fun i H => Sqk K H k v zxs ∧ i < zxs.length, fun i H z H' => ∃ T x, z = .ref T ∧ H T = none ∧ H' = upd H T (.tup [.int (i : Nat), x]) ∧ zxs[i]? = some x, fun i H => Sqk K H k v zxs ∧ zxs.length ≤ i⟩
theorem turn_enumW {P : Program} {w : World} {K : PySem.W.Frag} {elts : List Expr} {kk : Nat} {tpos : Pos} (n : Kn) (v : V) (u0 : Value) (ru0 : RelV v u0) (zxs : List V) (e it : Addr) (ae : (kdOf n u0).away e) (ai : (kdOf n u0).away it) (hne : e ≠ it) :
    Turn P w K (.Tuple elts kk tpos) (Itew K n v zxs) [e, it] e (fun i h => i ≤ zxs.length ∧ (∃ old, IsEnum h e it ((i : Nat) : Int) old) ∧ (kdOf n u0).st it i h) where
  mem := by simp
  obj := fun i h st b hb => by
    obtain ⟨_, ⟨old, he⟩, o, ho, _, hd⟩ := st
    rcases (by simpa using hb : b = e ∨ b = it) with rfl | rfl
    · exact ⟨_, he, fun v q => nomatch q⟩
    · exact ⟨o, ho, fun v q => by rw [hd] at q; cases q⟩
  keep := fun i h h' st f => by
    obtain ⟨hl, ⟨old, he⟩, hi⟩ := st
    exact ⟨hl, ⟨old, f e (by simp) _ he⟩, hi.at_ fun o q => f it (by simp) o q⟩
  item := by
    rintro X rfl rfl rfl calm i pins s σ H E I hf ⟨_, ⟨old, he⟩, hi⟩ ⟨sq, hlt⟩
    have of := sq.of ru0
    obtain ⟨src, hsrc, _, D⟩ := of.draws I
    have helt : e < s.heap.objs.size := Heap.lt_size he
    have hilt : it < s.heap.objs.size := by obtain ⟨_, q, _⟩ := hi; exact Heap.lt_size q
    have ef : e ∉ (kdOf n u0).fp it := fun h => by
      rcases mem_fp h with z | z
      · exact hne z
      · exact ae z
    refine wpAny_pyNext_enum_itemD (D X.A.in1 (I.ok.hd calm) it ai) he ⟨hi, hsrc⟩ hlt hne ef fun u h' tk hu ho st' hT hsz hk => ?_
    obtain ⟨x, hx, ru⟩ := hu
    refine ⟨_, rfl, wpAny_letOwnedTupleGo_enum (s := { s with heap := h', toks := tk + 1 }) ho fun h2 he2 sb => ?_⟩
    have tup2 : h2.get? s.heap.objs.size = some { cls := .type "tuple", data := .seq #[.int i tk, u] } := (sb.2 _ (Nat.ne_of_gt helt)).trans hT
    have fresh : ObjOk X.prog X.w (upd H s.heap.objs.size (.tup [.int (i : Nat), x])) h2 s.heap.objs.size (.tup [.int (i : Nat), x]) :=
      ⟨by show 2 ≤ sizeLine; decide, [.int i tk, u], .cons ⟨_, rfl⟩ (.cons ru .nil), ⟨_, tup2, rfl, _, rfl⟩⟩
    have I2 : Inv X pins σ (upd H s.heap.objs.size (.tup [.int (i : Nat), x])) { s with heap := h2, toks := tk + 1 } :=
      I.turnedNew (ch := [e, it]) (fun b ob hb q => (sb.2 b (fun z => hb (by simp [z]))).trans (hk b ob (fun z => hb (by simp [z])) (fun z => hb (by simp [z])) q)) hf (Nat.le_refl _) fresh
    refine ⟨.ref s.heap.objs.size, _, I2, rfl, ⟨_, x, rfl, I.hok.fresh (Nat.le_refl _), rfl, hx⟩, ⟨hlt, ⟨u, ?_⟩, st'.1.at_ fun o q => (sb.2 it (Ne.symm hne)).trans q⟩, fun b hb => ?_⟩
    · have e1 : ((i + 1 : Nat) : Int) = (i : Int) + 1 := by omega
      rw [e1]
      exact he2
    · have hlt : b < s.heap.objs.size := by
        rcases (by simpa using hb : b = e ∨ b = it) with rfl | rfl
        · exact helt
        · exact hilt
      rw [upd_ne (Nat.ne_of_lt hlt)]
      exact (hf b hb).1
  done := by
    rintro X rfl rfl rfl calm i pins s σ H E I hf ⟨hl, ⟨old, he⟩, hi⟩ ⟨sq, hle⟩
    have of := sq.of ru0
    obtain ⟨src, hsrc, _, D⟩ := of.draws I
    have ei : i = zxs.length := by omega
    subst ei
    exact wpAny_pyNext_enum_endD (D X.A.in1 (I.ok.hd calm) it ai) he ⟨hi, hsrc⟩ fun h' eb => ⟨rfl, I.turnedL (t' := s.toks) (ch := [e, it]) (fun b o hb q => eb b o (fun z => hb (by simp [z])) q) hf⟩
  self := fun A i s Q E st h => by
    obtain ⟨_, ⟨_, he⟩, _⟩ := st
    exact wpAny_pyIter_enum he h

theorem enum_new1 {v : Value} {o : Obj} {G : Heap → Prop} (B : Begins v o G) :
    Meets (Builtin.«enumerate.__new__» ⟨[.type "enumerate", v], []⟩) (fun _ R s => G s.heap ∧
      R (.ok (.ret (.ref (s.heap.push o).objs.size))) { s with heap := (s.heap.push o).push { cls := .type "enumerate", data := .fields #[.none, .bool false, .ref s.heap.objs.size, rawInt 0, .none, .none] } }) :=
  .of_wp fun prog w A R s h => by
    obtain ⟨hp, g, d, tk, os⟩ := s
    obtain ⟨h1, h⟩ := h
    have hsub := sub_enumerate
    have q1 : ∀ {A' : Around} {E : Value → Shared → Prop} {Q : Value → Shared → Prop}, Q (.ref hp.objs.size) ⟨hp.push o, g, d, tk, os⟩ → wpAny (model prog w) A' (pyIter v) Q E ⟨hp, g, d, tk, os⟩ :=
      fun q => B.iter prog w _ _ ⟨hp, g, d, tk, os⟩ _ h1 q
    wp_walk using q1
    refine wpAny_stack_any fun st => wpAny_pure ?_
    split
    · rename_i c _ _ _ _ _
      cases (c == Value.type "enumerate")
      · wp_walk using q1
        exact ⟨_, rfl, h⟩
      · wp_walk using q1
        exact ⟨_, rfl, h⟩
    · wp_walk using q1
      exact ⟨_, rfl, h⟩
section
variable {prog : Program} {w : World} {A : Around} {E : Value → Shared → Prop} {s : Shared}
theorem enum_call1 {v : Value} {o : Obj} {G : Heap → Prop} {Q : Value → Shared → Prop} (B : Begins v o G) (h1 : G s.heap)
    (h : ∀ h', IsEnum h' (s.heap.objs.size + 1) s.heap.objs.size 0 .none → h'.get? s.heap.objs.size = some o → (∀ b o, s.heap.get? b = some o → h'.get? b = some o) → Q (.ref (s.heap.objs.size + 1)) { s with heap := h' }) :
    wpAny (model prog w) A (call (.type "enumerate") [v]) Q E s := by
  refine callType_new F.called_enumerate (by decide) (F.typeCall_enumerate_1 _) (F.newCall_enumerate_1 _) (fun obj => F.args_object_init_2 obj _) F.entry_enumerate_new (enum_new1 B) ⟨h1, ?_⟩
  have size1 : (s.heap.push o).objs.size = s.heap.objs.size + 1 := Heap.size_push ..
  show _ ∧ _
  rw [size1]
  have made : IsEnum ((s.heap.push o).push { cls := .type "enumerate", data := .fields #[.none, .bool false, .ref s.heap.objs.size, rawInt 0, .none, .none] }) (s.heap.objs.size + 1) s.heap.objs.size 0 .none := by
    have z := Heap.get?_push_size (s.heap.push o) (o := { cls := .type "enumerate", data := .fields #[.none, .bool false, .ref s.heap.objs.size, rawInt 0, .none, .none] }) rfl
    rw [size1] at z
    exact z
  exact ⟨⟨_, made, rfl⟩, h _ made (Heap.get?_push_of_some _ (Heap.get?_push_size _ B.free)) fun b o x => Heap.get?_push_of_some _ (Heap.get?_push_of_some _ x)⟩
end
theorem ne_nat {a b : Nat} (h : a ≠ b) : (show Addr from a) ≠ (show Addr from b) := h
/-- a source that stands lies below what is new -/
theorem Kd.Of.old {X : Cx} {pins : List (Addr × Obj)} {σ : L2.St} {H : Hp} {s : Shared} {k : Kd} {v : V} {zxs : List V} (of : Kd.Of X.K H k v zxs) (I : Inv X pins σ H s) {b : Addr} (hb : s.heap.objs.size ≤ b) : k.away b := by
  intro z
  cases of with
  | @lst a zxs h =>
    obtain ⟨its, _, p, _⟩ := I.list h
    obtain ⟨o, e, _⟩ := p.isList
    have := Heap.lt_size e
    have e2 : a = b := by injection z
    rw [e2] at this
    exact absurd this (Nat.not_lt.mpr hb)
  | @tup a zxs h =>
    obtain ⟨its, _, p, _⟩ := I.tuple h
    obtain ⟨o, e, _⟩ := p
    have := Heap.lt_size e
    have e2 : a = b := by injection z
    rw [e2] at this
    exact absurd this (Nat.not_lt.mpr hb)
  | str x t => cases z
def iEnumW (K : PySem.W.Frag) (ta : TA) : TI := fun σ H R => ta σ H fun vs H1 => ∃ n v zxs, vs = [v] ∧ Sqk K H1 n v zxs ∧ R (Itew K n v zxs) H1
theorem pi_enumW {X : Cx} {e : Expr} {ta : TA} {p pos tpos : Pos} {elts : List Expr} {kk : Nat} (hg : Gl X "enumerate") (hm : X.mg "enumerate" = none) (ha : PA X [e] ta) (hs : starEach [e] X.env = [(false, eval e X.env)]) :
    PI X (.Tuple elts kk tpos) (.Call (.Name "enumerate" p) [e] [] pos) (iEnumW X.K ta) := by
  constructor
  intro pins s σ H R I h
  refine Call_ (ld_blt I hg hm boot_enumerate (PyProof.Rows.callWith_type1 (thn (ha.run pos pins s σ H _ I h) ?_) hs rfl))
  rintro us s1 ⟨vs, H1, I1, r1, n, v, zxs, rfl, sq, q⟩
  cases r1 with
  | cons r rr =>
    cases rr
    have of := sq.of r
    obtain ⟨src, hsrc, B, _⟩ := of.draws I1
    refine enum_call1 B hsrc fun h' he hit hk => wpAny_pyIter_enum he ?_
    have I2 : Inv X pins σ H1 { s1 with heap := h' } := I1.kept (t' := s1.toks) hk
    refine ⟨s1.heap.objs.size + 1, [s1.heap.objs.size + 1, s1.heap.objs.size], _, _, H1, rfl, I2, turn_enumW n v _ r zxs (s1.heap.objs.size + 1) s1.heap.objs.size (of.old I1 (Nat.le_succ _)) (of.old I1 (Nat.le_refl _)) (Nat.succ_ne_self _), ⟨Nat.zero_le _, ⟨.none, he⟩, _, hit, rfl, rfl⟩, fun b hb => ?_, q⟩
    have low : s1.heap.objs.size ≤ b := by
      rcases (by simpa using hb : b = s1.heap.objs.size + 1 ∨ b = s1.heap.objs.size) with z | z
      · rw [z]; exact Nat.le_succ _
      · rw [z]; exact Nat.le_refl _
    exact I1.fpOk low (I1.hok.fresh low)
/-- zip(v, w): the items in new pairs -/
def Itzw (K : PySem.W.Frag) (k l : Kn) (v w : V) (zxs ys : List V) : L2.It :=
  ⟨fun i H => Sqk K H k v zxs ∧ Sqk K H l w ys ∧ i < zxs.length ∧ i < ys.length, fun i H z H' => ∃ T x y, z = .ref T ∧ H T = none ∧ H' = upd H T (.tup [x, y]) ∧ zxs[i]? = some x ∧ ys[i]? = some y,
    fun i H => Sqk K H k v zxs ∧ Sqk K H l w ys ∧ (zxs.length ≤ i ∨ ys.length ≤ i)⟩
theorem turn_zipW {P : Program} {w : World} {K : PySem.W.Frag} {elts : List Expr} {kk : Nat} {tpos : Pos} (n m : Kn) (v u : V) (v0 u0 : Value) (rv0 : RelV v v0) (ru0 : RelV u u0) (zxs ys : List V) {z TI TO i1 i2 : Addr} (a1 : (kdOf n v0).away i1) (a2 : (kdOf m u0).away i2) (S : ZipSep2 z TI TO i1 i2 ((kdOf n v0).fp i1) ((kdOf m u0).fp i2)) :
    Turn P w K (.Tuple elts kk tpos) (Itzw K n m v u zxs ys) [z, TI, TO, i1, i2] z (fun i h => (i ≤ zxs.length ∧ i ≤ ys.length) ∧ IsZip h z TI TO .none ∧ IsTupOf2 h TI (.ref i1) (.ref i2) ∧ (∃ x y, IsTupOf2 h TO x y) ∧ (kdOf n v0).st i1 i h ∧ (kdOf m u0).st i2 i h) where
  mem := by simp
  obj := fun i h st c hc => by
    obtain ⟨_, hz, hTI, ⟨x, y, hTO⟩, ⟨o1, e1, _, d1⟩, o2, e2, _, d2⟩ := st
    rcases (by simpa using hc : c = z ∨ c = TI ∨ c = TO ∨ c = i1 ∨ c = i2) with rfl | rfl | rfl | rfl | rfl
    · exact ⟨_, hz, fun v q => nomatch q⟩
    · exact ⟨_, hTI, fun v q => nomatch q⟩
    · exact ⟨_, hTO, fun v q => nomatch q⟩
    · exact ⟨o1, e1, fun v q => by rw [d1] at q; cases q⟩
    · exact ⟨o2, e2, fun v q => by rw [d2] at q; cases q⟩
  keep := fun i h h' st f => by
    obtain ⟨hl, hz, hTI, ⟨x, y, hTO⟩, h1, h2⟩ := st
    exact ⟨hl, f z (by simp) _ hz, f TI (by simp) _ hTI, ⟨x, y, f TO (by simp) _ hTO⟩, h1.at_ fun o q => f i1 (by simp) o q, h2.at_ fun o q => f i2 (by simp) o q⟩
  item := by
    rintro X rfl rfl rfl calm i pins s σ H E I hf ⟨_, hz, hTI, ⟨x0, y0, hTO⟩, h1, h2⟩ ⟨sq1, sq2, l1, l2⟩
    have of1 := sq1.of rv0
    have of2 := sq2.of ru0
    obtain ⟨src1, hs1, _, D1⟩ := of1.draws I
    obtain ⟨src2, hs2, _, D2⟩ := of2.draws I
    have zlt : z < s.heap.objs.size := Heap.lt_size hz
    refine wpAny_pyNext_zipD2_item S (D1 X.A.in1 (I.ok.hd calm) i1 a1) (D2 X.A.in1 (I.ok.hd calm) i2 a2) hz hTI hTO ⟨h1, hs1⟩ ⟨h2, hs2⟩ l1 l2 fun u1 u2 h' tk p1 p2 z' TO' st1 st2 hT hsz hk => ?_
    obtain ⟨x, hx, rx⟩ := p1
    obtain ⟨y, hy, ry⟩ := p2
    refine ⟨_, rfl, wpAny_letOwnedTupleGo_zip (s := { s with heap := h', toks := tk }) z' fun h3 z3 sb => ?_⟩
    have tup3 : h3.get? s.heap.objs.size = some { cls := .type "tuple", data := .seq #[u1, u2] } := (sb.2 _ (Nat.ne_of_gt zlt)).trans hT
    have fresh : ObjOk X.prog X.w (upd H s.heap.objs.size (.tup [x, y])) h3 s.heap.objs.size (.tup [x, y]) :=
      ⟨by show 2 ≤ sizeLine; decide, [u1, u2], .cons rx (.cons ry .nil), ⟨_, tup3, rfl, _, rfl⟩⟩
    have I3 : Inv X pins σ (upd H s.heap.objs.size (.tup [x, y])) { s with heap := h3, toks := tk } :=
      I.turnedNew (t' := tk) (ch := [z, TI, TO, i1, i2]) (fun c o hb q => (sb.2 c (fun q' => hb (by simp [q']))).trans (hk c o (fun q' => hb (by simp [q'])) (fun q' => hb (by simp [q'])) (fun q' => hb (by simp [q'])) (fun q' => hb (by simp [q'])) q)) hf (Nat.le_refl _) fresh
    refine ⟨.ref s.heap.objs.size, _, I3, rfl, ⟨_, x, y, rfl, I.hok.fresh (Nat.le_refl _), rfl, hx, hy⟩, ⟨⟨l1, l2⟩, z3, ?_, ⟨u1, u2, ?_⟩, ?_, ?_⟩, fun c hc => ?_⟩
    · exact (sb.2 _ S.TIz).trans (hk _ _ S.TIz S.TITO S.TIi1 S.TIi2 hTI)
    · exact (sb.2 _ S.TOz).trans TO'
    · exact st1.1.at_ fun o q => (sb.2 _ (Ne.symm S.zi1)).trans q
    · exact st2.1.at_ fun o q => (sb.2 _ (Ne.symm S.zi2)).trans q
    · have below : c < s.heap.objs.size := by
        rcases (by simpa using hc : c = z ∨ c = TI ∨ c = TO ∨ c = i1 ∨ c = i2) with rfl | rfl | rfl | rfl | rfl
        · exact zlt
        · exact Heap.lt_size hTI
        · exact Heap.lt_size hTO
        · obtain ⟨_, e1, _⟩ := h1; exact Heap.lt_size e1
        · obtain ⟨_, e2, _⟩ := h2; exact Heap.lt_size e2
      rw [upd_ne (Nat.ne_of_lt below)]
      exact (hf c hc).1
  done := by
    rintro X rfl rfl rfl calm i pins s σ H E I hf ⟨⟨m1, m2⟩, hz, hTI, ⟨x0, y0, hTO⟩, h1, h2⟩ ⟨sq1, sq2, hend⟩
    have of1 := sq1.of rv0
    have of2 := sq2.of ru0
    obtain ⟨src1, hs1, _, D1⟩ := of1.draws I
    obtain ⟨src2, hs2, _, D2⟩ := of2.draws I
    exact wpAny_pyNext_zipD2_end S (D1 X.A.in1 (I.ok.hd calm) i1 a1) (D2 X.A.in1 (I.ok.hd calm) i2 a2) hz hTI hTO ⟨h1, hs1⟩ ⟨h2, hs2⟩ m1 m2 (by omega) fun h' tk hk => ⟨rfl, I.turnedL (t' := tk) (ch := [z, TI, TO, i1, i2]) (fun c o hb q =>
      hk c o (fun q' => hb (by simp [q'])) (fun q' => hb (by simp [q'])) (fun q' => hb (by simp [q'])) (fun q' => hb (by simp [q'])) q) hf⟩
  self := fun A i s Q E st h => wpAny_pyIter_zip st.2.1 h
def iZipW (K : PySem.W.Frag) (ta : TA) : TI := fun σ H R => ta σ H fun vs H1 => ∃ n m v w zxs ys, vs = [v, w] ∧ Sqk K H1 n v zxs ∧ Sqk K H1 m w ys ∧ R (Itzw K n m v w zxs ys) H1
theorem pi_zipW {X : Cx} {e e2 : Expr} {ta : TA} {p pos tpos : Pos} {elts : List Expr} {kk : Nat} (hg : Gl X "zip") (hm : X.mg "zip" = none) (ha : PA X [e, e2] ta)
    (hs : starEach [e, e2] X.env = (false, eval e X.env) :: starEach [e2] X.env) (hpl : (backTo pos (starEach [e2] X.env)).any (·.1) = false) :
    PI X (.Tuple elts kk tpos) (.Call (.Name "zip" p) [e, e2] [] pos) (iZipW X.K ta) := by
  constructor
  intro pins s σ H R I h
  refine Call_ (ld_blt I hg hm PyProof.Rows.boot_zip (PyProof.Rows.callWith_type1 (thn (ha.run pos pins s σ H _ I h) ?_) hs hpl))
  rintro us s1 ⟨vs, H1, I1, r1, n, m, v, w, zxs, ys, rfl, sq1, sq2, q⟩
  cases r1 with
  | cons r rr =>
    cases rr with
    | cons r2 rr =>
      cases rr
      have of1 := sq1.of r
      have of2 := sq2.of r2
      obtain ⟨src1, hs1, B1, _⟩ := of1.draws I1
      obtain ⟨src2, hs2, B2, _⟩ := of2.draws I1
      refine zip_begins2 B1 B2 hs1 hs2 fun h' hz hTI hTO h1 h2 hsz hk => wpAny_pyIter_zip hz ?_
      have I2 : Inv X pins σ H1 { s1 with heap := h' } := I1.kept (t' := s1.toks) hk
      have n1 : ∀ j b, s1.heap.objs.size ≤ b → b ≠ s1.heap.objs.size + j → b ∉ (kdOf n _).fp (s1.heap.objs.size + j) := fun j b hb hne hm => by
        rcases mem_fp hm with z | z
        · exact hne z
        · exact of1.old I1 hb z
      have n2 : ∀ j b, s1.heap.objs.size ≤ b → b ≠ s1.heap.objs.size + j → b ∉ (kdOf m _).fp (s1.heap.objs.size + j) := fun j b hb hne hm => by
        rcases mem_fp hm with z | z
        · exact hne z
        · exact of2.old I1 hb z
      have S : ZipSep2 (s1.heap.objs.size + 4) (s1.heap.objs.size + 2) (s1.heap.objs.size + 3) (s1.heap.objs.size + 0) (s1.heap.objs.size + 1) ((kdOf n _).fp (s1.heap.objs.size + 0)) ((kdOf m _).fp (s1.heap.objs.size + 1)) :=
        ⟨ne_nat (by omega), ne_nat (by omega), ne_nat (by omega), ne_nat (by omega), List.mem_cons_self .., n1 0 _ (Nat.le_add_right _ _) (ne_nat (by omega)), n1 0 _ (Nat.le_add_right _ _) (ne_nat (by omega)), ne_nat (by omega), List.mem_cons_self .., n2 1 _ (Nat.le_add_right _ _) (ne_nat (by omega)), n2 1 _ (Nat.le_add_right _ _) (ne_nat (by omega)), n2 1 _ (Nat.le_add_right _ _) (ne_nat (by omega)), n1 0 _ (Nat.le_add_right _ _) (ne_nat (by omega))⟩
      refine ⟨s1.heap.objs.size + 4, [s1.heap.objs.size + 4, s1.heap.objs.size + 2, s1.heap.objs.size + 3, s1.heap.objs.size + 0, s1.heap.objs.size + 1], _, _, H1, rfl, I2, turn_zipW n m v w _ _ r r2 zxs ys (of1.old I1 (Nat.le_refl _)) (of2.old I1 (Nat.le_succ _)) S,
        ⟨⟨Nat.zero_le _, Nat.zero_le _⟩, hz, hTI, ⟨_, _, hTO⟩, ⟨_, h1, rfl, rfl⟩, ⟨_, h2, rfl, rfl⟩⟩, fun b hb => ?_, q⟩
      have low : s1.heap.objs.size ≤ b := by
        simp only [List.mem_cons, List.not_mem_nil, or_false] at hb
        rcases hb with z | z | z | z | z <;> (rw [z]; exact Nat.le_add_right _ _)
      exact I1.fpOk low (I1.hok.fresh low)
section
variable {W : Wd} {F : Hp} {ι : List Addr}
theorem it_sq {M : Mem} {v : V} {d : Dv.D} {ds : List Dv.D} (r : Rp W F ι v d) (e : itD M d = some ds) : ∃ n vs, Sqk W.K F n v vs ∧ Rps W F ι vs ds := by
  cases r with
  | lst a1 a2 => cases e; exact ⟨.l, _, ⟨_, rfl, SqL.of a1⟩, a2⟩
  | ro a1 a2 => cases e; exact ⟨.l, _, ⟨_, rfl, a1⟩, a2⟩
  | tup a1 a2 => cases e; exact ⟨.t, _, ⟨_, rfl, a1⟩, a2⟩
  | str x =>
    cases e
    refine ⟨.s, _, ⟨x, rfl, rfl⟩, ?_⟩
    generalize x.cps.toList = l
    induction l with
    | nil => exact .nil
    | cons c r ih => exact .cons (.str _) ih
  | _ => simp [itD] at e
theorem jok_zipW {n m : Kn} {v u : V} {vs us : List V} {ds es : List Dv.D} (h1 : Sqk W.K F n v vs) (h2 : Sqk W.K F m u us) (r1 : Rps W F ι vs ds) (r2 : Rps W F ι us es) : JOk W F ι (Itzw W.K n m v u vs us) (List.zipWith (fun p q => D.tup [p, q]) ds es) where
  go := fun i F2 H2 s1 s2 hi => by
    rw [List.length_zipWith, ← r1.length, ← r2.length] at hi
    exact ⟨(h1.mono s1).mono s2, (h2.mono s1).mono s2, by omega, by omega⟩
  stop := fun i F2 H2 s1 s2 hi => by
    rw [List.length_zipWith, ← r1.length, ← r2.length] at hi
    exact ⟨(h1.mono s1).mono s2, (h2.mono s1).mono s2, by omega⟩
  yld := fun i M2 F2 H2 ι2 z H3 d s1 e R y hd => by
    obtain ⟨T, x, y', rfl, nT, rfl, e1, e2⟩ := y
    obtain ⟨p, q1, q2⟩ := r1.getv e1
    obtain ⟨q, q3, q4⟩ := r2.getv e2
    rw [List.getElem?_zipWith, q1, q3] at hd
    cases hd
    have hn := R.Fn nT
    exact ⟨_, R.frozen nT, Grow.frozen R nT, .tup (SqT.of upd_same) (.cons ((q2.mono s1 e).mono (same_upd hn) (Ext.refl _)) (.cons ((q4.mono s1 e).mono (same_upd hn) (Ext.refl _)) .nil))⟩
theorem jok_enumW {n : Kn} {v : V} {vs : List V} {ds : List Dv.D} (h1 : Sqk W.K F n v vs) (r1 : Rps W F ι vs ds) : JOk W F ι (Itew W.K n v vs) (ds.zipIdx.map fun p => D.tup [.int p.2, p.1]) where
  go := fun i F2 H2 s1 s2 hi => by
    rw [List.length_map, List.length_zipIdx, ← r1.length] at hi
    exact ⟨(h1.mono s1).mono s2, hi⟩
  stop := fun i F2 H2 s1 s2 hi => by
    rw [List.length_map, List.length_zipIdx, ← r1.length] at hi
    exact ⟨(h1.mono s1).mono s2, hi⟩
  yld := fun i M2 F2 H2 ι2 z H3 d s1 e R y hd => by
    obtain ⟨T, x, rfl, nT, rfl, e1⟩ := y
    obtain ⟨p, q1, q2⟩ := r1.getv e1
    rw [List.getElem?_map, List.getElem?_zipIdx, q1] at hd
    simp only [Option.map_some, Option.some.injEq, Nat.zero_add] at hd
    subst hd
    have hn := R.Fn nT
    exact ⟨_, R.frozen nT, Grow.frozen R nT, .tup (SqT.of upd_same) (.cons (.int _) (.cons ((q2.mono s1 e).mono (same_upd hn) (Ext.refl _)) .nil))⟩
end
end Dv
end L2
/-! Dv: small facts of the syntax -/
namespace L2
namespace Dv
open PySem PySem.Spec PyProof.Rows
section
theorem asName_eq {x : Expr} {y : Str} (h : asName x = some y) : ∃ p, x = .Name y p := by cases x <;> simp [asName] at h; subst h; exact ⟨_, rfl⟩
theorem asConst_eq {x : Expr} {y : Const} (h : asConst x = some y) : ∃ j p, x = .Constant y j p := by cases x <;> simp [asConst] at h; subst h; exact ⟨_, _, rfl⟩
theorem asBin_eq {x : Expr} {y : Operator × Expr × Expr} (h : asBin x = some y) : ∃ p, x = .BinOp y.2.1 y.1 y.2.2 p := by cases x <;> simp [asBin] at h; subst h; exact ⟨_, rfl⟩
theorem asUn_eq {x : Expr} {y : UnaryOp × Expr} (h : asUn x = some y) : ∃ p, x = .UnaryOp y.1 y.2 p := by cases x <;> simp [asUn] at h; subst h; exact ⟨_, rfl⟩
theorem asBool_eq {x : Expr} {y : BoolOp × List Expr} (h : asBool x = some y) : ∃ p, x = .BoolOp y.1 y.2 p := by cases x <;> simp [asBool] at h; subst h; exact ⟨_, rfl⟩
theorem asCmp_eq {x : Expr} {y : Expr × CmpOp × Expr} (h : asCmp x = some y) : ∃ p, x = .Compare y.1 [y.2.1] [y.2.2] p := by
  unfold asCmp at h
  split at h <;> cases h
  exact ⟨_, rfl⟩
theorem asChn_eq {x : Expr} {y : Expr × CmpOp × Expr × CmpOp × Expr} (h : asChn x = some y) : ∃ p, x = .Compare y.1 [y.2.1, y.2.2.2.1] [y.2.2.1, y.2.2.2.2] p := by
  unfold asChn at h
  split at h <;> cases h
  exact ⟨_, rfl⟩
theorem asIf_eq {x : Expr} {y : Expr × Expr × Expr} (h : asIf x = some y) : ∃ p, x = .IfExp y.1 y.2.1 y.2.2 p := by cases x <;> simp [asIf] at h; subst h; exact ⟨_, rfl⟩
theorem asTup_eq {x : Expr} {y : List Expr} (h : asTup x = some y) : ∃ j p, x = .Tuple y j p := by cases x <;> simp [asTup] at h; subst h; exact ⟨_, _, rfl⟩
theorem asLst_eq {x : Expr} {y : List Expr} (h : asLst x = some y) : ∃ p, x = .List y p := by cases x <;> simp [asLst] at h; subst h; exact ⟨_, rfl⟩
theorem asDict0_eq {x : Expr} (h : asDict0 x = true) : ∃ p, x = .Dict [] [] p := by
  unfold asDict0 at h
  split at h <;> first | exact ⟨_, rfl⟩ | cases h
theorem asComp_eq {x : Expr} {y : Expr × Expr × Expr × List Expr × Scope} (h : asComp x = some y) : ∃ p, x = .ListComp y.1 [⟨y.2.1, y.2.2.1, y.2.2.2.1, 0⟩] y.2.2.2.2 p := by
  unfold asComp at h
  split at h
  · split at h <;> cases h
    rename_i e
    subst e
    exact ⟨_, rfl⟩
  · cases h
theorem asCall_eq {x : Expr} {y : Str × List Expr} (h : asCall x = some y) : ∃ p0 p, x = .Call (.Name y.1 p0) y.2 [] p := by
  unfold asCall at h
  split at h <;> cases h
  exact ⟨_, _, rfl⟩
theorem asMeth_eq {x : Expr} {y : Expr × Str × List Expr} (h : asMeth x = some y) : ∃ ap p, x = .Call (.Attribute y.1 y.2.1 ap) y.2.2 [] p ∧ (ap.endLine == p.line) = true := by
  unfold asMeth at h
  split at h
  · split at h <;> cases h
    exact ⟨_, _, rfl, by assumption⟩
  · cases h
theorem asSub_eq {x : Expr} {y : Expr × Expr} (h : asSub x = some y) : ∃ p, x = .Subscript y.1 y.2 p := by cases x <;> simp [asSub] at h; subst h; exact ⟨_, rfl⟩
theorem asSlc_eq {x : Expr} {y : Option Expr × Option Expr} (h : asSlc x = some y) : ∃ p, x = .Slice y.1 y.2 none p := by
  unfold asSlc at h
  split at h <;> cases h
  exact ⟨_, rfl⟩
theorem asBack_eq {x : Expr} (h : asBack x = true) : ∃ j p1 p2 p3, x = .Slice none none (some (.UnaryOp .USub (.Constant (.int 1) j p1) p2)) p3 := by
  unfold asBack at h
  split at h <;> first | exact ⟨_, _, _, _, rfl⟩ | cases h
end
section
variable {T : Tb} {N : List Str} {sc : Scope} {env : Env}
theorem chE_star {e : E} {y : Expr} {p : Pos} : chE T N sc e (.Starred y p) = false := by
  cases e <;> first | rfl | (rename_i a b; cases b <;> rfl) | (simp [chE, asName, asConst, asBin, asUn, asBool, asCmp, asChn, asIf, asTup, asLst, asDict0, asComp, asCall, asMeth, asSub])
theorem noStar_of {e : E} {x : Expr} (h : chE T N sc e x = true) : noStar x = true := by
  cases x <;> first | rfl | (rw [chE_star] at h; cases h)
theorem star_cons {x : Expr} {zxs : List Expr} (h : noStar x = true) : starEach (x :: zxs) env = (false, eval x env) :: starEach zxs env := by
  cases x <;> first | rfl | (simp [noStar] at h)
theorem plain_args {pos : Pos} : ∀ {es : List E} {zxs : List Expr}, chEs T N sc es zxs = true → (backTo pos (starEach zxs env)).any (·.1) = false ∧ (backTo pos (starEach zxs env)).all (fun y => !y.1) = true ∧ zxs.length = es.length
  | [], [], _ => ⟨rfl, rfl, rfl⟩
  | e :: es, x :: zxs, h => by
    simp only [chEs, Bool.and_eq_true] at h
    obtain ⟨h1, h2, h3⟩ := plain_args (pos := pos) h.2
    rw [star_cons (noStar_of h.1)]
    refine ⟨?_, ?_, by simp [h3]⟩
    · show ((false || (backTo pos (starEach zxs env)).any (·.1)) = false)
      rw [h1]; rfl
    · show ((!false && (backTo pos (starEach zxs env)).all (fun y => !y.1)) = true)
      rw [h2]; rfl
  | [], _ :: _, h => by simp [chEs] at h
  | _ :: _, [], h => by simp [chEs] at h
theorem test_of {x : Expr} (h : plT x = true) (whole : Sem Value) : isTrue x env whole = (do let v ← whole; standAt x.pos; holding [v] (truthy v)) := by
  cases x with
  | UnaryOp op a p => cases op <;> first | rfl | (simp [plT] at h)
  | BoolOp _ _ _ => simp [plT] at h
  | IfExp _ _ _ _ => simp [plT] at h
  | Compare _ _ _ _ => simp [plT] at h
  | _ => rfl
theorem sup_of {o : Expr} {n : Str} {w : Sem Value} (h : noSup o = true) : attributeBase o n env w = w := by
  unfold attributeBase
  split
  · simp [noSup] at h
  · rfl
theorem sl_of {i : Expr} (h : noSl i = true) : PlainIx i := fun o k => by
  cases i <;> first | rfl | (simp [noSl] at h)
theorem set_of {i : Expr} (h : noSet i = true) (x : Value) : foldedSetIterable i env x = pure x := by
  cases i <;> first | rfl | (simp [noSet] at h)
theorem in_of {y : Expr} {op : CmpOp} (h : noSet y = true) : behindInMarks op y = false := by
  cases y <;> first | rfl | (simp [noSet] at h)
theorem last_of {x y : Expr} {op op' : CmpOp} (h : noSet y = true) : lastMarks [op, op'] [x, y] = false := by
  show behindInMarks op' y = false
  exact in_of h
theorem comp_of {x : Expr} {t : Option Expr} {l : Nat} (h : noComp x = true) : swapsWith x t l env = pure false := by
  cases x <;> first | rfl | (simp [noComp] at h)
theorem vis_of {x : Str} (h : visB sc x = true) : Vis sc x := by
  unfold visB at h
  unfold Vis
  split at h
  · rename_i e; exact .inl e
  · rename_i e; exact .inr (.inl e)
  · rename_i e; exact .inr (.inr e)
  · cases h
theorem gl_of {x : Str} (h : glB sc x = true) : sc.names.lookup x = some .globalImplicit := by
  unfold glB at h
  split at h
  · assumption
  · cases h
end
end Dv
end L2
/-! Dv: comprehensions -/
namespace L2
namespace Dv
open PySem PySem.Spec PyProof.Rows

theorem wipe_idem {σ : L2.St} : ∀ own : List Nat, wipe (wipe σ own) own = wipe σ own
  | [] => rfl
  | v :: vs => by
    have h : wipe ((wipe σ vs).set v none) (v :: vs) = wipe (wipe σ vs) (v :: vs) := wipe_set List.mem_cons_self
    show wipe ((wipe σ vs).set v none) (v :: vs) = (wipe σ vs).set v none
    rw [h]
    show (wipe (wipe σ vs) vs).set v none = _
    rw [wipe_idem vs]
theorem upd_it {H : Hp} {p : Addr} {o : HO} (h : H p = some o) : upd H p o = H := by
  funext a
  by_cases e : a = p
  · subst e; rw [upd_same, h]
  · rw [upd_ne e]
theorem hid_it {H : Hp} {p : Addr} {o : HO} (h : H p = none) : hid (upd H p o) p = H := by
  funext a
  by_cases e : a = p
  · subst e; rw [hid_same, h]
  · rw [hid_ne e, upd_ne e]
theorem hid_of {H : Hp} {p : Addr} {o : HO} : hid (upd H p o) p = hid H p := by
  funext a
  by_cases e : a = p
  · subst e; rw [hid_same, hid_same]
  · rw [hid_ne e, hid_ne e, upd_ne e]

abbrev WX0 : WX := fun _ _ _ _ => False
section
variable {W : Wd} {Φ : Calls} {T : Tb} {elt : E} {tg : Tg} {ifs : List E} {own : List Nat} {ρ : Env'} {σ : L2.St} {M1 : Mem} {F1 H1 : Hp} {ι1 : List Addr} {J : L2.It} {ds : List D} {Q : VK} {Wx : WXH} {fz : Bool}
/-- one item of a comprehension -/
def zlcF (Φ : Calls) (T : Tb) (elt : E) (tg : Tg) (ifs : List E) (own : List Nat) (ρ : Env') : D → Mem → R (Option D) := fun x M2 => match tg.put x (wipeD ρ own) with
  | some ρ' => (zevF Φ T ifs ρ' M2).bnd fun b M3 => if b then (zev Φ T elt ρ' M3).bnd fun y M4 => .ok (some y) M4 else .ok none M3
  | none => .bad
theorem lc_read (hix : ∀ j ∈ tg.ix, j ∈ own) (R0 : Rel W M1 F1 H1 ι1) (S : RelS W F1 ι1 ρ σ) (jok : JOk W F1 ι1 J ds)
    (p : Pst W Wx (Rp W) Q ((foldC (zlcF Φ T elt tg ifs own ρ) ds [] M1).bnd fun ys M5 => mkL fz ys M5) M1 F1 H1 ι1) :
    ∀ D, H1 D = none → ∃ Wv : Nat → Nat → Hp → Prop, (∃ m, Wv 0 m (upd H1 D (.lst []))) ∧ ∀ i m H, Wv i m H →
      (J.stop i H ∧ Q (.ref D) H) ∨ (J.go i H ∧ ∃ Nx : Hp → Prop, (∀ H', Nx H' → ∃ m', m' < m ∧ Wv (i + 1) m' H') ∧ ∀ x H', J.yld i H x H' → gT W tg x (wipe σ own) H' fun σ2 H2 => wipe σ2 own = wipe σ own ∧ tG W WX0 eqB (zevF Φ T ifs) σ2 H2 fun b H3 =>
        if b = true then tG W WX0 (Rp W) (zev Φ T elt) σ2 H3 fun y H4 => ∃ acc, H4 D = some (.lst acc) ∧ acc.length < sizeLine ∧ Nx (upd H4 D (.lst (acc ++ [y]))) else Nx H3) := by
  intro D hD
  let St : Nat → Hp → Prop := fun i H => ∃ M2 F2 ι2 acc vs, Rel W M2 F2 (hid H D) ι2 ∧ H D = some (.lst vs) ∧ Rps W F2 ι2 vs acc ∧ RelS W F2 ι2 ρ σ ∧ Same F1 F2 ∧ Ext ι1 ι2 ∧
    Pst W Wx (Rp W) Q ((foldC (zlcF Φ T elt tg ifs own ρ) (ds.drop i) acc M2).bnd fun ys M5 => mkL fz ys M5) M2 F2 (hid H D) ι2
  refine ⟨fun i m H => m = ds.length - i ∧ i ≤ ds.length ∧ St i H, ⟨ds.length, by simp, Nat.zero_le _, M1, F1, ι1, [], [], ?_, upd_same, .nil, S, fun _ _ h => h, Ext.refl _, ?_⟩, ?_⟩
  · rw [hid_it hD]; exact R0
  · rw [hid_it hD]; exact p
  rintro i m H ⟨rfl, hi, M2, F2, ι2, acc, vs, R2, hV, rV, S2, s12, e12, p2⟩
  obtain ⟨R2', nF, nI⟩ := R2.shown
  by_cases hlt : i < ds.length
  · refine .inr ⟨jok.go i F2 H s12 R2'.sub hlt, fun H' => St (i + 1) H', fun H' n => ⟨ds.length - (i + 1), by omega, rfl, hlt, n⟩, fun x H' y => ?_⟩
    obtain ⟨F3, R3, g3, r3⟩ := jok.yld i M2 F2 H ι2 x H' ds[i] s12 e12 R2' y (List.getElem?_eq_getElem hlt)
    obtain ⟨hV3, nF3, nI3, gh3⟩ := g3.beside hV nF nI
    rw [List.drop_eq_getElem_cons hlt] at p2
    simp only [foldC, zlcF] at p2
    cases ep : tg.put ds[i] (wipeD ρ own) with
    | none => rw [ep] at p2; exact p2.elim
    | some ρ' =>
      rw [ep] at p2
      simp only at p2
      refine ⟨wipeD ρ own, M2, F3, ι2, ds[i], ρ', R3, (S2.mono g3.f g3.i).wipe own, r3, ep, fun σ2 S2' w2 => ⟨?_, ?_⟩⟩
      · rw [w2 own hix, wipe_idem]
      · cases ef : zevF Φ T ifs ρ' M2 with
        | bad => rw [ef] at p2; exact p2.elim
        | err x M => rw [ef] at p2; exact p2.elim
        | ok b M3 =>
          rw [ef] at p2
          simp only [R.bnd_ok] at p2
          refine ⟨ρ', M2, F3, ι2, R3, S2', ?_⟩
          rw [ef]
          rintro v F4 H4 ι4 R4 g4 rfl
          obtain ⟨hV4, nF4, nI4, gh4⟩ := g4.beside hV3 nF3 nI3
          cases v with
          | false =>
            rw [if_neg Bool.false_ne_true]
            simp only [Bool.false_eq_true, if_false] at p2
            exact ⟨M3, F4, ι4, acc, vs, R4.hidden nF4 nI4, hV4, rV.mono (g3.f.trans g4.f) (g3.i.trans g4.i), S2.mono (g3.f.trans g4.f) (g3.i.trans g4.i), s12.trans (g3.f.trans g4.f), e12.trans (g3.i.trans g4.i), p2.from (gh3.trans gh4)⟩
          | true =>
            rw [if_pos rfl]
            simp only [if_true] at p2
            cases ee : zev Φ T elt ρ' M3 with
            | bad => rw [ee] at p2; exact p2.elim
            | err x M => rw [ee] at p2; exact p2.elim
            | ok yv M4 =>
              rw [ee] at p2
              simp only [R.bnd_ok] at p2
              refine ⟨ρ', M3, F4, ι4, R4, S2'.mono g4.f g4.i, ?_⟩
              rw [ee]
              intro z F5 H5 ι5 R5 g5 rz
              obtain ⟨hV5, nF5, nI5, gh5⟩ := g5.beside hV4 nF4 nI4
              have gf := (g3.f.trans g4.f).trans g5.f
              have gi := (g3.i.trans g4.i).trans g5.i
              split at p2
              · rename_i hz
                refine ⟨vs, hV5, by rw [rV.length]; exact hz, M4, F5, ι5, acc ++ [yv], vs ++ [z], ?_, upd_same, (rV.mono gf gi).append (.cons rz .nil), S2.mono gf gi, s12.trans gf, e12.trans gi, ?_⟩
                · rw [hid_of]; exact R5.hidden nF5 nI5
                · rw [hid_of]; exact p2.from ((gh3.trans gh4).trans gh5)
              · exact p2.elim
  · have ei : i = ds.length := by omega
    refine .inl ⟨jok.stop i F2 H s12 R2'.sub (by omega), ?_⟩
    rw [ei, List.drop_length] at p2
    have z := (mkL_end R2 rV p2).2 D hid_same
    rw [hid_upd, upd_it hV] at z
    exact z
end
end Dv
end L2
/-! Dv: a tuple back to front -/
namespace L2
namespace Dv
open PySem PySem.Spec PyProof.Rows
section
variable {prog : Program} {w : World} {A : Around} {E : Value → Shared → Prop} {s : Shared}
theorem back_places (n : Nat) : Builtin.Slice.slicePlaces ((n : Int) - 1) (-1) (-1) = n := by
  unfold Builtin.Slice.slicePlaces
  rw [if_neg (by decide)]
  by_cases h : (n : Int) - 1 > -1
  · rw [if_pos h]
    have e : ((n : Int) - 1 - -1 - 1) / (- -1) + 1 = (n : Int) := by
      rw [show (- -1 : Int) = 1 by decide, Int.ediv_one]
      omega
    rw [e]; rfl
  · rw [if_neg h]
    omega
theorem back_applied {sl : Addr} {vl vu vs : Value} {n : Nat} {Q : Int × Int × Nat → Shared → Prop} (hs : s.heap.IsSliceOf sl vl vu vs) (pl : IsPart vl none) (pu : IsPart vu none) (ps : IsPart vs (some (-1)))
    (h : Q ((n : Int) - 1, -1, n) s) : wpAny (model prog w) A (Builtin.Slice.sliceApplied (.ref sl) (pure (n : Int))) Q E s := by
  obtain ⟨os, h1, h2, h3⟩ := id hs
  cases pl; cases pu
  obtain ⟨t, rfl⟩ : ∃ t, vs = .int (-1) t := by cases ps; exact ⟨_, rfl⟩
  unfold Builtin.Slice.sliceApplied Builtin.Slice.sliceFields
  refine wpAny_bind (wpAny_bind (wpAny_field h1 h3 (x := .none) rfl (wpAny_bind (wpAny_field h1 h3 (x := .none) rfl (wpAny_bind (wpAny_field h1 h3 (x := .int (-1) t) rfl (wpAny_pure ?_)))))))
  refine wpAny_bind (slicePart_int ?_)
  show wpAny _ _ (if ((-1 : Int) == 0) = true then _ else _) _ _ s
  rw [if_neg (by decide)]
  refine wpAny_bind (slicePart_none (wpAny_bind (slicePart_none (wpAny_bind (wpAny_pure ?_)))))
  show wpAny _ _ (match Builtin.Slice.sliceAdjust none none (-1) (n : Int) with | (x, y) => pure (x, (-1 : Int), Builtin.Slice.slicePlaces x y (-1))) _ _ s
  have e : Builtin.Slice.sliceAdjust none none (-1) (n : Int) = ((n : Int) - 1, -1) := rfl
  rw [e]
  show wpAny _ _ (pure ((n : Int) - 1, (-1 : Int), Builtin.Slice.slicePlaces ((n : Int) - 1) (-1) (-1))) _ _ s
  rw [back_places]
  exact wpAny_pure h
theorem fm_congr {α β : Type} {f g : α → Option β} : ∀ (l : List α), (∀ x ∈ l, f x = g x) → l.filterMap f = l.filterMap g
  | [], _ => rfl
  | a :: l, h => by
    have ih := fm_congr l fun x hx => h x (List.mem_cons_of_mem _ hx)
    have h1 := h a List.mem_cons_self
    simp only [List.filterMap_cons, h1, ih]
theorem back_pick (zxs : Array Value) : ((List.range zxs.size).filterMap fun (k : Nat) => zxs[(((zxs.size : Nat) : Int) - 1 + (k : Int) * (-1)).toNat]?).toArray = zxs.toList.reverse.toArray := by
  congr 1
  have e : ((List.range zxs.size).filterMap fun (k : Nat) => zxs[(((zxs.size : Nat) : Int) - 1 + (k : Int) * (-1)).toNat]?) = ((List.range zxs.size).map fun k => zxs.size - 1 - k).filterMap (fun j => zxs[j]?) := by
    rw [List.filterMap_map]
    refine fm_congr _ fun k hk => ?_
    have hk := List.mem_range.mp hk
    show zxs[(((zxs.size : Nat) : Int) - 1 + (k : Int) * (-1)).toNat]? = zxs[zxs.size - 1 - k]?
    congr 1
    omega
  rw [e, PySem.W.krv_range, List.filterMap_reverse, PySem.W.krv_all]
theorem back_tuple {t sl : Addr} {items : Array Value} {vl vu vs : Value} {Q : Value → Shared → Prop} (ht : IsTup s.heap t items) (hs : s.heap.IsSliceOf sl vl vu vs) (pl : IsPart vl none) (pu : IsPart vu none) (ps : IsPart vs (some (-1)))
    (h : Q (.ref s.heap.objs.size) { s with heap := s.heap.push { cls := .type "tuple", data := .seq items.toList.reverse.toArray } }) (hz : items.size ≤ sizeLine) : wpAny (model prog w) A (getItem (.ref t) (.ref sl)) Q E s := by
  have ok : sizeOk (.seq items.toList.reverse.toArray) := by
    show items.toList.reverse.toArray.size ≤ sizeLine
    simpa using hz
  obtain ⟨os, h1, h2, h3⟩ := id hs
  have hT : s.TypeIs (.ref sl) "slice" := ⟨os, h1, h2⟩
  unfold getItem
  try with_reducible refine wpAny_holding ?_
  first | refine wpAny_bind (wpAny_pure ?_) | skip
  refine wpAny_bind (wpAny_sequenceKey ht.typeIs (by decide) (wpAny_bind (wpAny_callSpecial?_slot (name := Str.ofString "__getitem__") ht.typeIs PyProof.Rows.slot_tuple_getitem ?_)))
  refine wpAny_call_entry PyProof.Rows.slot_tuple_getitem ht.typeIs entry_tuple_getitem ?_ (args_tuple_getitem _ _)
  show wpAny _ _ (Builtin.Tuple.tupleItemsOf (.ref t) >>= _) _ _ s
  refine wpAny_bind (tupleItemsOf_ ht (wpAny_bind (wpAny_typeOf hT ?_)))
  rw [if_pos (by decide)]
  refine wpAny_bind (back_applied hs pl pu ps ?_)
  show wpAny _ _ (if ((((items.size : Nat) : Int) - 1 == 0) && ((-1 : Int) == 1) && (items.size == items.size)) = true then _ else _) _ _ s
  rw [if_neg (by simp), back_pick]
  first
    | exact wpAny_bind (m := Builtin.Tuple.tupleExact _) (wpAny_newObj_type (wpAny_pure ⟨_, rfl, wpAny_pure h⟩) ok)
    | exact wpAny_bind (m := Builtin.Tuple.tupleExact _) (wpAny_newObj_type (wpAny_bind (wpAny_pure (wpAny_pure ⟨_, rfl, wpAny_pure h⟩))) ok)
    | exact wpAny_bind (wpAny_bind (m := Builtin.Tuple.tupleExact _) (wpAny_newObj_type (wpAny_pure (wpAny_pure ⟨_, rfl, wpAny_pure h⟩)) ok))
    | exact wpAny_bind (wpAny_bind (m := Builtin.Tuple.tupleExact _) (wpAny_newObj_type (wpAny_pure ⟨_, rfl, wpAny_pure h⟩) ok))
end

/-- zxs[::-1] of a list or a tuple -/
def tRevW (K : PySem.W.Frag) (te : TE) : TE := fun σ H Q => te σ H fun x H1 => (∃ a zxs, x = .ref a ∧ SqL K H1 a zxs ∧ ∀ p, H1 p = none → Q (.ref p) (upd H1 p (.lst zxs.reverse))) ∨ ∃ a zxs, x = .ref a ∧ SqT K H1 a zxs ∧ ∀ p, H1 p = none → Q (.ref p) (upd H1 p (.tup zxs.reverse))
theorem pe_revW {X : Cx} {e : Expr} {te : TE} {k : Nat} {p1 p2 p3 pos : Pos} (he : PE X e te) : PE X (.Subscript e (.Slice none none (some (.UnaryOp .USub (.Constant (.int 1) k p1) p2)) p3) pos) (tRevW X.K te) := by
  constructor
  intro pins s σ H Q I h
  refine Subscript_ (thn (he.run pins s σ H _ I h) fun v s1 ⟨x, H1, I1, r1, q1⟩ => ?_)
  have st : PO X (some (.UnaryOp .USub (.Constant (.int 1) k p1) p2)) (tPart (tUn (rU fun i => .int (-i)) (tC (.int 1)))) := po_some (pe_un un_neg pe_int)
  refine wpAny_Slice (thn (po_none.run pins s1 σ H1 (fun o H2 => o = none ∧ H2 = H1) I1 ⟨rfl, rfl⟩) ?_)
  rintro vl s2 ⟨_, _, I2, pl, rfl, rfl⟩
  refine thn (po_none.run pins s2 σ _ (fun o H3 => o = none ∧ H3 = _) I2 ⟨rfl, rfl⟩) ?_
  rintro vu s3 ⟨_, _, I3, pu, rfl, rfl⟩
  refine thn (st.run pins s3 σ _ (fun o H4 => o = some (-1) ∧ H4 = _) I3 ⟨1, rfl, -1, rfl, rfl, rfl⟩) ?_
  rintro vs s4 ⟨_, _, I4, ps, rfl, rfl⟩
  have I5 := I4.kept (h' := s4.heap.push { cls := .type "slice", data := .fields #[vl, vu, vs] }) (t' := s4.toks) fun b ob => Heap.get?_push_of_some _
  rcases q1 with ⟨a, zxs, rfl, hx, q⟩ | ⟨a, zxs, rfl, hx, q⟩
  · cases r1
    obtain ⟨its, r, ht, hz⟩ := I5.list hx
    have hl := r.length
    refine tail_any (ops := [.ref a, .ref s4.heap.objs.size]) ht.isList.typeIs PySem.slot_list_getitem.lookup ?_ (by with_unfolding_all rfl)
    refine wpAny_getItem_list_slice ht.isList (Heap.IsSliceOf.new _ vl vu vs) pl pu ps (by decide) ?_ (by rw [List.size_toArray]; omega)
    rw [PySem.W.krv_pick]
    refine ⟨.ref _, _, I5.laid (t' := s4.toks) (o := .lst zxs.reverse) (fun b ob => Heap.get?_push_of_some _) (Nat.le_refl _) ?_, rfl, q _ (I5.hok.fresh (Nat.le_refl _))⟩
    exact ⟨by rw [List.length_reverse]; exact hz, _, 0, r.reverse, Heap.get?_push_size _ rfl⟩
  · cases r1
    obtain ⟨its, r, ht, hz⟩ := I5.tuple hx
    have hl := r.length
    refine tail_any (ops := [.ref a, .ref s4.heap.objs.size]) ht.typeIs PyProof.Rows.slot_tuple_getitem.lookup ?_ (by with_unfolding_all rfl)
    refine back_tuple ht (Heap.IsSliceOf.new _ vl vu vs) pl pu ps ?_ (by rw [List.size_toArray]; omega)
    refine ⟨.ref _, _, I5.laid (t' := s4.toks) (o := .tup zxs.reverse) (fun b ob => Heap.get?_push_of_some _) (Nat.le_refl _) ?_, rfl, q _ (I5.hok.fresh (Nat.le_refl _))⟩
    exact ⟨by rw [List.length_reverse]; exact hz, _, r.reverse, ⟨_, Heap.get?_push_size _ rfl, rfl, _, rfl⟩⟩
end Dv
end L2
/-! Dv: expressions are run as the interpreter says -/
namespace L2
namespace Dv
open PySem PySem.Spec PyProof.Rows

section
variable {T : Tb} {Φ : Calls} {W : Wd} {k : Nat}
theorem Ok.blk {Wx : WX} {X : Cx} (O : Ok T Φ W k Wx X) (s : Shared) (H : Hp) (scope : Scope) (C : Addr) (cl : List (Str × Addr)) (fp : List Addr) : Ok T Φ W k WX0 (X.blk s H scope (compEnvC scope cl C X.env) fp) where
  K := O.K
  nd := O.nd
  room := O.room
  gd := O.gd
  calm := O.calm
  glo := O.glo
  tk := fun _ _ ⟨_, _, _, _, _, _, _, _, _, _, _, _, _, _, _, _, z⟩ => z.elim
theorem Ok.un {Wx : WX} {X : Cx} (O : Ok T Φ W k Wx X) : X.A.units + 64 < cLine := O.room.units

/-- a test by its value -/
theorem tst_of {Wx : WX} {X : Cx} (hK : X.K = W.K) {e : E} {x : Expr} (hb : tsB e x = true) (h1 : isT e = true → PT X x (tG W Wx eqB (zevT Φ T e))) (h2 : PE X x (tG W Wx (Rp W) (zev Φ T e))) : PT X x (tG W Wx eqB (ztst Φ T e)) := by
  cases hT : isT e with
  | true =>
    have e1 : ztst Φ T e = zevT Φ T e := by
      funext ρ M
      unfold ztst
      rw [hT]
      rfl
    rw [e1]
    exact h1 hT
  | false =>
    have hp : plT x = true := by
      unfold tsB at hb
      rw [hT] at hb
      simpa using hb
    refine (pt_truth h2 (test_of hp)).imp fun σ H Q ⟨ρ, M, F, ι, R, S, p⟩ => ?_
    have e1 : ztst Φ T e ρ M = (zev Φ T e ρ M).bnd fun d M9 => _root_.L2.Dv.R.of (truD M9 d) M9 := by
      unfold ztst
      rw [hT]
      rfl
    rw [e1] at p
    obtain ⟨ρ1, M1, F1, ι1, R1, S1, p1⟩ := step (rel := Rp W) (Wx := Wx) R S p
    refine ⟨ρ1, M1, F1, ι1, R1, S1, p1.imp fun v H2 ⟨M2, F2, ι2, d, R2, S2, g2, r2, p2⟩ => ?_⟩
    cases et : truD M2 d with
    | none => rw [et] at p2; exact p2.elim
    | some b =>
      rw [et] at p2
      exact ⟨b, tru_v hK R2 r2 et, p2 _ _ _ _ R2 Grow.refl rfl⟩
/-- what is walked, by its value -/
theorem wlk_of {Wx : WX} {X : Cx} (hK : X.K = W.K) {e : E} {x t : Expr} (h1 : isIt e = true → PI X t x (tG W Wx (relI W) (zevI Φ T e))) (h2 : PE X x (tG W Wx (Rp W) (zev Φ T e))) : PI X t x (tG W Wx (relI W) (zwlk Φ T e)) := by
  cases hT : isIt e with
  | true =>
    have e1 : zwlk Φ T e = zevI Φ T e := by
      funext ρ M
      unfold zwlk
      rw [hT]
      rfl
    rw [e1]
    exact h1 hT
  | false =>
    refine (pi_val h2).imp fun σ H Q ⟨ρ, M, F, ι, R, S, p⟩ => ?_
    have e1 : zwlk Φ T e ρ M = (zev Φ T e ρ M).bnd fun d M9 => _root_.L2.Dv.R.of (itD M9 d) M9 := by
      unfold zwlk
      rw [hT]
      rfl
    rw [e1] at p
    obtain ⟨ρ1, M1, F1, ι1, R1, S1, p1⟩ := step (rel := Rp W) (Wx := Wx) R S p
    refine ⟨ρ1, M1, F1, ι1, R1, S1, p1.imp fun v H2 ⟨M2, F2, ι2, d, R2, S2, g2, r2, p2⟩ => ?_⟩
    cases et : itD M2 d with
    | none => rw [et] at p2; exact p2.elim
    | some ds =>
      rw [et] at p2
      have fin : ∀ J, JOk W F2 ι2 J ds → Q J H2 := fun J j => p2 J _ _ _ R2 Grow.refl j
      cases r2 with
      | lst a1 a2 =>
        cases et
        exact .inr (.inl ⟨_, _, rfl, SqL.of (R2.sub _ _ a1), by rw [hK]; exact fin _ (jok_list (SqL.of a1) a2)⟩)
      | ro a1 a2 =>
        cases et
        exact .inr (.inl ⟨_, _, rfl, by rw [hK]; exact R2.sub.seq a1, by rw [hK]; exact fin _ (jok_list a1 a2)⟩)
      | tup a1 a2 =>
        cases et
        exact .inr (.inr ⟨_, _, rfl, by rw [hK]; exact Same.seqT R2.sub a1, by rw [hK]; exact fin _ (jok_tup a1 a2)⟩)
      | str y =>
        cases et
        exact .inl ⟨_, rfl, fin _ (jok_str y)⟩
      | _ => simp [itD] at et
end
end Dv
end L2
/-! Dv: expressions are run as the interpreter says -/
namespace L2
namespace Dv
open PySem PySem.Spec PyProof.Rows

section
variable {T : Tb} {Φ : Calls} {W : Wd} {k : Nat}
theorem pe_bad {X : Cx} {x : Expr} {t : TE} (h : ∀ σ H Q, ¬ t σ H Q) : PE X x t := ⟨fun _ _ σ H Q _ q => (h σ H Q q).elim⟩
theorem pe_blt {Wx : WX} {X : Cx} (O : Ok T Φ W k Wx X) (b : Bi) {x : Str} {p pos : Pos} {y : Expr} {ys : List Expr} {t : TA} (hx : x = Str.ofString b.nm) (hg : glB X.env.scope x = true) (ha : PA X (y :: ys) t)
    (he : starEach (y :: ys) X.env = (false, eval y X.env) :: starEach ys X.env) (hpl : (backTo pos (starEach ys X.env)).any (·.1) = false) : PE X (.Call (.Name x p) (y :: ys) [] pos) (tCB (rBlt W b) t) := by
  have hc := call_blt (X := X) O.K O.calm O.gd O.un b
  have hb := bi_boot b
  have hm : X.mg x = none := O.glo.bl x (by rw [hx]; cases b <;> decide)
  have hg' : Gl X x := gl_of hg
  subst hx
  cases b <;> first
    | exact pe_callB hc hg' hm hb ha (by decide) (by decide) he hpl
    | exact pe_callTy hc hg' hm hb ha (by decide) (by decide) he hpl
theorem Pst.bad' {α β : Type} {Wx : WXH} {rel : Hp → List Addr → β → α → Prop} {Q : β → Hp → Prop} {M : Mem} {F H : Hp} {ι : List Addr} : ¬ Pst W Wx rel Q R.bad M F H ι := id
theorem tB_of {Wx : WXH} {Q : Bool → Hp → Prop} {o : Option Bool} {M : Mem} {F H : Hp} {ι : List Addr} (R : Rel W M F H ι) (p : Pst W Wx eqB Q (_root_.L2.Dv.R.of o M) M F H ι) : ∃ b, o = some b ∧ Q b H := by
  cases o with
  | none => exact p.elim
  | some b => exact ⟨b, rfl, p _ _ _ _ R Grow.refl rfl⟩
theorem vB_of {Wx : WXH} {Q : VK} {o : Option Bool} {M : Mem} {F H : Hp} {ι : List Addr} (R : Rel W M F H ι) (p : Pst W Wx (Rp W) Q (_root_.L2.Dv.R.of (o.map .bl) M) M F H ι) : ∃ b, o = some b ∧ Q (.bl b) H := by
  cases o with
  | none => exact p.elim
  | some b => exact ⟨b, rfl, p _ _ _ _ R Grow.refl (.bl b)⟩
/-- what a method's receiver is -/
theorem rcv_ty {X : Cx} {W : Wd} {M : Mem} {F H : Hp} {ι : List Addr} (hK : X.K = W.K) (R : Rel W M F H ι) {v : V} {d : D} (r : Rp W F ι v d) :
    (rcvB .join M d = true → ∃ z, v = .str z) ∧ (rcvB .append M d = true ∨ rcvB .pop M d = true → tyV X.K "list" v H) := by
  constructor
  · intro h
    cases r with
    | str x => exact ⟨x, rfl⟩
    | _ => simp [rcvB] at h
  · intro h
    cases r with
    | @loc n a h1 =>
      have h : ∃ zxs, M[n]? = some (some (.lst zxs)) := by
        rcases h with h | h
        · simp only [rcvB] at h
          split at h
          · rename_i e; exact ⟨_, e⟩
          · cases h
        · simp only [rcvB] at h
          split at h
          · rename_i e; exact ⟨_, e⟩
          · cases h
      obtain ⟨zxs, e⟩ := h
      obtain ⟨o, q1, q2⟩ := R.has _ _ _ h1 e
      cases q2 with
      | lst q2 => exact .inl ⟨rfl, _, SqL.of q1⟩
    | _ => simp [rcvB] at h


def EOk (T : Tb) (Φ : Calls) (W : Wd) (k : Nat) (e : E) : Prop := ∀ (X : Cx) (Wx : WX), Ok T Φ W k Wx X → ∀ {x : Expr}, chE T X.N X.env.scope e x = true → PE X x (tG W Wx (Rp W) (zev Φ T e))
def TOk (T : Tb) (Φ : Calls) (W : Wd) (k : Nat) (e : E) : Prop := ∀ (X : Cx) (Wx : WX), Ok T Φ W k Wx X → ∀ {x : Expr}, chE T X.N X.env.scope e x = true → isT e = true → PT X x (tG W Wx eqB (zevT Φ T e))
def IOk (T : Tb) (Φ : Calls) (W : Wd) (k : Nat) (e : E) : Prop := ∀ (X : Cx) (Wx : WX), Ok T Φ W k Wx X → ∀ {x : Expr}, chE T X.N X.env.scope e x = true → isIt e = true → ∀ {q : Bool} {N : List Str} {sc : Scope} (tg : Tg) (t : Expr), itB e tg = true → chT q N sc tg t = true → PI X t x (tG W Wx (relI W) (zevI Φ T e))
def BOk (T : Tb) (Φ : Calls) (W : Wd) (k : Nat) (es : List E) : Prop := ∀ (c : Bool) (X : Cx) (Wx : WX), Ok T Φ W k Wx X → ∀ {ys : List Expr} {o : BoolOp} {pos : Pos}, chEs T X.N X.env.scope es ys = true → (o = if c then BoolOp.And else BoolOp.Or) → PE X (.BoolOp o ys pos) (tG W Wx (Rp W) (zevB Φ T c es))
def TsOk (T : Tb) (Φ : Calls) (W : Wd) (k : Nat) (es : List E) : Prop := ∀ (c : Bool) (X : Cx) (Wx : WX), Ok T Φ W k Wx X → ∀ {ys : List Expr} {o : BoolOp} {pos : Pos}, chEs T X.N X.env.scope es ys = true → tsBs es ys = true → (o = if c then BoolOp.And else BoolOp.Or) → PW X (.BoolOp o ys pos) (tG W Wx eqB (zevTs Φ T c es))
def FOk (T : Tb) (Φ : Calls) (W : Wd) (k : Nat) (es : List E) : Prop := ∀ (X : Cx) (Wx : WX), Ok T Φ W k Wx X → ∀ {ys : List Expr}, chEs T X.N X.env.scope es ys = true → tsBs es ys = true → PTs X ys (tG W Wx eqB (zevF Φ T es))
def AOk (T : Tb) (Φ : Calls) (W : Wd) (k : Nat) (es : List E) : Prop := ∀ (X : Cx) (Wx : WX), Ok T Φ W k Wx X → ∀ {ys : List Expr}, chEs T X.N X.env.scope es ys = true → PA X ys (tG W Wx (Rps W) (zevs Φ T es))
def OOk (T : Tb) (Φ : Calls) (W : Wd) (k : Nat) (o : Option E) : Prop := ∀ (X : Cx) (Wx : WX), Ok T Φ W k Wx X → ∀ {x : Option Expr}, chO T X.N X.env.scope o x = true → PO X x (tG W Wx eqO (zevO Φ T o))

theorem e_var (i : Nat) : EOk T Φ W k (.var i) := fun X Wx O x h => by
  simp only [chE] at h
  split at h
  · rename_i y e
    obtain ⟨pos, rfl⟩ := asName_eq e
    simp only [Bool.and_eq_true, decide_eq_true_eq] at h
    obtain ⟨h1, h2, h3⟩ := okn_of h.2
    refine (pe_var h.1.1 (vis_of h.1.2) h1 h2).imp fun σ H Q ⟨ρ, M, F, ι, R, S, p⟩ => ?_
    simp only [zev] at p
    split at p
    · rename_i d e
      obtain ⟨v, e1, r⟩ := S.at_ i d e
      exact ⟨v, e1, p _ _ _ _ R Grow.refl r⟩
    · exact p.elim
  · cases h
theorem e_cst (c : Const) : EOk T Φ W k (.cst c) := fun X Wx O x h => by
  simp only [chE] at h
  split at h
  · rename_i d e
    obtain ⟨j, pos, rfl⟩ := asConst_eq e
    simp only [decide_eq_true_eq] at h
    subst h
    cases c with
    | none => exact pe_non.imp fun σ H Q ⟨ρ, M, F, ι, R, S, p⟩ => p _ _ _ _ R Grow.refl .non
    | bool b => exact pe_bl.imp fun σ H Q ⟨ρ, M, F, ι, R, S, p⟩ => p _ _ _ _ R Grow.refl (.bl b)
    | int i => exact pe_int.imp fun σ H Q ⟨ρ, M, F, ι, R, S, p⟩ => p _ _ _ _ R Grow.refl (.int i)
    | str y => exact pe_str.imp fun σ H Q ⟨ρ, M, F, ι, R, S, p⟩ => p _ _ _ _ R Grow.refl (.str y)
    | _ => exact pe_bad fun σ H Q ⟨ρ, M, F, ι, R, S, p⟩ => p
  · cases h
theorem e_glo (g : Nat) : EOk T Φ W k (.glo g) := fun X Wx O x h => by
  simp only [chE] at h
  split at h
  · rename_i y e
    obtain ⟨pos, rfl⟩ := asName_eq e
    simp only [Bool.and_eq_true] at h
    obtain ⟨⟨h1, h2⟩, h3⟩ := h
    cases eg : T.gl g with
    | none => rw [eg] at h1; cases h1
    | some q =>
      obtain ⟨z, d⟩ := q
      rw [eg] at h1
      simp only [decide_eq_true_eq] at h1
      subst h1
      obtain ⟨u, v, hm, ru, rd⟩ := O.glo.gl g _ _ eg
      refine (pe_glob (gl_of h2) hm ru (okn_of h3).1).imp fun σ H Q ⟨ρ, M, F, ι, R, S, p⟩ => ?_
      simp only [zev, eg] at p
      have rd' : Rp W F ι v d := rd.mono (fun _ _ z => by cases z) (fun n a z => by simp at z)
      exact p _ _ _ _ R Grow.refl rd'
  · cases h
theorem e_bop {op : Operator} {a b : E} (ia : EOk T Φ W k a) (ib : EOk T Φ W k b) : EOk T Φ W k (.bop op a b) := fun X Wx O x h => by
  simp only [chE] at h
  split at h
  · rename_i o y z e
    obtain ⟨pos, rfl⟩ := asBin_eq e
    simp only [Bool.and_eq_true, decide_eq_true_eq] at h
    obtain ⟨⟨rfl, h1⟩, h2⟩ := h
    refine (pe_op (op_bop O.K op) (ia X Wx O h1) (ib X Wx O h2)).imp fun σ H Q ⟨ρ, M, F, ι, R, S, p⟩ => ?_
    simp only [zev] at p
    obtain ⟨ρ1, M1, F1, ι1, R1, S1, p1⟩ := step (rel := Rp W) (Wx := Wx) R S p
    refine ⟨ρ1, M1, F1, ι1, R1, S1, p1.imp fun v H2 ⟨M2, F2, ι2, d, R2, S2, g2, r2, p2⟩ => ?_⟩
    obtain ⟨ρ3, M3, F3, ι3, R3, S3, p3⟩ := step (rel := Rp W) (Wx := Wx) R2 S2 p2
    refine ⟨ρ3, M3, F3, ι3, R3, S3, p3.imp fun v2 H4 ⟨M4, F4, ι4, d4, R4, S4, g4, r4, p4⟩ => ?_⟩
    exact ⟨M4, F4, ι4, d, d4, R4, r2.mono g4.f g4.i, r4, Pok.of p4⟩
  · cases h
theorem e_neg {a : E} (ia : EOk T Φ W k a) : EOk T Φ W k (.neg a) := fun X Wx O x h => by
  simp only [chE] at h
  split at h
  · rename_i o y e
    obtain ⟨pos, rfl⟩ := asUn_eq e
    simp only [Bool.and_eq_true, decide_eq_true_eq] at h
    obtain ⟨rfl, h⟩ := h
    refine (pe_un un_neg (ia X Wx O h)).imp fun σ H Q ⟨ρ, M, F, ι, R, S, p⟩ => ?_
    simp only [zev] at p
    obtain ⟨ρ1, M1, F1, ι1, R1, S1, p1⟩ := step (rel := Rp W) (Wx := Wx) R S p
    refine ⟨ρ1, M1, F1, ι1, R1, S1, p1.imp fun v H2 ⟨M2, F2, ι2, d, R2, S2, g2, r2, p2⟩ => ?_⟩
    cases r2 with
    | int i => exact ⟨i, rfl, p2 _ _ _ _ R2 Grow.refl (.int _)⟩
    | _ => exact p2.elim
  · cases h
theorem e_boo {c : Bool} {es : List E} (i : BOk T Φ W k es) : EOk T Φ W k (.boo c es) := fun X Wx O x h => by
  simp only [chE] at h
  split at h
  · rename_i o ys e
    obtain ⟨pos, rfl⟩ := asBool_eq e
    simp only [Bool.and_eq_true, decide_eq_true_eq] at h
    obtain ⟨⟨h1, h2⟩, h3⟩ := h
    exact (i c X Wx O h2 h1).imp fun σ H Q p => by simpa only [zev] using p
  · cases h
theorem e_not {a : E} (ia : EOk T Φ W k a) : EOk T Φ W k (.not a) := fun X Wx O x h => by
  simp only [chE] at h
  split at h
  · rename_i o y e
    obtain ⟨pos, rfl⟩ := asUn_eq e
    simp only [Bool.and_eq_true, decide_eq_true_eq] at h
    obtain ⟨⟨rfl, h⟩, _⟩ := h
    refine (pe_notT (ia X Wx O h)).imp fun σ H Q ⟨ρ, M, F, ι, R, S, p⟩ => ?_
    simp only [zev] at p
    obtain ⟨ρ1, M1, F1, ι1, R1, S1, p1⟩ := step (rel := Rp W) (Wx := Wx) R S p
    refine ⟨ρ1, M1, F1, ι1, R1, S1, p1.imp fun v H2 ⟨M2, F2, ι2, d, R2, S2, g2, r2, p2⟩ => ?_⟩
    cases et : truD M2 d with
    | none => rw [et] at p2; exact p2.elim
    | some b =>
      rw [et] at p2
      exact ⟨b, tru_v O.K R2 r2 et, p2 _ _ _ _ R2 Grow.refl (.bl _)⟩
  · cases h
theorem e_cmp {op : CmpOp} {a b : E} (ia : EOk T Φ W k a) (ib : EOk T Φ W k b) : EOk T Φ W k (.cmp a op b) := fun X Wx O x h => by
  simp only [chE] at h
  split at h
  · rename_i y o z e
    obtain ⟨pos, rfl⟩ := asCmp_eq e
    simp only [Bool.and_eq_true, decide_eq_true_eq] at h
    obtain ⟨⟨⟨rfl, h1⟩, h2⟩, h3⟩ := h
    refine (pe_cmpR (op_cmp O.K O.un op) (ia X Wx O h1) (ib X Wx O h2) (in_of h3)).imp fun σ H Q ⟨ρ, M, F, ι, R, S, p⟩ => ?_
    simp only [zev] at p
    obtain ⟨ρ1, M1, F1, ι1, R1, S1, p1⟩ := step (rel := Rp W) (Wx := Wx) R S p
    refine ⟨ρ1, M1, F1, ι1, R1, S1, p1.imp fun v H2 ⟨M2, F2, ι2, d, R2, S2, g2, r2, p2⟩ => ?_⟩
    obtain ⟨ρ3, M3, F3, ι3, R3, S3, p3⟩ := step (rel := Rp W) (Wx := Wx) R2 S2 p2
    refine ⟨ρ3, M3, F3, ι3, R3, S3, p3.imp fun v2 H4 ⟨M4, F4, ι4, d4, R4, S4, g4, r4, p4⟩ => ?_⟩
    obtain ⟨c, e1, q⟩ := vB_of R4 p4
    exact ⟨M4, F4, ι4, d, d4, c, R4, r2.mono g4.f g4.i, r4, e1, q⟩
  · cases h
theorem t_cmp {op : CmpOp} {a b : E} (ia : EOk T Φ W k a) (ib : EOk T Φ W k b) : TOk T Φ W k (.cmp a op b) := fun X Wx O x h _ => by
  simp only [chE] at h
  split at h
  · rename_i y o z e
    obtain ⟨pos, rfl⟩ := asCmp_eq e
    simp only [Bool.and_eq_true, decide_eq_true_eq] at h
    obtain ⟨⟨⟨rfl, h1⟩, h2⟩, h3⟩ := h
    refine (pt_cmpR (op_cmp O.K O.un op) (ia X Wx O h1) (ib X Wx O h2) (in_of h3)).imp fun σ H Q ⟨ρ, M, F, ι, R, S, p⟩ => ?_
    simp only [zevT] at p
    obtain ⟨ρ1, M1, F1, ι1, R1, S1, p1⟩ := step (rel := Rp W) (Wx := Wx) R S p
    refine ⟨ρ1, M1, F1, ι1, R1, S1, p1.imp fun v H2 ⟨M2, F2, ι2, d, R2, S2, g2, r2, p2⟩ => ?_⟩
    obtain ⟨ρ3, M3, F3, ι3, R3, S3, p3⟩ := step (rel := Rp W) (Wx := Wx) R2 S2 p2
    refine ⟨ρ3, M3, F3, ι3, R3, S3, p3.imp fun v2 H4 ⟨M4, F4, ι4, d4, R4, S4, g4, r4, p4⟩ => ?_⟩
    obtain ⟨c, e1, q⟩ := tB_of R4 p4
    exact ⟨M4, F4, ι4, d, d4, c, R4, r2.mono g4.f g4.i, r4, e1, c, rfl, q⟩
  · cases h
theorem e_chn {o1 o2 : CmpOp} {a b c : E} (ia : EOk T Φ W k a) (ib : EOk T Φ W k b) (ic : EOk T Φ W k c) : EOk T Φ W k (.chn a o1 b o2 c) := fun X Wx O x h => by
  simp only [chE] at h
  split at h
  · rename_i y q1 z q2 w e
    obtain ⟨pos, rfl⟩ := asChn_eq e
    simp only [Bool.and_eq_true, decide_eq_true_eq] at h
    obtain ⟨⟨⟨⟨⟨rfl, rfl⟩, h1⟩, h2⟩, h3⟩, h4⟩ := h
    refine (pe_chain (op_cmp O.K O.un o1) (op_cmp O.K O.un o2) (ia X Wx O h1) (ib X Wx O h2) (ic X Wx O h3) (last_of h4)).imp fun σ H Q ⟨ρ, M, F, ι, R, S, p⟩ => ?_
    simp only [zev] at p
    obtain ⟨ρ1, M1, F1, ι1, R1, S1, p1⟩ := step (rel := Rp W) (Wx := Wx) R S p
    refine ⟨ρ1, M1, F1, ι1, R1, S1, p1.imp fun v H2 ⟨M2, F2, ι2, d, R2, S2, g2, r2, p2⟩ => ?_⟩
    obtain ⟨ρ3, M3, F3, ι3, R3, S3, p3⟩ := step (rel := Rp W) (Wx := Wx) R2 S2 p2
    refine ⟨ρ3, M3, F3, ι3, R3, S3, p3.imp fun v2 H4 ⟨M4, F4, ι4, d4, R4, S4, g4, r4, p4⟩ => ?_⟩
    cases ec : cmpD M4 o1 d d4 with
    | none => rw [ec] at p4; exact p4.elim
    | some k1 =>
      rw [ec] at p4
      refine ⟨M4, F4, ι4, d, d4, k1, R4, r2.mono g4.f g4.i, r4, ec, k1, rfl, ?_⟩
      cases k1 with
      | false =>
        rw [if_neg Bool.false_ne_true]
        exact p4 _ _ _ _ R4 Grow.refl (.bl false)
      | true =>
        rw [if_pos rfl]
        obtain ⟨ρ5, M5, F5, ι5, R5, S5, p5⟩ := step (rel := Rp W) (Wx := Wx) R4 S4 p4
        refine ⟨ρ5, M5, F5, ι5, R5, S5, p5.imp fun v3 H6 ⟨M6, F6, ι6, d6, R6, S6, g6, r6, p6⟩ => ?_⟩
        obtain ⟨c', e1, q⟩ := vB_of R6 p6
        exact ⟨M6, F6, ι6, d4, d6, c', R6, r4.mono g6.f g6.i, r6, e1, q⟩
  · cases h
theorem t_chn {o1 o2 : CmpOp} {a b c : E} (ia : EOk T Φ W k a) (ib : EOk T Φ W k b) (ic : EOk T Φ W k c) : TOk T Φ W k (.chn a o1 b o2 c) := fun X Wx O x h _ => by
  simp only [chE] at h
  split at h
  · rename_i y q1 z q2 w e
    obtain ⟨pos, rfl⟩ := asChn_eq e
    simp only [Bool.and_eq_true, decide_eq_true_eq] at h
    obtain ⟨⟨⟨⟨⟨rfl, rfl⟩, h1⟩, h2⟩, h3⟩, h4⟩ := h
    refine (pt_chain (op_cmp O.K O.un o1) (op_cmp O.K O.un o2) (ia X Wx O h1) (ib X Wx O h2) (ic X Wx O h3) (last_of h4)).imp fun σ H Q ⟨ρ, M, F, ι, R, S, p⟩ => ?_
    simp only [zevT] at p
    obtain ⟨ρ1, M1, F1, ι1, R1, S1, p1⟩ := step (rel := Rp W) (Wx := Wx) R S p
    refine ⟨ρ1, M1, F1, ι1, R1, S1, p1.imp fun v H2 ⟨M2, F2, ι2, d, R2, S2, g2, r2, p2⟩ => ?_⟩
    obtain ⟨ρ3, M3, F3, ι3, R3, S3, p3⟩ := step (rel := Rp W) (Wx := Wx) R2 S2 p2
    refine ⟨ρ3, M3, F3, ι3, R3, S3, p3.imp fun v2 H4 ⟨M4, F4, ι4, d4, R4, S4, g4, r4, p4⟩ => ?_⟩
    cases ec : cmpD M4 o1 d d4 with
    | none => rw [ec] at p4; exact p4.elim
    | some k1 =>
      rw [ec] at p4
      refine ⟨M4, F4, ι4, d, d4, k1, R4, r2.mono g4.f g4.i, r4, ec, k1, rfl, ?_⟩
      cases k1 with
      | false =>
        rw [if_neg Bool.false_ne_true]
        exact ⟨false, rfl, p4 _ _ _ _ R4 Grow.refl rfl⟩
      | true =>
        rw [if_pos rfl]
        obtain ⟨ρ5, M5, F5, ι5, R5, S5, p5⟩ := step (rel := Rp W) (Wx := Wx) R4 S4 p4
        refine ⟨ρ5, M5, F5, ι5, R5, S5, p5.imp fun v3 H6 ⟨M6, F6, ι6, d6, R6, S6, g6, r6, p6⟩ => ?_⟩
        obtain ⟨c', e1, q⟩ := tB_of R6 p6
        exact ⟨M6, F6, ι6, d4, d6, c', R6, r4.mono g6.f g6.i, r6, e1, c', rfl, q⟩
  · cases h
theorem e_ife {t a b : E} (tt : TOk T Φ W k t) (it : EOk T Φ W k t) (ia : EOk T Φ W k a) (ib : EOk T Φ W k b) : EOk T Φ W k (.ife t a b) := fun X Wx O x h => by
  simp only [chE] at h
  split at h
  · rename_i y z w e
    obtain ⟨pos, rfl⟩ := asIf_eq e
    simp only [Bool.and_eq_true] at h
    obtain ⟨⟨⟨⟨⟨h1, h2⟩, h3⟩, h4⟩, h5⟩, h6⟩ := h
    refine (pe_ifExp (tst_of O.K h4 (fun ht => tt X Wx O h1 ht) (it X Wx O h1)) (ia X Wx O h2) (ib X Wx O h3)).imp fun σ H Q ⟨ρ, M, F, ι, R, S, p⟩ => ?_
    simp only [zev] at p
    obtain ⟨ρ1, M1, F1, ι1, R1, S1, p1⟩ := step (rel := eqB) (Wx := Wx) (r := ztst Φ T t) R S p
    refine ⟨ρ1, M1, F1, ι1, R1, S1, p1.imp fun v H2 ⟨M2, F2, ι2, d, R2, S2, g2, r2, p2⟩ => ?_⟩
    cases r2
    cases v with
    | true => rw [if_pos rfl] at p2 ⊢; exact ⟨ρ, M2, F2, ι2, R2, S2, p2⟩
    | false => rw [if_neg Bool.false_ne_true] at p2 ⊢; exact ⟨ρ, M2, F2, ι2, R2, S2, p2⟩
  · cases h
theorem e_tup {es : List E} (i : AOk T Φ W k es) : EOk T Φ W k (.tup es) := fun X Wx O x h => by
  simp only [chE] at h
  split at h
  · rename_i ys e
    obtain ⟨j, pos, rfl⟩ := asTup_eq e
    refine (pe_tup (i X Wx O h)).imp fun σ H Q ⟨ρ, M, F, ι, R, S, p⟩ => ?_
    simp only [zev] at p
    obtain ⟨ρ1, M1, F1, ι1, R1, S1, p1⟩ := step (rel := Rps W) (Wx := Wx) R S p
    refine ⟨ρ1, M1, F1, ι1, R1, S1, p1.imp fun vs H2 ⟨M2, F2, ι2, ds, R2, S2, g2, r2, p2⟩ => ?_⟩
    split at p2
    · rename_i hl
      exact ⟨by rw [r2.length]; exact hl, Pok.newT (M := M2) (ι := ι2) p2 R2 r2⟩
    · exact p2.elim
  · cases h
theorem e_lst {fz : Bool} {es : List E} (i : AOk T Φ W k es) : EOk T Φ W k (.lst fz es) := fun X Wx O x h => by
  simp only [chE] at h
  split at h
  · rename_i ys e
    obtain ⟨pos, rfl⟩ := asLst_eq e
    refine (pe_lst (i X Wx O h)).imp fun σ H Q ⟨ρ, M, F, ι, R, S, p⟩ => ?_
    simp only [zev] at p
    obtain ⟨ρ1, M1, F1, ι1, R1, S1, p1⟩ := step (rel := Rps W) (Wx := Wx) R S p
    refine ⟨ρ1, M1, F1, ι1, R1, S1, p1.imp fun vs H2 ⟨M2, F2, ι2, ds, R2, S2, g2, r2, p2⟩ => ?_⟩
    exact mkL_end R2 r2 p2
  · cases h
theorem e_dis {fz : Bool} {ks vs : List E} : EOk T Φ W k (.dis fz ks vs) := fun X Wx O x h => by
  simp only [chE, Bool.and_eq_true, List.isEmpty_iff] at h
  obtain ⟨⟨rfl, rfl⟩, h⟩ := h
  obtain ⟨pos, rfl⟩ := asDict0_eq h
  refine pe_dnewK.imp fun σ H Q ⟨ρ, M, F, ι, R, S, p⟩ => ?_
  simp only [zev] at p
  exact fun q hq => p _ _ _ ι (R.frozen hq) (Grow.frozen R hq) (.dic upd_same .nil .nil)
theorem e_lc {fz : Bool} {elt : E} {tg : Tg} {it : E} {ifs : List E} {own : List Nat} (jt : IOk T Φ W k it) (et : EOk T Φ W k it) (fs : FOk T Φ W k ifs) (ee : EOk T Φ W k elt) : EOk T Φ W k (.lc fz elt tg it ifs own) := fun X Wx O x h => by
  simp only [chE] at h
  split at h
  · rename_i y t i fss scope e
    obtain ⟨pos, rfl⟩ := asComp_eq e
    simp only [Bool.and_eq_true] at h
    obtain ⟨⟨⟨⟨⟨⟨⟨⟨h1, h2⟩, h3⟩, h4⟩, h5⟩, h6⟩, h7⟩, h8⟩, h9⟩ := h
    have hix : ∀ j ∈ tg.ix, j ∈ own := fun j hj => by
      have := List.all_eq_true.mp h5 j hj
      simpa using this
    have hown : (ownN X.N own).map (·.2) = own := by
      unfold ownN
      rw [List.map_map]
      show own.map (fun i => i) = own
      exact List.map_id' own
    have z := pe_lc (X := X) (elt := y) (tg := t) (iter := i) (ifs := fss) (scope := scope) (own := ownN X.N own) (pos := pos) (wi := tG W Wx (relI W) (zwlk Φ T it)) (g := gT W tg) (tt := tG W WX0 eqB (zevF Φ T ifs)) (te := tG W WX0 (Rp W) (zev Φ T elt)) O.calm O.nd
      (wlk_of O.K (fun hi => jt X Wx O h2 hi tg t h8 h4) (et X Wx O h2)) (blkOk_by h1)
      (fun s H C cl fp => pg_T (X := X.blk s H scope (compEnvC scope cl C X.env) fp) O.K O.nd O.calm (fun z => by cases z) tg h4)
      (fun s H C cl fp => fs _ WX0 (O.blk s H scope C cl fp) h6 h7)
      (fun s H C cl fp => ee _ WX0 (O.blk s H scope C cl fp) h9) (set_of h3)
    rw [hown] at z
    refine z.imp fun σ H Q ⟨ρ, M, F, ι, R, S, p⟩ => ?_
    simp only [zev] at p
    obtain ⟨ρ1, M1, F1, ι1, R1, S1, p1⟩ := step (rel := relI W) (Wx := Wx) (r := zwlk Φ T it) R S p
    refine ⟨ρ1, M1, F1, ι1, R1, S1, p1.imp fun J H2 ⟨M2, F2, ι2, ds, R2, S2, g2, r2, p2⟩ => ?_⟩
    exact lc_read hix R2 S2 r2 p2
  · cases h
theorem e_call {f : Nat} {es : List E} (i : AOk T Φ W k es) : EOk T Φ W k (.call f es) := fun X Wx O x h => by
  simp only [chE] at h
  split at h
  · rename_i z ys e
    obtain ⟨p0, pos, rfl⟩ := asCall_eq e
    simp only [Bool.and_eq_true] at h
    obtain ⟨⟨⟨⟨h1, h2⟩, h3⟩, h4⟩, h5⟩ := h
    cases ef : T.fn f with
    | none => rw [ef] at h1; cases h1
    | some fe =>
      rw [ef] at h1
      simp only [decide_eq_true_eq] at h1
      subst h1
      obtain ⟨a, fd, q1, q2, q3, q4⟩ := O.glo.fn f fe ef
      rw [← O.K] at q2 q3 q4
      cases es with
      | nil => cases h4
      | cons e1 es' =>
        cases ys with
        | nil => simp [chEs] at h5
        | cons y ys =>
          have h5' := h5
          simp only [chEs, Bool.and_eq_true] at h5'
          obtain ⟨g1, g2, g3⟩ := plain_args (env := X.env) (pos := pos) h5'.2
          refine (pe_callG (E := WE Wx) q4 O.room O.gd (gl_of h2) q1 q2 q3 (fun σ => passAt O.tk σ) (i X Wx O h5) (okn_of h3).1 (star_cons (noStar_of h5'.1)) g1).imp fun σ H Q ⟨ρ, M, F, ι, R, S, p⟩ => ?_
          simp only [zev] at p
          obtain ⟨ρ1, M1, F1, ι1, R1, S1, p1⟩ := step (rel := Rps W) (Wx := Wx) R S p
          refine ⟨ρ1, M1, F1, ι1, R1, S1, p1.imp fun vs H2 ⟨M2, F2, ι2, ds, R2, S2, g2, r2, p2⟩ => ?_⟩
          exact ⟨M2, F2, ι2, ds, R2, r2, p2⟩
  · cases h
theorem e_blt {b : Bi} {es : List E} (i : AOk T Φ W k es) : EOk T Φ W k (.blt b es) := fun X Wx O x h => by
  simp only [chE] at h
  split at h
  · rename_i z ys e
    obtain ⟨p0, pos, rfl⟩ := asCall_eq e
    simp only [Bool.and_eq_true, decide_eq_true_eq] at h
    obtain ⟨⟨⟨h1, h2⟩, h4⟩, h5⟩ := h
    cases es with
    | nil => cases h4
    | cons e1 es' =>
      cases ys with
      | nil => simp [chEs] at h5
      | cons y ys =>
        have h5' := h5
        simp only [chEs, Bool.and_eq_true] at h5'
        obtain ⟨g1, g2, g3⟩ := plain_args (env := X.env) (pos := pos) h5'.2
        refine (pe_blt O b h1 h2 (i X Wx O h5) (star_cons (noStar_of h5'.1)) g1).imp fun σ H Q ⟨ρ, M, F, ι, R, S, p⟩ => ?_
        simp only [zev] at p
        obtain ⟨ρ1, M1, F1, ι1, R1, S1, p1⟩ := step (rel := Rps W) (Wx := Wx) R S p
        refine ⟨ρ1, M1, F1, ι1, R1, S1, p1.imp fun vs H2 ⟨M2, F2, ι2, ds, R2, S2, g2, r2, p2⟩ => ?_⟩
        exact ⟨_, M2, F2, ι2, ds, R2, r2, p2⟩
  · cases h
end
end Dv
end L2
/-! Dv: expressions, the other half -/
namespace L2
namespace Dv
open PySem PySem.Spec PyProof.Rows

section
variable {T : Tb} {Φ : Calls} {W : Wd} {k : Nat}
/-! ### methods -/
theorem mth_run {X : Cx} {Wx : WX} {m : Me} {o : E} {es : List E} (hK : X.K = W.K) (Ty : String) (hT : ∀ (M : Mem) (F H : Hp) (ι : List Addr) (v : V) (d : D), Rel W M F H ι → Rp W F ι v d → rcvB m M d = true → tyV X.K Ty v H)
    (σ : L2.St) (H : Hp) (Q : VK) : tG W Wx (Rp W) (zev Φ T (.mth m o es)) σ H Q → tBM X.K Ty (rMth W m) (tG W Wx (Rp W) (zev Φ T o)) (tG W Wx (Rps W) (zevs Φ T es)) σ H Q := fun ⟨ρ, M, F, ι, R, S, p⟩ => by
  simp only [zev] at p
  obtain ⟨ρ1, M1, F1, ι1, R1, S1, p1⟩ := step (rel := Rp W) (Wx := Wx) R S p
  refine ⟨ρ1, M1, F1, ι1, R1, S1, p1.imp fun v H2 ⟨M2, F2, ι2, d, R2, S2, g2, r2, p2⟩ => ?_⟩
  split at p2
  · rename_i hc
    refine ⟨hT _ _ _ _ _ _ R2 r2 hc, ?_⟩
    obtain ⟨ρ3, M3, F3, ι3, R3, S3, p3⟩ := step (rel := Rps W) (Wx := Wx) R2 S2 p2
    exact ⟨ρ3, M3, F3, ι3, R3, S3, p3.imp fun vs H4 ⟨M4, F4, ι4, ds, R4, S4, g4, r4, p4⟩ => ⟨_, M4, F4, ι4, d, ds, R4, r2.mono g4.f g4.i, r4, p4⟩⟩
  · exact p2.elim
theorem mth_run0 {X : Cx} {Wx : WX} {m : Me} {o : E} (hK : X.K = W.K) (Ty : String) (hT : ∀ (M : Mem) (F H : Hp) (ι : List Addr) (v : V) (d : D), Rel W M F H ι → Rp W F ι v d → rcvB m M d = true → tyV X.K Ty v H)
    (σ : L2.St) (H : Hp) (Q : VK) : tG W Wx (Rp W) (zev Φ T (.mth m o [])) σ H Q → tBM0 X.K Ty (rMth W m) (tG W Wx (Rp W) (zev Φ T o)) σ H Q := fun ⟨ρ, M, F, ι, R, S, p⟩ => by
  simp only [zev, zevs] at p
  obtain ⟨ρ1, M1, F1, ι1, R1, S1, p1⟩ := step (rel := Rp W) (Wx := Wx) R S p
  refine ⟨ρ1, M1, F1, ι1, R1, S1, p1.imp fun v H2 ⟨M2, F2, ι2, d, R2, S2, g2, r2, p2⟩ => ?_⟩
  split at p2
  · rename_i hc
    exact ⟨hT _ _ _ _ _ _ R2 r2 hc, _, M2, F2, ι2, d, [], R2, r2, .nil, p2⟩
  · exact p2.elim
theorem mth_few {N : List Str} {sc : Scope} {env : Env} {pos : Pos} {es : List E} {ys : List Expr} (h5 : chEs T N sc es ys = true) (h6 : es.length < 20) :
    ((backTo pos (starEach ys env)).all (fun x => !x.1) && (backToKw pos (keywordEach [] env)).all (fun x => x.1.isSome)
      && decide (ys.length + ([] : List Keyword).length + (if ([] : List Keyword).isEmpty then 0 else 1) < 30)) = true := by
  obtain ⟨_, g2, g3⟩ := plain_args (env := env) (pos := pos) h5
  rw [g2]
  have : decide (ys.length + ([] : List Keyword).length + (if ([] : List Keyword).isEmpty then 0 else 1) < 30) = true := by
    apply decide_eq_true
    simp only [List.length_nil, List.isEmpty_nil, if_true]
    omega
  rw [this]
  rfl
theorem e_mth {m : Me} {o : E} {es : List E} (io : EOk T Φ W k o) (i : AOk T Φ W k es) : EOk T Φ W k (.mth m o es) := fun X Wx O x h => by
  simp only [chE] at h
  split at h
  · rename_i y n ys e
    obtain ⟨ap, pos, rfl, hl⟩ := asMeth_eq e
    simp only [Bool.and_eq_true, decide_eq_true_eq] at h
    obtain ⟨⟨⟨⟨rfl, h3⟩, h4⟩, h5⟩, h6⟩ := h
    have hb : attributeBase y (Str.ofString m.nm) X.env (eval y X.env) = eval y X.env := sup_of h4
    have ho := io X Wx O h3
    have ha := i X Wx O h5
    cases es with
    | nil =>
      cases ys with
      | cons _ _ => simp [chEs] at h5
      | nil =>
        cases m <;> first
          | (exfalso; revert h6; decide)
          | exact (pe_bm0 PySem.F.plainAttrs_list PySem.F.slot_list_pop PySem.F.type_list_pop mt_pops ho hb hl).imp (mth_run0 O.K "list" fun M F H ι v d R r c => (rcv_ty O.K R r).2 (.inr c))
    | cons e1 es' =>
      cases ys with
      | nil => simp [chEs] at h5
      | cons y0 ys' =>
        have hlen : (e1 :: es').length < 20 := by
          cases es' with
          | nil => simp
          | cons _ _ => exfalso; revert h6; cases m <;> simp [mthB]
        have h5' := h5
        simp only [chEs, Bool.and_eq_true] at h5'
        obtain ⟨g1, _, _⟩ := plain_args (env := X.env) (pos := pos) h5'.2
        have few := mth_few (env := X.env) (pos := pos) h5 hlen
        cases m <;> first
          | (exfalso; revert h6; cases es' <;> simp [mthB]; done)
          | exact (pe_bm PySem.F.plainAttrs_list PySem.F.slot_list_append PySem.F.type_list_append mt_app ho ha hb few hl (star_cons (noStar_of h5'.1)) g1).imp (mth_run O.K "list" fun M F H ι v d R r c => (rcv_ty O.K R r).2 (.inl c))
          | exact (pe_bm PySem.F.plainAttrs_list PySem.F.slot_list_pop PySem.F.type_list_pop mt_pops ho ha hb few hl (star_cons (noStar_of h5'.1)) g1).imp (mth_run O.K "list" fun M F H ι v d R r c => (rcv_ty O.K R r).2 (.inr c))
          | exact (pe_bm PySem.F.plainAttrs_str PySem.F.slot_str_join PySem.F.type_str_join (mt_joinW O.K) ho ha hb few hl (star_cons (noStar_of h5'.1)) g1).imp (mth_run O.K "str" fun M F H ι v d R r c => by
              obtain ⟨z, rfl⟩ := (rcv_ty O.K R r).1 c
              exact rfl)
  · cases h
/-! ### isinstance, subscripts -/
theorem e_isi {a : E} {t : Ty} (ia : EOk T Φ W k a) : EOk T Φ W k (.isi a t) := fun X Wx O x h => by
  cases t with
  | own c => simp [chE] at h
  | bt n =>
    simp only [chE] at h
    split at h
    · rename_i y z t e
      obtain ⟨p0, pos, rfl⟩ := asCall_eq e
      simp only [Bool.and_eq_true, decide_eq_true_eq] at h
      obtain ⟨⟨rfl, h2⟩, h3⟩ := h
      split at h3
      · rename_i t' e2
        obtain ⟨pt, rfl⟩ := asName_eq e2
        simp only [Bool.and_eq_true, decide_eq_true_eq] at h3
        obtain ⟨⟨⟨⟨⟨g1, g2⟩, g3⟩, g4⟩, g5⟩, g6⟩ := h3
        have hi : X.mg "isinstance" = none := O.glo.bl _ (by decide)
        have ht : X.mg t' = none := O.glo.bl _ (by simpa using g4)
        have pa : PA X [z, .Name t' pt] (tCons (tG W Wx (Rp W) (zev Φ T a)) (tCons (tC (.ty n)) tNil)) := pa_cons (ia X Wx O g6) (pa_cons (pe_bltn (gl_of g2) ht g5 rfl (okn_of g3).2.2 (okn_of g3).1) pa_nil) (star_cons (noStar_of g6))
        refine (pe_callB call_isi (gl_of h2) hi (by rfl) pa (by decide) (by decide) (star_cons (noStar_of g6)) (by rfl)).imp fun σ H Q ⟨ρ, M, F, ι, R, S, p⟩ => ?_
        simp only [zev] at p
        obtain ⟨ρ1, M1, F1, ι1, R1, S1, p1⟩ := step (rel := Rp W) (Wx := Wx) R S p
        refine ⟨ρ1, M1, F1, ι1, R1, S1, p1.imp fun v H2 ⟨M2, F2, ι2, d, R2, S2, g2, r2, p2⟩ => ?_⟩
        obtain ⟨b, e3, q⟩ := vB_of R2 p2
        unfold isiD at e3
        dsimp only at e3
        split at e3
        · rename_i tn e4
          exact ⟨v, .ty n, .type tn, .type n, b, rfl, .ty n, ty_x O.K R2 r2 e4, kit_ty e3, q⟩
        · cases e3
      · cases h3
    · cases h
theorem e_sub {a b : E} (ia : EOk T Φ W k a) (ib : EOk T Φ W k b) : EOk T Φ W k (.sub a b) := fun X Wx O x h => by
  simp only [chE] at h
  split at h
  · rename_i y z e
    obtain ⟨pos, rfl⟩ := asSub_eq e
    simp only [Bool.and_eq_true] at h
    obtain ⟨⟨h1, h2⟩, h3⟩ := h
    refine (pe_ix (ix_sub O.K) (ia X Wx O h1) (ib X Wx O h2) (sl_of h3)).imp fun σ H Q ⟨ρ, M, F, ι, R, S, p⟩ => ?_
    simp only [zev] at p
    obtain ⟨ρ1, M1, F1, ι1, R1, S1, p1⟩ := step (rel := Rp W) (Wx := Wx) R S p
    refine ⟨ρ1, M1, F1, ι1, R1, S1, p1.imp fun v H2 ⟨M2, F2, ι2, d, R2, S2, g2, r2, p2⟩ => ?_⟩
    obtain ⟨ρ3, M3, F3, ι3, R3, S3, p3⟩ := step (rel := Rp W) (Wx := Wx) R2 S2 p2
    refine ⟨ρ3, M3, F3, ι3, R3, S3, p3.imp fun v2 H4 ⟨M4, F4, ι4, d4, R4, S4, g4, r4, p4⟩ => ?_⟩
    exact ⟨M4, F4, ι4, d, d4, R4, r2.mono g4.f g4.i, r4, Pok.of p4⟩
  · cases h
theorem e_slc {o : E} {lo hi : Option E} (io : EOk T Φ W k o) (il : OOk T Φ W k lo) (ih : OOk T Φ W k hi) : EOk T Φ W k (.slc o lo hi) := fun X Wx O x h => by
  simp only [chE] at h
  split at h
  · rename_i y z e
    obtain ⟨pos, rfl⟩ := asSub_eq e
    simp only [Bool.and_eq_true] at h
    obtain ⟨h1, h2⟩ := h
    split at h2
    · rename_i l u e2
      obtain ⟨p2, rfl⟩ := asSlc_eq e2
      simp only [Bool.and_eq_true] at h2
      refine (pe_slice (sl_slc O.K) (io X Wx O h1) (il X Wx O h2.1) (ih X Wx O h2.2)).imp fun σ H Q ⟨ρ, M, F, ι, R, S, p⟩ => ?_
      simp only [zev] at p
      obtain ⟨ρ1, M1, F1, ι1, R1, S1, p1⟩ := step (rel := Rp W) (Wx := Wx) R S p
      refine ⟨ρ1, M1, F1, ι1, R1, S1, p1.imp fun v H2 ⟨M2, F2, ι2, d, R2, S2, g2, r2, p2⟩ => ?_⟩
      obtain ⟨ρ3, M3, F3, ι3, R3, S3, p3⟩ := step (rel := eqO) (Wx := Wx) R2 S2 p2
      refine ⟨ρ3, M3, F3, ι3, R3, S3, p3.imp fun v2 H4 ⟨M4, F4, ι4, d4, R4, S4, g4, r4, p4⟩ => ?_⟩
      obtain ⟨ρ5, M5, F5, ι5, R5, S5, p5⟩ := step (rel := eqO) (Wx := Wx) R4 S4 p4
      refine ⟨ρ5, M5, F5, ι5, R5, S5, p5.imp fun v3 H6 ⟨M6, F6, ι6, d6, R6, S6, g6, r6, p6⟩ => ?_⟩
      cases r4
      cases r6
      exact ⟨M6, F6, ι6, d, R6, (r2.mono g4.f g4.i).mono g6.f g6.i, Pok.of p6⟩
    · cases h2
  · cases h
theorem e_rev {o : E} (io : EOk T Φ W k o) : EOk T Φ W k (.rev o) := fun X Wx O x h => by
  simp only [chE] at h
  split at h
  · rename_i y z e
    obtain ⟨pos, rfl⟩ := asSub_eq e
    simp only [Bool.and_eq_true] at h
    obtain ⟨h1, h2⟩ := h
    obtain ⟨j, p1, p2, p3, rfl⟩ := asBack_eq h2
    refine (pe_revW (io X Wx O h1)).imp fun σ H Q ⟨ρ, M, F, ι, R, S, p⟩ => ?_
    simp only [zev] at p
    obtain ⟨ρ1, M1, F1, ι1, R1, S1, p1⟩ := step (rel := Rp W) (Wx := Wx) R S p
    refine ⟨ρ1, M1, F1, ι1, R1, S1, p1.imp fun v H2 ⟨M2, F2, ι2, d, R2, S2, g2, r2, p2⟩ => ?_⟩
    rw [O.K]
    have fin : ∀ (d : D) (zxs : List D), lstD M2 d = some zxs → Rp W F2 ι2 v d → Pst W (fun c d H' => Wx c d σ H') (Rp W) Q (.ok (.lst zxs.reverse) M2) M2 F2 H2 ι2 → (∃ a vs, v = .ref a ∧ SqL W.K H2 a vs ∧ ∀ p, H2 p = none → Q (.ref p) (upd H2 p (.lst vs.reverse))) := fun d zxs e r p => by
      obtain ⟨a, vs, rfl, h1, h2⟩ := lst_at R2 r e
      exact ⟨a, vs, rfl, SqL.of h1, Pok.newL (M := M2) (ι := ι2) p R2 h2.reverse⟩
    cases r2 with
    | tup a1 a2 => exact .inr ⟨_, _, rfl, Same.seqT R2.sub a1, Pok.newT (M := M2) (ι := ι2) p2 R2 a2.reverse⟩
    | lst a1 a2 => exact .inl (fin _ _ rfl (.lst a1 a2) p2)
    | @loc n a a1 =>
      cases el : lstD M2 (.loc n) with
      | none => simp only [el] at p2; exact p2.elim
      | some zxs => simp only [el] at p2; exact .inl (fin _ _ el (.loc a1) p2)
    | _ => exact p2.elim
  · cases h
/-! ### lists of arguments, and the rest -/
theorem a_nil : AOk T Φ W k [] := fun X Wx O ys h => by
  cases ys with
  | cons _ _ => simp [chEs] at h
  | nil => exact pa_nil.imp fun σ H Q ⟨ρ, M, F, ι, R, S, p⟩ => p [] _ _ _ R Grow.refl .nil
theorem a_cons {e : E} {es : List E} (ie : EOk T Φ W k e) (ies : AOk T Φ W k es) : AOk T Φ W k (e :: es) := fun X Wx O ys h => by
  cases ys with
  | nil => simp [chEs] at h
  | cons y ys =>
    simp only [chEs, Bool.and_eq_true] at h
    refine (pa_cons (ie X Wx O h.1) (ies X Wx O h.2) (star_cons (noStar_of h.1))).imp fun σ H Q ⟨ρ, M, F, ι, R, S, p⟩ => ?_
    have p : Pst W (fun c d H' => Wx c d σ H') (Rps W) Q ((zev Φ T e ρ M).bnd fun x M1 => (zevs Φ T es ρ M1).bnd fun zxs M2 => .ok (x :: zxs) M2) M F H ι := by
      exact p
    obtain ⟨ρ1, M1, F1, ι1, R1, S1, p1⟩ := step (rel := Rp W) (Wx := Wx) R S p
    refine ⟨ρ1, M1, F1, ι1, R1, S1, p1.imp fun v H2 ⟨M2, F2, ι2, d, R2, S2, g2, r2, p2⟩ => ?_⟩
    obtain ⟨ρ3, M3, F3, ι3, R3, S3, p3⟩ := step (rel := Rps W) (Wx := Wx) R2 S2 p2
    refine ⟨ρ3, M3, F3, ι3, R3, S3, p3.imp fun vs H4 ⟨M4, F4, ι4, ds, R4, S4, g4, r4, p4⟩ => ?_⟩
    exact p4 _ _ _ _ R4 Grow.refl (.cons (r2.mono g4.f g4.i) r4)
theorem o_none : OOk T Φ W k none := fun X Wx O x h => by
  cases x with
  | some _ => simp [chO] at h
  | none => exact po_none.imp fun σ H Q ⟨ρ, M, F, ι, R, S, p⟩ => p none _ _ _ R Grow.refl rfl
theorem o_some {e : E} (ie : EOk T Φ W k e) : OOk T Φ W k (some e) := fun X Wx O x h => by
  cases x with
  | none => simp [chO] at h
  | some y =>
    simp only [chO] at h
    refine (po_some (ie X Wx O h)).imp fun σ H Q ⟨ρ, M, F, ι, R, S, p⟩ => ?_
    simp only [zevO] at p
    obtain ⟨ρ1, M1, F1, ι1, R1, S1, p1⟩ := step (rel := Rp W) (Wx := Wx) R S p
    refine ⟨ρ1, M1, F1, ι1, R1, S1, p1.imp fun v H2 ⟨M2, F2, ι2, d, R2, S2, g2, r2, p2⟩ => ?_⟩
    cases r2 with
    | int i => exact ⟨i, rfl, p2 _ _ _ _ R2 Grow.refl rfl⟩
    | _ => exact p2.elim
theorem b_nil : BOk T Φ W k [] := fun c X Wx O ys o pos h e => pe_bad fun σ H Q ⟨ρ, M, F, ι, R, S, p⟩ => p
theorem b_one {a : E} (ia : EOk T Φ W k a) : BOk T Φ W k [a] := fun c X Wx O ys o pos h e => by
  match ys, h with
  | [y], h =>
    simp only [chEs, Bool.and_eq_true] at h
    exact (pe_one (ia X Wx O h.1)).imp fun σ H Q p => p
  | [], h => simp [chEs] at h
  | _ :: _ :: _, h => simp [chEs] at h
theorem b_cons {a b : E} {es : List E} (ia : EOk T Φ W k a) (ib : BOk T Φ W k (b :: es)) : BOk T Φ W k (a :: b :: es) := fun c X Wx O ys o pos h e => by
  match ys, h with
  | y :: z :: ys, h =>
    have h' := h
    rw [chEs, Bool.and_eq_true] at h'
    obtain ⟨h1, h2⟩ := h'
    have key : ∀ σ H Q, tG W Wx (Rp W) (zevB Φ T c (a :: b :: es)) σ H Q → tG W Wx (Rp W) (zev Φ T a) σ H fun x H1 => ∃ t, TruV X.K x H1 t ∧ if t = c then tG W Wx (Rp W) (zevB Φ T c (b :: es)) σ H1 Q else Q x H1 := fun σ H Q ⟨ρ, M, F, ι, R, S, p⟩ => by
      rw [zevB] at p
      · obtain ⟨ρ1, M1, F1, ι1, R1, S1, p1⟩ := step (rel := Rp W) (Wx := Wx) R S p
        refine ⟨ρ1, M1, F1, ι1, R1, S1, p1.imp fun v H2 ⟨M2, F2, ι2, d, R2, S2, g2, r2, p2⟩ => ?_⟩
        split at p2
        · rename_i t et
          refine ⟨t, tru_v O.K R2 r2 et, ?_⟩
          split at p2
          · rename_i e1
            rw [if_pos e1]
            exact ⟨ρ, M2, F2, ι2, R2, S2, p2⟩
          · rename_i e1
            rw [if_neg e1]
            exact p2 _ _ _ _ R2 Grow.refl r2
        · exact p2.elim
      · simp
    cases c with
    | true =>
      subst e
      refine (pe_andT (ia X Wx O h1) (ib true X Wx O (o := .And) h2 rfl)).imp fun σ H Q p => ?_
      exact key σ H Q p
    | false =>
      subst e
      refine (pe_orT (ia X Wx O h1) (ib false X Wx O (o := .Or) h2 rfl)).imp fun σ H Q p => ?_
      obtain ⟨ρ, M, F, ι, R, S, p⟩ := key σ H Q p
      refine ⟨ρ, M, F, ι, R, S, p.imp fun v H2 ⟨t, h1, h2⟩ => ⟨t, h1, ?_⟩⟩
      cases t with
      | true => rw [if_neg Bool.noConfusion] at h2; rw [if_pos rfl]; exact h2
      | false => rw [if_pos rfl] at h2; rw [if_neg Bool.noConfusion]; exact h2
  | [], h => simp [chEs] at h
  | [_], h => simp [chEs] at h
theorem x_nil : TsOk T Φ W k [] := fun c X Wx O ys o pos h hb e => ⟨fun _ _ _ σ H Q _ ⟨ρ, M, F, ι, R, S, p⟩ => (show False from p).elim⟩
theorem x_one {a : E} (ta : TOk T Φ W k a) (ia : EOk T Φ W k a) : TsOk T Φ W k [a] := fun c X Wx O ys o pos h hb e => by
  match ys, h, hb with
  | [y], h, hb =>
    simp only [chEs, Bool.and_eq_true] at h
    simp only [tsBs, Bool.and_eq_true] at hb
    have z : PT X y (tG W Wx eqB (ztst Φ T a)) := tst_of O.K hb.1 (fun ht => ta X Wx O h.1 ht) (ia X Wx O h.1)
    subst e
    cases c with
    | true => exact (pw_and1 z).imp fun σ H Q p => p
    | false => exact (pw_or1 z).imp fun σ H Q p => p
  | [], h, _ => simp [chEs] at h
  | _ :: _ :: _, h, _ => simp [chEs] at h
theorem x_cons {a b : E} {es : List E} (ta : TOk T Φ W k a) (ia : EOk T Φ W k a) (ib : TsOk T Φ W k (b :: es)) : TsOk T Φ W k (a :: b :: es) := fun c X Wx O ys o pos h hb e => by
  match ys, h, hb with
  | y :: z :: ys, h, hb =>
    rw [chEs, Bool.and_eq_true] at h
    rw [tsBs, Bool.and_eq_true] at hb
    have zz : PT X y (tG W Wx eqB (ztst Φ T a)) := tst_of O.K hb.1 (fun ht => ta X Wx O h.1 ht) (ia X Wx O h.1)
    have key : ∀ σ H Q, tG W Wx eqB (zevTs Φ T c (a :: b :: es)) σ H Q → tG W Wx eqB (ztst Φ T a) σ H fun t H1 => if t = c then tG W Wx eqB (zevTs Φ T c (b :: es)) σ H1 Q else Q t H1 := fun σ H Q ⟨ρ, M, F, ι, R, S, p⟩ => by
      rw [zevTs] at p
      · obtain ⟨ρ1, M1, F1, ι1, R1, S1, p1⟩ := step (rel := eqB) (Wx := Wx) (r := ztst Φ T a) R S p
        refine ⟨ρ1, M1, F1, ι1, R1, S1, p1.imp fun v H2 ⟨M2, F2, ι2, d, R2, S2, g2, r2, p2⟩ => ?_⟩
        cases r2
        split at p2
        · rename_i e1
          rw [if_pos e1]
          exact ⟨ρ, M2, F2, ι2, R2, S2, p2⟩
        · rename_i e1
          rw [if_neg e1]
          exact p2 _ _ _ _ R2 Grow.refl rfl
      · simp
    subst e
    cases c with
    | true =>
      refine (pw_and zz (ib true X Wx O (o := .And) h.2 hb.2 rfl)).imp fun σ H Q p => ?_
      obtain ⟨ρ, M, F, ι, R, S, p⟩ := key σ H Q p
      refine ⟨ρ, M, F, ι, R, S, p.imp fun t H2 h2 => ?_⟩
      cases t with
      | true => exact h2
      | false => rw [if_neg Bool.noConfusion] at h2; exact h2
    | false =>
      refine (pw_or zz (ib false X Wx O (o := .Or) h.2 hb.2 rfl)).imp fun σ H Q p => ?_
      obtain ⟨ρ, M, F, ι, R, S, p⟩ := key σ H Q p
      refine ⟨ρ, M, F, ι, R, S, p.imp fun t H2 h2 => ?_⟩
      cases t with
      | true => rw [if_neg Bool.noConfusion] at h2; exact h2
      | false => rw [if_pos rfl] at h2; exact h2
  | [], h, _ => simp [chEs] at h
  | [_], h, _ => simp [chEs] at h
theorem t_boo {c : Bool} {es : List E} (i : TsOk T Φ W k es) : TOk T Φ W k (.boo c es) := fun X Wx O x h _ => by
  simp only [chE] at h
  split at h
  · rename_i o ys e
    obtain ⟨pos, rfl⟩ := asBool_eq e
    simp only [Bool.and_eq_true, decide_eq_true_eq] at h
    obtain ⟨⟨h1, h2⟩, h3⟩ := h
    exact (i c X Wx O h2 h3 h1).pt.imp fun σ H Q p => by simpa only [zevT] using p
  · cases h
theorem t_not {a : E} (ta : TOk T Φ W k a) (ia : EOk T Φ W k a) : TOk T Φ W k (.not a) := fun X Wx O x h _ => by
  simp only [chE] at h
  split at h
  · rename_i o y e
    obtain ⟨pos, rfl⟩ := asUn_eq e
    simp only [Bool.and_eq_true, decide_eq_true_eq] at h
    obtain ⟨⟨rfl, h⟩, hb⟩ := h
    have z : PT X y (tG W Wx eqB (ztst Φ T a)) := tst_of O.K hb (fun ht => ta X Wx O h ht) (ia X Wx O h)
    refine (pt_not z).imp fun σ H Q ⟨ρ, M, F, ι, R, S, p⟩ => ?_
    simp only [zevT] at p
    obtain ⟨ρ1, M1, F1, ι1, R1, S1, p1⟩ := step (rel := eqB) (Wx := Wx) (r := ztst Φ T a) R S p
    refine ⟨ρ1, M1, F1, ι1, R1, S1, p1.imp fun v H2 ⟨M2, F2, ι2, d, R2, S2, g2, r2, p2⟩ => ?_⟩
    cases r2
    exact p2 _ _ _ _ R2 Grow.refl rfl
  · cases h
theorem pt_ife {X : Cx} {t a b : Expr} {pos : Pos} {tt ta tb : TT} (ht : PT X t tt) (ha : PT X a ta) (hb : PT X b tb) : PT X (.IfExp t a b pos) (fun σ H Q => tt σ H fun c H1 => if c = true then ta σ H1 Q else tb σ H1 Q) := by
  refine ⟨fun pins s σ H Q I h => ?_⟩
  refine isTrue_IfExp (thn (ht.run pins s σ H _ I h) fun c s1 ⟨H1, I1, q1⟩ => ?_)
  cases c with
  | true => exact ha.run pins s1 σ H1 Q I1 q1
  | false => exact hb.run pins s1 σ H1 Q I1 q1
theorem t_ife {t a b : E} (tt : TOk T Φ W k t) (it : EOk T Φ W k t) (ta : TOk T Φ W k a) (ia : EOk T Φ W k a) (tb : TOk T Φ W k b) (ib : EOk T Φ W k b) : TOk T Φ W k (.ife t a b) := fun X Wx O x h _ => by
  simp only [chE] at h
  split at h
  · rename_i y z w e
    obtain ⟨pos, rfl⟩ := asIf_eq e
    simp only [Bool.and_eq_true] at h
    obtain ⟨⟨⟨⟨⟨h1, h2⟩, h3⟩, h4⟩, h5⟩, h6⟩ := h
    have z1 : PT X _ (tG W Wx eqB (ztst Φ T t)) := tst_of O.K h4 (fun ht => tt X Wx O h1 ht) (it X Wx O h1)
    have z2 : PT X _ (tG W Wx eqB (ztst Φ T a)) := tst_of O.K h5 (fun ht => ta X Wx O h2 ht) (ia X Wx O h2)
    have z3 : PT X _ (tG W Wx eqB (ztst Φ T b)) := tst_of O.K h6 (fun ht => tb X Wx O h3 ht) (ib X Wx O h3)
    refine (pt_ife z1 z2 z3).imp fun σ H Q ⟨ρ, M, F, ι, R, S, p⟩ => ?_
    simp only [zevT] at p
    obtain ⟨ρ1, M1, F1, ι1, R1, S1, p1⟩ := step (rel := eqB) (Wx := Wx) (r := ztst Φ T t) R S p
    refine ⟨ρ1, M1, F1, ι1, R1, S1, p1.imp fun v H2 ⟨M2, F2, ι2, d, R2, S2, g2, r2, p2⟩ => ?_⟩
    cases r2
    cases v with
    | true => rw [if_pos rfl] at p2 ⊢; exact ⟨ρ, M2, F2, ι2, R2, S2, p2⟩
    | false => rw [if_neg Bool.false_ne_true] at p2 ⊢; exact ⟨ρ, M2, F2, ι2, R2, S2, p2⟩
  · cases h
theorem f_nil : FOk T Φ W k [] := fun X Wx O ys h hb => by
  cases ys with
  | cons _ _ => simp [chEs] at h
  | nil =>
    refine ⟨fun pins s σ H Q I q => pts_nil.run pins s σ H Q I ?_⟩
    obtain ⟨ρ, M, F, ι, R, S, p⟩ := q
    exact p true _ _ _ R Grow.refl rfl
theorem f_one {a : E} (ta : TOk T Φ W k a) (ia : EOk T Φ W k a) : FOk T Φ W k [a] := fun X Wx O ys h hb => by
  match ys, h, hb with
  | [y], h, hb =>
    simp only [chEs, Bool.and_eq_true] at h
    simp only [tsBs, Bool.and_eq_true] at hb
    have z : PT X y (tG W Wx eqB (ztst Φ T a)) := tst_of O.K hb.1 (fun ht => ta X Wx O h.1 ht) (ia X Wx O h.1)
    exact (pts_one z).imp fun σ H Q p => p
  | [], h, _ => simp [chEs] at h
  | _ :: _ :: _, h, _ => simp [chEs] at h
theorem f_more {a b : E} {es : List E} : FOk T Φ W k (a :: b :: es) := fun X Wx O ys h hb => ⟨fun _ _ σ H Q _ ⟨ρ, M, F, ι, R, S, p⟩ => (show False from p).elim⟩
/-! ### what is walked -/
theorem i_rng {es : List E} (i : AOk T Φ W k es) : IOk T Φ W k (.rng es) := fun X Wx O x h _ q0 N sc tg t hb ht => by
  simp only [chE] at h
  split at h
  · rename_i z ys e
    obtain ⟨p0, pos, rfl⟩ := asCall_eq e
    simp only [Bool.and_eq_true, decide_eq_true_eq] at h
    obtain ⟨⟨⟨rfl, h2⟩, h4⟩, h5⟩ := h
    have hm : X.mg "range" = none := O.glo.bl _ (by decide)
    have ha := i X Wx O h5
    match es, ys, h5, ha with
    | [a], [y], h5, ha =>
      simp only [chEs, Bool.and_eq_true] at h5
      refine (pi_range1 (gl_of h2) hm ha (star_cons (noStar_of h5.1))).imp fun σ H Q ⟨ρ, M, F, ι, R, S, p⟩ => ?_
      simp only [zevI] at p
      obtain ⟨ρ1, M1, F1, ι1, R1, S1, p1⟩ := step (rel := Rps W) (Wx := Wx) R S p
      refine ⟨ρ1, M1, F1, ι1, R1, S1, p1.imp fun vs H2 ⟨M2, F2, ι2, ds, R2, S2, g2, r2, p2⟩ => ?_⟩
      split at p2
      · obtain ⟨v, rfl, rv⟩ := rps1 r2
        cases rv
        split at p2
        · rename_i j hj
          exact ⟨_, rfl, hj.1, hj.2, p2 _ _ _ _ R2 Grow.refl (jok_rng 0 _)⟩
        · exact p2.elim
      · rename_i he
        exact absurd he (by simp)
      · exact p2.elim
    | [a, b], [y, z], h5, ha =>
      simp only [chEs, Bool.and_eq_true] at h5
      refine (pi_range2 (gl_of h2) hm ha (by rw [star_cons (noStar_of h5.1), star_cons (noStar_of h5.2.1)]; rfl) (star_cons (noStar_of h5.2.1))).imp fun σ H Q ⟨ρ, M, F, ι, R, S, p⟩ => ?_
      simp only [zevI] at p
      obtain ⟨ρ1, M1, F1, ι1, R1, S1, p1⟩ := step (rel := Rps W) (Wx := Wx) R S p
      refine ⟨ρ1, M1, F1, ι1, R1, S1, p1.imp fun vs H2 ⟨M2, F2, ι2, ds, R2, S2, g2, r2, p2⟩ => ?_⟩
      split at p2
      · rename_i he
        exact absurd he (by simp)
      · obtain ⟨v, u, rfl, rv, ru⟩ := rps2 r2
        cases rv
        cases ru
        split at p2
        · rename_i i j _ hj
          exact ⟨_, _, rfl, hj, p2 _ _ _ _ R2 Grow.refl (jok_rng _ _)⟩
        · exact p2.elim
      · exact p2.elim
    | [], _, _, _ => simp at h4
    | _ :: _ :: _ :: _, _, _, _ => simp at h4
    | [_], [], h5, _ => simp [chEs] at h5
    | [_], _ :: _ :: _, h5, _ => simp [chEs] at h5
    | [_, _], [], h5, _ => simp [chEs] at h5
    | [_, _], [_], h5, _ => simp [chEs] at h5
    | [_, _], _ :: _ :: _ :: _, h5, _ => simp [chEs] at h5
  · cases h
theorem tup_tgt {q : Bool} {N : List Str} {sc : Scope} {ts : List Tg} {t : Expr} (h : chT q N sc (.tp ts) t = true) : ∃ es kk p, t = .Tuple es kk p := by
  cases t with
  | Tuple es kk p => exact ⟨es, kk, p, rfl⟩
  | _ => simp [chT] at h
theorem i_zip {a b : E} (ia : EOk T Φ W k a) (ib : EOk T Φ W k b) : IOk T Φ W k (.zip a b) := fun X Wx O x h _ q0 N sc tg t hb ht => by
  cases tg with
  | nm i => simp [itB] at hb
  | tp ts =>
    obtain ⟨els, kk, tpos, rfl⟩ := tup_tgt ht
    simp only [chE] at h
    split at h
    · rename_i q z w e
      obtain ⟨p0, pos, rfl⟩ := asCall_eq e
      simp only [Bool.and_eq_true, decide_eq_true_eq] at h
      obtain ⟨⟨⟨rfl, h2⟩, h4⟩, h5⟩ := h
      have hm : X.mg "zip" = none := O.glo.bl _ (by decide)
      have s2 : starEach [w] X.env = [(false, eval w X.env)] := star_cons (noStar_of h5)
      refine (pi_zipW (gl_of h2) hm (pa_cons (ia X Wx O h4) (pa_cons (ib X Wx O h5) pa_nil s2) (star_cons (noStar_of h4))) (star_cons (noStar_of h4)) (by rw [s2]; rfl)).imp fun σ H Q ⟨ρ, M, F, ι, R, S, p⟩ => ?_
      simp only [zevI] at p
      obtain ⟨ρ1, M1, F1, ι1, R1, S1, p1⟩ := step (rel := Rp W) (Wx := Wx) R S p
      refine ⟨ρ1, M1, F1, ι1, R1, S1, p1.imp fun v H2 ⟨M2, F2, ι2, d, R2, S2, g2, r2, p2⟩ => ?_⟩
      obtain ⟨ρ3, M3, F3, ι3, R3, S3, p3⟩ := step (rel := Rp W) (Wx := Wx) R2 S2 p2
      refine ⟨ρ3, M3, F3, ι3, R3, S3, p3.imp fun v2 H4 ⟨M4, F4, ι4, d4, R4, S4, g4, r4, p4⟩ => ?_⟩
      split at p4
      · rename_i zxs ys e1 e2
        obtain ⟨n, vs, q1, q2⟩ := it_sq (r2.mono g4.f g4.i) e1
        obtain ⟨m, us, q3, q4⟩ := it_sq r4 e2
        rw [O.K]
        exact ⟨n, m, _, _, vs, us, rfl, q1.mono R4.sub, q3.mono R4.sub, p4 _ _ _ _ R4 Grow.refl (jok_zipW q1 q3 q2 q4)⟩
      · exact p4.elim
    · cases h
theorem i_enm {a : E} (ia : EOk T Φ W k a) : IOk T Φ W k (.enm a) := fun X Wx O x h _ q0 N sc tg t hb ht => by
  cases tg with
  | nm i => simp [itB] at hb
  | tp ts =>
    obtain ⟨els, kk, tpos, rfl⟩ := tup_tgt ht
    simp only [chE] at h
    split at h
    · rename_i q z e
      obtain ⟨p0, pos, rfl⟩ := asCall_eq e
      simp only [Bool.and_eq_true, decide_eq_true_eq] at h
      obtain ⟨⟨rfl, h2⟩, h4⟩ := h
      have hm : X.mg "enumerate" = none := O.glo.bl _ (by decide)
      have s2 : starEach [z] X.env = [(false, eval z X.env)] := star_cons (noStar_of h4)
      refine (pi_enumW (gl_of h2) hm (pa_cons (ia X Wx O h4) pa_nil s2) s2).imp fun σ H Q ⟨ρ, M, F, ι, R, S, p⟩ => ?_
      simp only [zevI] at p
      obtain ⟨ρ1, M1, F1, ι1, R1, S1, p1⟩ := step (rel := Rp W) (Wx := Wx) R S p
      refine ⟨ρ1, M1, F1, ι1, R1, S1, p1.imp fun v H2 ⟨M2, F2, ι2, d, R2, S2, g2, r2, p2⟩ => ?_⟩
      split at p2
      · rename_i zxs e1
        obtain ⟨n, vs, q1, q2⟩ := it_sq r2 e1
        rw [O.K]
        exact ⟨n, _, vs, rfl, q1.mono R2.sub, p2 _ _ _ _ R2 Grow.refl (jok_enumW q1 q2)⟩
      · exact p2.elim
    · cases h
/-! ### all -/
structure AllE (T : Tb) (Φ : Calls) (W : Wd) (k : Nat) (x : E) : Prop where
  e : EOk T Φ W k x
  t : TOk T Φ W k x
  i : IOk T Φ W k x
structure AllEs (T : Tb) (Φ : Calls) (W : Wd) (k : Nat) (es : List E) : Prop where
  a : AOk T Φ W k es
  b : BOk T Φ W k es
  x : TsOk T Φ W k es
  f : FOk T Φ W k es
theorem noT {e : E} (h : isT e = false) : TOk T Φ W k e := fun X Wx O x _ ht => by rw [h] at ht; cases ht
theorem noI {e : E} (h : isIt e = false) : IOk T Φ W k e := fun X Wx O x _ ht => by rw [h] at ht; cases ht
theorem badE {e : E} (h : ∀ ρ M, zev Φ T e ρ M = .bad) : EOk T Φ W k e := fun X Wx O x _ => pe_bad fun σ H Q ⟨ρ, M, F, ι, R, S, p⟩ => by rw [h] at p; exact p
mutual
theorem allE : ∀ e : E, AllE T Φ W k e
  | .var i => ⟨e_var i, noT rfl, noI rfl⟩
  | .cst c => ⟨e_cst c, noT rfl, noI rfl⟩
  | .glo g => ⟨e_glo g, noT rfl, noI rfl⟩
  | .bop op a b => ⟨e_bop (allE a).e (allE b).e, noT rfl, noI rfl⟩
  | .neg a => ⟨e_neg (allE a).e, noT rfl, noI rfl⟩
  | .boo c es => ⟨e_boo (allEs es).b, t_boo (allEs es).x, noI rfl⟩
  | .not a => ⟨e_not (allE a).e, t_not (allE a).t (allE a).e, noI rfl⟩
  | .cmp a op b => ⟨e_cmp (allE a).e (allE b).e, t_cmp (allE a).e (allE b).e, noI rfl⟩
  | .chn a p b q c => ⟨e_chn (allE a).e (allE b).e (allE c).e, t_chn (allE a).e (allE b).e (allE c).e, noI rfl⟩
  | .ife t a b => ⟨e_ife (allE t).t (allE t).e (allE a).e (allE b).e, t_ife (allE t).t (allE t).e (allE a).t (allE a).e (allE b).t (allE b).e, noI rfl⟩
  | .tup es => ⟨e_tup (allEs es).a, noT rfl, noI rfl⟩
  | .lst fz es => ⟨e_lst (allEs es).a, noT rfl, noI rfl⟩
  | .dis fz ks vs => ⟨e_dis, noT rfl, noI rfl⟩
  | .star e => ⟨badE fun ρ M => by rw [zev], noT rfl, noI rfl⟩
  | .lc fz elt tg it ifs own => ⟨e_lc (allE it).i (allE it).e (allEs ifs).f (allE elt).e, noT rfl, noI rfl⟩
  | .lc2 fz elt tg it tg2 it2 own own2 => ⟨badE fun ρ M => by rw [zev], noT rfl, noI rfl⟩
  | .call f es => ⟨e_call (allEs es).a, noT rfl, noI rfl⟩
  | .blt b es => ⟨e_blt (allEs es).a, noT rfl, noI rfl⟩
  | .mth m o es => ⟨e_mth (allE o).e (allEs es).a, noT rfl, noI rfl⟩
  | .isi a t => ⟨e_isi (allE a).e, noT rfl, noI rfl⟩
  | .sub o i => ⟨e_sub (allE o).e (allE i).e, noT rfl, noI rfl⟩
  | .slc o lo hi => ⟨e_slc (allE o).e (allO lo) (allO hi), noT rfl, noI rfl⟩
  | .rev o => ⟨e_rev (allE o).e, noT rfl, noI rfl⟩
  | .rng es => ⟨badE fun ρ M => by rw [zev], noT rfl, i_rng (allEs es).a⟩
  | .zip a b => ⟨badE fun ρ M => by rw [zev], noT rfl, i_zip (allE a).e (allE b).e⟩
  | .enm a => ⟨badE fun ρ M => by rw [zev], noT rfl, i_enm (allE a).e⟩
theorem allEs : ∀ es : List E, AllEs T Φ W k es
  | [] => ⟨a_nil, b_nil, x_nil, f_nil⟩
  | [a] => ⟨a_cons (allE a).e a_nil, b_one (allE a).e, x_one (allE a).t (allE a).e, f_one (allE a).t (allE a).e⟩
  | a :: b :: es => ⟨a_cons (allE a).e (allEs (b :: es)).a, b_cons (allE a).e (allEs (b :: es)).b, x_cons (allE a).t (allE a).e (allEs (b :: es)).x, f_more⟩
theorem allO : ∀ o : Option E, OOk T Φ W k o
  | none => o_none
  | some e => o_some (allE e).e
end
theorem test_ok {X : Cx} {Wx : WX} (O : Ok T Φ W k Wx X) {e : E} {x : Expr} (h : chE T X.N X.env.scope e x = true) (hb : tsB e x = true) : PT X x (tG W Wx eqB (ztst Φ T e)) := tst_of O.K hb (fun ht => (allE e).t X Wx O h ht) ((allE e).e X Wx O h)
theorem walk_ok {X : Cx} {Wx : WX} (O : Ok T Φ W k Wx X) {e : E} {x t : Expr} {q : Bool} {N : List Str} {sc : Scope} {tg : Tg} (h : chE T X.N X.env.scope e x = true) (hb : itB e tg = true) (ht : chT q N sc tg t = true) : PI X t x (tG W Wx (relI W) (zwlk Φ T e)) := wlk_of O.K (fun hi => (allE e).i X Wx O h hi tg t hb ht) ((allE e).e X Wx O h)
end
end Dv
end L2
/-! Dv: statements -/
namespace L2
namespace Dv
open PySem PySem.Spec PyProof.Rows

/-! ### a place taken as it stands -/
section
variable {W : Wd} {M : Mem} {F H : Hp} {ι : List Addr} {n : Nat} {a : Addr} {vs : List V} {ds : List D}
theorem live_set {k : Nat} (l : live (M.set n none) k) : k ≠ n ∧ live M k := by
  obtain ⟨o, e⟩ := l
  by_cases h : n = k
  · subst h
    by_cases hl : n < M.length
    · rw [List.getElem?_set_self hl] at e; cases e
    · rw [List.getElem?_eq_none (by simp; omega)] at e; cases e
  · rw [List.getElem?_set_ne h] at e
    exact ⟨fun z => h z.symm, o, e⟩
theorem Rel.inj (R : Rel W M F H ι) {k : Nat} {b : Addr} (e : ι[k]? = some b) (hn : ι[n]? = some b) : k = n := by
  obtain ⟨h1, e1⟩ := List.getElem?_eq_some_iff.mp e
  obtain ⟨h2, e2⟩ := List.getElem?_eq_some_iff.mp hn
  exact (List.getElem_inj R.nd).mp (by rw [e1, e2])
theorem Rel.freeze (R : Rel W M F H ι) (hn : ι[n]? = some a) (hl : live M n) {o : HO} (hH : H a = some o) : Rel W (M.set n none) (upd F a o) H ι := by
  have hF : F a = none := R.off n a hn hl
  refine ⟨fun b x e => ?_, by simp [R.len], R.nd, R.trk, fun k b e l => ?_, fun k b m e l => ?_⟩
  · by_cases hb : b = a
    · subst hb; rw [upd_same] at e; rw [hH]; exact e
    · rw [upd_ne hb] at e; exact R.sub _ _ e
  · obtain ⟨h1, h2⟩ := live_set l
    rw [upd_ne (fun z : b = a => h1 (R.inj (b := a) (by rw [← z]; exact e) hn))]
    exact R.off k b e h2
  · obtain ⟨h1, h2⟩ := live_set ⟨m, l⟩
    rw [List.getElem?_set_ne (fun z => h1 z.symm)] at l
    obtain ⟨o', q1, q2⟩ := R.has k b m e l
    exact ⟨o', q1, q2.mono (same_upd hF) (Ext.refl _)⟩
theorem Grow.freeze (R : Rel W M F H ι) (hn : ι[n]? = some a) (hl : live M n) {o : HO} : Grow M F H ι (M.set n none) (upd F a o) H ι := by
  refine ⟨same_upd (R.off n a hn hl), Ext.refl _, fun b u h _ => h, fun b h => h, fun k b h => .inl h, fun k b _ l => (live_set l).2, fun b x e => ?_⟩
  by_cases hb : b = a
  · subst hb; exact .inr (.inr ⟨n, hn, hl⟩)
  · rw [upd_ne hb] at e; exact .inl e
end

/-! ### what is wanted behind statements -/
def PoS (W : Wd) (Wx : WX) (D : Ends) (r : RS) (M : Mem) (F H : Hp) (ι : List Addr) : Prop := match r with
  | .nx ρ' M' => ∀ σ' F' H' ι', Rel W M' F' H' ι' → Grow M F H ι M' F' H' ι' → RelS W F' ι' ρ' σ' → D.nx σ' H'
  | .rt d M' => ∀ v F' H' ι', Rel W M' F' H' ι' → Grow M F H ι M' F' H' ι' → Rp W F' ι' v d → D.rt v H'
  | .bk ρ' M' => ∀ σ' F' H' ι', Rel W M' F' H' ι' → Grow M F H ι M' F' H' ι' → RelS W F' ι' ρ' σ' → D.bk σ' H'
  | .ct ρ' M' => ∀ σ' F' H' ι', Rel W M' F' H' ι' → Grow M F H ι M' F' H' ι' → RelS W F' ι' ρ' σ' → D.ct σ' H'
  | .er x ρ' M' => ∀ σ' cls dx F' H' ι', Rel W M' F' H' ι' → Grow M F H ι M' F' H' ι' → RelS W F' ι' ρ' σ' → XRp W F' ι' H' x cls dx → Wx cls dx σ' H'
  | .bad => False
def tS (W : Wd) (Wx : WX) (r : Env' → Mem → RS) : TS := fun D σ H => ∃ ρ M F ι, Rel W M F H ι ∧ RelS W F ι ρ σ ∧ PoS W Wx D (r ρ M) M F H ι
section
variable {W : Wd} {Wx : WX} {α β : Type} {rel : Hp → List Addr → β → α → Prop} {D : Ends} {M M1 : Mem} {F F1 H H1 : Hp} {ι ι1 : List Addr} {ρ : Env'} {σ : L2.St}
theorem PoS.from {r : RS} (g : Grow M F H ι M1 F1 H1 ι1) : PoS W Wx D r M F H ι → PoS W Wx D r M1 F1 H1 ι1 := by
  cases r with
  | nx ρ M' => exact fun p σ' F' H' ι' a b c => p σ' F' H' ι' a (g.trans b) c
  | rt d M' => exact fun p v F' H' ι' a b c => p v F' H' ι' a (g.trans b) c
  | bk ρ M' => exact fun p σ' F' H' ι' a b c => p σ' F' H' ι' a (g.trans b) c
  | ct ρ M' => exact fun p σ' F' H' ι' a b c => p σ' F' H' ι' a (g.trans b) c
  | er x ρ M' => exact fun p σ' cls dx F' H' ι' a b c => p σ' cls dx F' H' ι' a (g.trans b) c
  | bad => exact id
theorem stepS {r : Env' → Mem → R α} {f : α → Mem → RS} (R : Rel W M F H ι) (S : RelS W F ι ρ σ) (p : PoS W Wx D ((r ρ M).st ρ f) M F H ι) :
    tG W Wx rel r σ H (fun v H1 => ∃ M1 F1 ι1 d, Rel W M1 F1 H1 ι1 ∧ RelS W F1 ι1 ρ σ ∧ Grow M F H ι M1 F1 H1 ι1 ∧ rel F1 ι1 v d ∧ PoS W Wx D (f d M1) M1 F1 H1 ι1) := by
  refine ⟨ρ, M, F, ι, R, S, ?_⟩
  cases e : r ρ M with
  | ok d M' =>
    rw [e] at p
    exact fun v F' H' ι' a b c => ⟨M', F', ι', d, a, S.mono b.f b.i, b, c, p.from b⟩
  | err x M' =>
    rw [e] at p
    exact fun cls dx F' H' ι' a b c => p σ cls dx F' H' ι' a b (S.mono b.f b.i) c
  | bad => rw [e] at p; exact p
end

/-! ### syntax -/
section
theorem asExp_eq {s : Stmt} {x : Expr} (h : asExp s = some x) : ∃ p, s = .Expr x p := by cases s <;> simp [asExp] at h; subst h; exact ⟨_, rfl⟩
theorem asAsg_eq {s : Stmt} {y : Expr × Expr × Nat} (h : asAsg s = some y) : ∃ p, s = .Assign [y.1] y.2.1 p ∧ p.line = y.2.2 := by
  unfold asAsg at h
  split at h <;> cases h
  exact ⟨_, rfl, rfl⟩
theorem asAug_eq {s : Stmt} {y : Str × Operator × Expr} (h : asAug s = some y) : ∃ p0 p, s = .AugAssign (.Name y.1 p0) y.2.1 y.2.2 p := by
  unfold asAug at h
  split at h <;> cases h
  exact ⟨_, _, rfl⟩
theorem asIfS_eq {s : Stmt} {y : Expr × List Stmt × List Stmt} (h : asIfS s = some y) : ∃ p, s = .If y.1 y.2.1 y.2.2 p := by cases s <;> simp [asIfS] at h; subst h; exact ⟨_, rfl⟩
theorem asWhl_eq {s : Stmt} {y : Expr × List Stmt} (h : asWhl s = some y) : ∃ p, s = .While y.1 y.2 [] p := by
  unfold asWhl at h
  split at h <;> cases h
  exact ⟨_, rfl⟩
theorem asFor_eq {s : Stmt} {y : Expr × Expr × List Stmt} (h : asFor s = some y) : ∃ p, s = .For y.1 y.2.1 y.2.2 [] p := by
  unfold asFor at h
  split at h <;> cases h
  exact ⟨_, rfl⟩
theorem asRet_eq {s : Stmt} {y : Option Expr} (h : asRet s = some y) : ∃ p, s = .Return y p := by cases s <;> simp [asRet] at h; subst h; exact ⟨_, rfl⟩
theorem asMat_eq {s : Stmt} {y : Expr × List MatchCase} (h : asMat s = some y) : ∃ p, s = .Match y.1 y.2 p := by cases s <;> simp [asMat] at h; subst h; exact ⟨_, rfl⟩
theorem asPass_eq {s : Stmt} (h : asPass s = true) : ∃ p, s = .Pass p := by cases s <;> simp [asPass] at h; exact ⟨_, rfl⟩
theorem asBrk_eq {s : Stmt} (h : asBrk s = true) : ∃ p, s = .Break p := by cases s <;> simp [asBrk] at h; exact ⟨_, rfl⟩
theorem asCnt_eq {s : Stmt} (h : asCnt s = true) : ∃ p, s = .Continue p := by cases s <;> simp [asCnt] at h; exact ⟨_, rfl⟩
theorem asTwo_eq {s : Expr} {y : Str × Str} (h : asTwo s = some y) : ∃ px py k p, s = .Tuple [.Name y.1 px, .Name y.2 py] k p ∧ (py.line == px.line) = true := by
  unfold asTwo at h
  split at h
  · split at h <;> cases h
    exact ⟨_, _, _, _, rfl, by assumption⟩
  · cases h
theorem asPair_eq {s : Expr} {y : Expr × Expr} (h : asPair s = some y) : ∃ k p, s = .Tuple [y.1, y.2] k p := by
  unfold asPair at h
  split at h <;> cases h
  exact ⟨_, _, rfl⟩
theorem asRai_eq {s : Stmt} {y : Str × Str} (h : asRai s = some y) : ∃ p1 j p2 p3 p, s = .Raise (some (.Call (.Name y.1 p1) [.Constant (.str y.2) j p2] [] p3)) none p := by
  unfold asRai at h
  split at h <;> cases h
  exact ⟨_, _, _, _, _, rfl⟩
theorem asTr1_eq {s : Stmt} {y : List Stmt × Str × Const} (h : asTr1 s = some y) : ∃ p1 j p2 p3 p4 p, s = .Try y.1 [.ExceptHandler (some (.Name y.2.1 p1)) none [.Return (some (.Constant y.2.2 j p2)) p3] p4] [] [] p := by
  unfold asTr1 at h
  split at h <;> cases h
  exact ⟨_, _, _, _, _, _, rfl⟩
theorem one_target {q : Bool} {N : List Str} {sc : Scope} {env : Env} {tg : Tg} {t : Expr} (h : chT q N sc tg t = true) : (assignEach [t] env).map (·.2) = [assign t env] := by
  cases t <;> first | rfl | (cases tg <;> simp [chT] at h)
theorem swapped_cell {t x : Expr} {env : Env} (h : cellT env.scope t = true) : swappedStores [t] x env = pure none := by
  unfold cellT at h
  split at h
  · rename_i a p1 b p2 k1 p3
    have e : ∀ y, lclB env.scope y = (env.kindOf y == some NameKind.local) := fun y => by
      unfold lclB Env.kindOf
      cases e : env.scope.names.lookup y with
      | none => rfl
      | some q => cases q <;> rfl
    rw [e, e] at h
    cases x with
    | Tuple vs k2 p4 =>
      unfold swappedStores
      simp only [List.filterMap_cons, List.filterMap_nil]
      have key : ∀ (c1 c2 c5 : Bool) (l m : List Str) (z : Sem (Option (List Str))), l.length ≤ 1 → (if c1 = true then pure none else if c2 = true then pure none else if (l.length != 2 || c5) = true then pure none else z : Sem (Option (List Str))) = pure none := fun c1 c2 c5 l m z hl => by
        have : (l.length != 2) = true := by simp; omega
        rw [this]
        cases c1 <;> cases c2 <;> rfl
      rcases Bool.eq_false_or_eq_true (env.kindOf a == some NameKind.local) with h1 | h1
      · rcases Bool.eq_false_or_eq_true (env.kindOf b == some NameKind.local) with h2 | h2
        · rw [h1, h2] at h; cases h
        · simp only [h2, Bool.false_and]
          refine key _ _ _ _ [] _ ?_
          simp only [Bool.false_eq_true, if_false]
          split <;> simp
      · simp only [h1, Bool.false_and]
        refine key _ _ _ _ [] _ ?_
        simp only [Bool.false_eq_true, if_false]
        split <;> simp
    | _ => rfl
  · cases h
theorem swapped_no {q : Bool} {N : List Str} {sc : Scope} {tg : Tg} {t x : Expr} {env : Env} (hT : chT q N sc tg t = true) (h : (noTup x || noTup t) = true) : swappedStores [t] x env = pure none := by
  cases t with
  | Name y p => rfl
  | Tuple es kk p =>
    cases x <;> first | rfl | (simp [noTup] at h)
  | _ => cases tg <;> simp [chT] at hT
theorem blk_fn {env : Env} (hk : env.scope.kind = .function) : env.blockKind = .function := by unfold Env.blockKind; rw [hk]; rfl
theorem sw_two {x y : Str} {px py pt p2 : Pos} {kt k2 : Nat} {u v : Expr} {env : Env} (hk : env.scope.kind = .function) (hx : env.scope.names.lookup x = some .local) (hy : env.scope.names.lookup y = some .local) (hl : (py.line == px.line) = true)
    (hne : x ≠ y) (hu : noStar u = true) (hv : noStar v = true) (hf : (foldedForSure 8 u && foldedForSure 8 v) = false) (hc : (constantsAlone 8 u && constantsAlone 8 v) = false) :
    swappedStores [.Tuple [.Name x px, .Name y py] kt pt] (.Tuple [u, v] k2 p2) env = pure (some [x, y]) := by
  have kx : env.kindOf x = some .local := hx
  have ky : env.kindOf y = some .local := hy
  have hb := blk_fn hk
  have hl' : py.line = px.line := by simpa using hl
  have e0 : ([u, v].any fun | .Starred .. => true | _ => false) = false := by
    simp only [List.any_cons, List.any_nil, Bool.or_false, Bool.or_eq_false_iff]
    constructor
    · cases u <;> first | rfl | (simp [noStar] at hu)
    · cases v <;> first | rfl | (simp [noStar] at hv)
  have e2 : [x, y].eraseDups.length = 2 := by
    have : (y == x) = false := by simpa using fun z => hne z.symm
    simp [List.eraseDups_cons, this]
  have e3 : [u, v].all (foldedForSure 8) = false := by simpa [List.all_cons] using hf
  have e4 : [u, v].all (constantsAlone 8) = false := by simpa [List.all_cons] using hc
  unfold swappedStores
  simp only [hb, e0, e3, e4, kx, ky, List.filterMap_cons, List.filterMap_nil]
  simp [hl', e2, Expr.pos]
  rintro (h | h)
  · exfalso
    cases u <;> first | exact absurd h Bool.false_ne_true | (simp [noStar] at hu)
  · exfalso
    cases v <;> first | exact absurd h Bool.false_ne_true | (simp [noStar] at hv)
end

/-! ### statements, one by one -/
/-- a def's body, and where it stands -/
structure OkS (T : Tb) (Φ : Calls) (W : Wd) (k : Nat) (Wx : WX) (X : Cx) : Prop extends Ok T Φ W k Wx X where
  own : PassesOwn (model X.prog X.w) X.A X.env X.xe
  kind : X.env.scope.kind = .function
  fnt : ∀ x, X.fn x = true
  stk : X.stack = X.env :: X.outer
  frm : X.env.frame = some X.env.locals
section
variable {T : Tb} {Φ : Calls} {W : Wd} {k : Nat}
def SOk (T : Tb) (Φ : Calls) (W : Wd) (k : Nat) (st : S) : Prop := ∀ (X : Cx) (Wx : WX), OkS T Φ W k Wx X → ∀ {x : Stmt}, chS T X.N X.env.scope st x = true → PS X x (tS W Wx (zxc Φ T st))
def SsOk (T : Tb) (Φ : Calls) (W : Wd) (k : Nat) (st : List S) : Prop := ∀ (X : Cx) (Wx : WX), OkS T Φ W k Wx X → ∀ {x : List Stmt}, chSs T X.N X.env.scope st x = true → PSs X x (tS W Wx (zxs Φ T st))
theorem ex_ok {X : Cx} {Wx : WX} (O : OkS T Φ W k Wx X) {e : E} {x : Expr} (h : chE T X.N X.env.scope e x = true) : PE X x (tG W Wx (Rp W) (zev Φ T e)) := (allE e).e X Wx O.toOk h
theorem s_exp (e : E) : SOk T Φ W k (.exp e) := fun X Wx O x h => by
  simp only [chS] at h
  split at h
  · rename_i y e1
    obtain ⟨pos, rfl⟩ := asExp_eq e1
    simp only [Bool.and_eq_true] at h
    refine (ps_expr (ex_ok O h.1) (comp_of h.2)).imp fun D σ H ⟨ρ, M, F, ι, R, S, p⟩ => ?_
    simp only [zxc] at p
    obtain ⟨ρ1, M1, F1, ι1, R1, S1, p1⟩ := stepS (rel := Rp W) R S p
    exact ⟨ρ1, M1, F1, ι1, R1, S1, p1.imp fun v H2 ⟨M2, F2, ι2, d, R2, S2, g2, r2, p2⟩ => p2 _ _ _ _ R2 Grow.refl S2⟩
  · cases h
theorem swN_of {X : Cx} {x t : Expr} {l : Nat} (hk : X.env.scope.kind = .function) (h : swN X.env.scope x t = true) : swapsWith x (some t) l X.env = pure false := by
  cases x with
  | ListComp a b scope pos =>
    cases t with
    | Name y py =>
      have hb := blk_fn hk
      simp only [swN] at h
      unfold swapsWith
      show (pure _ : Sem Bool) = pure false
      congr 1
      simp only [hb]
      have hx : (X.env.kindOf y == some NameKind.local) = lclB X.env.scope y := by
        unfold lclB Env.kindOf
        cases e : X.env.scope.names.lookup y with
        | none => rfl
        | some q => cases q <;> rfl
      rw [hx]
      have : ((ScopeKind.function == ScopeKind.function) = true) := rfl
      simp only [this, Bool.true_and]
      exact (Bool.not_eq_true' _).mp h
    | _ => rfl
  | SetComp => simp [swN, noComp] at h
  | DictComp => simp [swN, noComp] at h
  | _ => rfl
theorem gT_step {Wx : WX} {Z : Ends} {X : Cx} {tg : Tg} {M : Mem} {F H : Hp} {ι : List Addr} {ρ : Env'} {σ : L2.St} {v : V} {d : D} (R : Rel W M F H ι) (S : RelS W F ι ρ σ) (r : Rp W F ι v d)
    (p : PoS W Wx Z (match tg.put d ρ with | some ρ' => .nx ρ' M | none => .bad) M F H ι) : gT W tg v σ H Z.nx := by
  cases e : tg.put d ρ with
  | none => rw [e] at p; exact p.elim
  | some ρ' =>
    rw [e] at p
    exact ⟨ρ, M, F, ι, d, ρ', R, S, r, e, fun σ' S' _ => p _ _ _ _ R Grow.refl S'⟩
theorem lc_imp {Wx : WX} {fz : Bool} {elt : E} {tg : Tg} {it : E} {ifs : List E} {own : List Nat} (hix : ∀ j ∈ tg.ix, j ∈ own) (σ : L2.St) (H : Hp) (Q : VK) :
    tG W Wx (Rp W) (zev Φ T (.lc fz elt tg it ifs own)) σ H Q → tLc (tG W Wx (relI W) (zwlk Φ T it)) (gT W tg) (tG W WX0 eqB (zevF Φ T ifs)) (tG W WX0 (Rp W) (zev Φ T elt)) own σ H Q := fun ⟨ρ, M, F, ι, R, S, p⟩ => by
  simp only [zev] at p
  obtain ⟨ρ1, M1, F1, ι1, R1, S1, p1⟩ := step (rel := relI W) (Wx := Wx) (r := zwlk Φ T it) R S p
  refine ⟨ρ1, M1, F1, ι1, R1, S1, p1.imp fun J H2 ⟨M2, F2, ι2, ds, R2, S2, g2, r2, p2⟩ => ?_⟩
  exact lc_read hix R2 S2 r2 p2
theorem lc_only {N : List Str} {sc s : Scope} {e : E} {a : Expr} {b : List Comprehension} {p : Pos} (h : chE T N sc e (.ListComp a b s p) = true) : ∃ fz elt tg it ifs own, e = .lc fz elt tg it ifs own := by
  cases e <;> first
    | exact ⟨_, _, _, _, _, _, rfl⟩
    | exact absurd h Bool.false_ne_true
    | (rename_i a b; cases b <;> exact absurd h Bool.false_ne_true)
    | (exfalso; revert h; simp [chE, asName, asConst, asBin, asUn, asBool, asCmp, asChn, asIf, asTup, asLst, asDict0, asComp, asCall, asMeth, asSub])
theorem s_set (tg : Tg) (e : E) : SOk T Φ W k (.set tg e) := fun X Wx O x h => by
  simp only [chS] at h
  split at h
  · rename_i t y l e1
    obtain ⟨pos, rfl, hl⟩ := asAsg_eq e1
    simp only [Bool.and_eq_true, Bool.or_eq_true] at h
    obtain ⟨⟨h1, h2⟩, h3⟩ := h
    rcases h3 with h3 | h3
    · refine (ps_asg (ex_ok O h2) (pg_T (W := W) O.K O.nd O.calm (fun _ => O.fnt) tg h1) (swN_of O.kind h3.1) (by
        have h5 : (noTup y || noTup t) = true ∨ cellT X.env.scope t = true := by
          rcases h3.2 with h4 | h4
          · exact .inl (by simpa using h4)
          · exact .inr h4
        rcases h5 with h5 | h5
        · exact swapped_no h1 h5
        · exact swapped_cell h5) (one_target h1)).imp fun D σ H ⟨ρ, M, F, ι, R, S, p⟩ => ?_
      simp only [zxc] at p
      obtain ⟨ρ1, M1, F1, ι1, R1, S1, p1⟩ := stepS (rel := Rp W) R S p
      exact ⟨ρ1, M1, F1, ι1, R1, S1, p1.imp fun v H2 ⟨M2, F2, ι2, d, R2, S2, g2, r2, p2⟩ => gT_step (X := X) R2 S2 r2 p2⟩
    · cases y with
      | ListComp elt gs scope cpos =>
        cases t with
        | Name y py =>
          simp only [swB, Bool.and_eq_true, Bool.not_eq_true'] at h3
          obtain ⟨⟨g1, g2⟩, g3⟩ := h3
          cases tg with
          | tp _ => simp [chT] at h1
          | nm i =>
            simp only [chT, Bool.and_eq_true, decide_eq_true_eq] at h1
            obtain ⟨fz, elt', tg', it, ifs, own, rfl⟩ := lc_only h2
            simp only [chE] at h2
            split at h2
            · rename_i y' t' i' fss scope' e2
              obtain ⟨pos', e3⟩ := asComp_eq e2
              cases e3
              simp only [Bool.and_eq_true] at h2
              obtain ⟨⟨⟨⟨⟨⟨⟨⟨k1, k2⟩, k3⟩, k4⟩, k5⟩, k6⟩, k7⟩, k8⟩, k9⟩ := h2
              have hix : ∀ j ∈ tg'.ix, j ∈ own := fun j hj => by
                have := List.all_eq_true.mp k5 j hj
                simpa using this
              have hown : (ownN X.N own).map (·.2) = own := by
                unfold ownN
                rw [List.map_map]
                show own.map (fun i => i) = own
                exact List.map_id' own
              have z := ps_setLc (X := X) (y := y) (py := py) (i := i) (elt := y') (tg := t') (iter := i') (ifs := fss) (scope := scope') (own := ownN X.N own) (pos := cpos) (spos := pos) (wi := tG W Wx (relI W) (zwlk Φ T it)) (g := gT W tg') (tt := tG W WX0 eqB (zevF Φ T ifs)) (te := tG W WX0 (Rp W) (zev Φ T elt'))
                O.calm O.nd h1.1.1 (lcl_of g1) (sw_true O.kind (lcl_of g1) g2 g3)
                (walk_ok O.toOk k2 k8 k4) (blkOk_by k1)
                (fun s H C cl fp => pg_T (X := X.blk s H scope' (compEnvC scope' cl C X.env) fp) O.K O.nd O.calm (fun z => by cases z) tg' k4)
                (fun s H C cl fp => (allEs ifs).f _ WX0 (O.toOk.blk s H scope' C cl fp) k6 k7)
                (fun s H C cl fp => (allE elt').e _ WX0 (O.toOk.blk s H scope' C cl fp) k9) (set_of k3)
              rw [hown] at z
              refine z.imp fun D σ H ⟨ρ, M, F, ι, R, S, p⟩ => ?_
              simp only [zxc] at p
              refine lc_imp (fz := fz) hix σ H _ ?_
              obtain ⟨ρ1, M1, F1, ι1, R1, S1, p1⟩ := stepS (rel := Rp W) R S p
              exact ⟨ρ1, M1, F1, ι1, R1, S1, p1.imp fun v H2 ⟨M2, F2, ι2, d, R2, S2, g2, r2, p2⟩ => p2 _ _ _ _ R2 Grow.refl (S2.set i r2)⟩
            · cases h2
        | _ => simp [swB] at h3
      | _ => simp [swB] at h3
  · cases h
theorem s_par (i j : Nat) (a b : E) : SOk T Φ W k (.par i j a b) := fun X Wx O x h => by
  simp only [chS] at h
  split at h
  · rename_i t y l e1
    obtain ⟨pos, rfl, hl⟩ := asAsg_eq e1
    split at h
    · rename_i p q u v e2 e3
      obtain ⟨px, py, kt, pt, rfl, hln⟩ := asTwo_eq e2
      obtain ⟨k2, p2, rfl⟩ := asPair_eq e3
      simp only [Bool.and_eq_true, decide_eq_true_eq, Bool.not_eq_true'] at h
      obtain ⟨⟨⟨⟨⟨⟨⟨⟨h1, h2⟩, h3⟩, h4⟩, h5⟩, h6⟩, h7⟩, h8⟩, h9⟩ := h
      have hne : p ≠ q := fun z => h3 (by
        subst z
        obtain ⟨g1, e1⟩ := List.getElem?_eq_some_iff.mp h1
        obtain ⟨g2, e2⟩ := List.getElem?_eq_some_iff.mp h2
        exact (List.getElem_inj O.nd).mp (by rw [e1, e2]))
      refine (ps_par O.calm O.nd h1 h2 h3 (lcl_of h4) (lcl_of h5) (pa_cons (ex_ok O h6) (pa_cons (ex_ok O h7) pa_nil (star_cons (noStar_of h7))) (star_cons (noStar_of h6)))
        (sw_two O.kind (lcl_of h4) (lcl_of h5) hln hne (noStar_of h6) (noStar_of h7) h8 h9)).imp fun D σ H ⟨ρ, M, F, ι, R, S, p⟩ => ?_
      simp only [zxc] at p
      obtain ⟨ρ1, M1, F1, ι1, R1, S1, p1⟩ := stepS (rel := Rp W) R S p
      refine ⟨ρ1, M1, F1, ι1, R1, S1, p1.imp fun v H2 ⟨M2, F2, ι2, d, R2, S2, g2, r2, p2⟩ => ?_⟩
      obtain ⟨ρ3, M3, F3, ι3, R3, S3, p3⟩ := stepS (rel := Rp W) R2 S2 p2
      refine ⟨ρ3, M3, F3, ι3, R3, S3, p3.imp fun v2 H4 ⟨M4, F4, ι4, d4, R4, S4, g4, r4, p4⟩ => ?_⟩
      exact ⟨v, v2, rfl, p4 _ _ _ _ R4 Grow.refl ((S4.set i (r2.mono g4.f g4.i)).set j r4)⟩
    · cases h
  · cases h
theorem s_aug (i : Nat) (op : Operator) (e : E) : SOk T Φ W k (.aug i op e) := fun X Wx O x h => by
  simp only [chS] at h
  split at h
  · rename_i n o y e1
    obtain ⟨p0, pos, rfl⟩ := asAug_eq e1
    simp only [Bool.and_eq_true, decide_eq_true_eq] at h
    obtain ⟨⟨⟨⟨rfl, h1⟩, h2⟩, h3⟩, h4⟩ := h
    have hl : Loc X.env.scope n := loc_of h2
    have ho : ∃ f, ipF op = some f ∧ PIp X op (ipI f) := by
      cases op <;> first | exact ⟨_, rfl, ip_add⟩ | exact ⟨_, rfl, ip_sub⟩ | (exact absurd h3 Bool.false_ne_true)
    obtain ⟨f, ef, hf⟩ := ho
    refine (ps_aug O.nd h1 hl (ex_ok O h4) hf (.inl (O.fnt _))).imp fun D σ H ⟨ρ, M, F, ι, R, S, p⟩ => ?_
    simp only [zxc, ef] at p
    split at p
    · rename_i d0 e0
      obtain ⟨v, e1, r⟩ := S.at_ i d0 e0
      refine ⟨v, e1, ?_⟩
      obtain ⟨ρ1, M1, F1, ι1, R1, S1, p1⟩ := stepS (rel := Rp W) R S p
      refine ⟨ρ1, M1, F1, ι1, R1, S1, p1.imp fun v2 H2 ⟨M2, F2, ι2, d, R2, S2, g2, r2, p2⟩ => ?_⟩
      have r' := r.mono g2.f g2.i
      split at p2
      · rename_i g a b _ _
        have e3 : some f = some g := by assumption
        cases e3
        cases r'
        cases r2
        exact ⟨_, _, rfl, rfl, p2 _ _ _ _ R2 Grow.refl (S2.set i (.int _))⟩
      · exact p2.elim
    · exact p.elim
  · cases h
theorem s_sst (o i e : E) : SOk T Φ W k (.sst o i e) := fun X Wx O x h => by
  simp only [chS] at h
  split at h
  · rename_i t z l e1
    obtain ⟨pos, rfl, hl⟩ := asAsg_eq e1
    split at h
    · rename_i x y e2
      obtain ⟨p2, rfl⟩ := asSub_eq e2
      simp only [Bool.and_eq_true] at h
      obtain ⟨⟨⟨⟨h1, h2⟩, h3⟩, h4⟩, h5⟩ := h
      have ha : ∀ v, assign (.Subscript x y p2) X.env v = (do
          let ov ← holding [v] (eval x X.env)
          let iv ← holding [v, ov] (eval y X.env)
          standAt p2
          holding [v, ov, iv] (setItem ov iv v)
          release [v, ov, iv] []) := fun v => by
        cases y <;> first | rfl | (simp [noSl] at h3)
      refine (ps_asg (ex_ok O h4) (pg_sub (ex_ok O h1) (ex_ok O h2) set_list ha) (by show swapsWith z (some (.Subscript x y p2)) pos.line X.env = pure false; exact comp_of h5) (by cases z <;> rfl) rfl).imp fun D σ H ⟨ρ, M, F, ι, R, S, p⟩ => ?_
      simp only [zxc] at p
      obtain ⟨ρ1, M1, F1, ι1, R1, S1, p1⟩ := stepS (rel := Rp W) R S p
      refine ⟨ρ1, M1, F1, ι1, R1, S1, p1.imp fun v H2 ⟨M2, F2, ι2, d, R2, S2, g2, r2, p2⟩ => ?_⟩
      obtain ⟨ρ3, M3, F3, ι3, R3, S3, p3⟩ := stepS (rel := Rp W) R2 S2 p2
      refine ⟨ρ3, M3, F3, ι3, R3, S3, p3.imp fun v2 H4 ⟨M4, F4, ι4, d4, R4, S4, g4, r4, p4⟩ => ?_⟩
      obtain ⟨ρ5, M5, F5, ι5, R5, S5, p5⟩ := stepS (rel := Rp W) R4 S4 p4
      refine ⟨ρ5, M5, F5, ι5, R5, S5, p5.imp fun v3 H6 ⟨M6, F6, ι6, d6, R6, S6, g6, r6, p6⟩ => ?_⟩
      have r2' := (r2.mono g4.f g4.i).mono g6.f g6.i
      have r4' := r4.mono g6.f g6.i
      split at p6
      · rename_i n j _
        split at p6
        · rename_i ds em
          split at p6
          · rename_i q eq
            obtain ⟨a, vs, rfl, ha, hH, rv⟩ := loc_lst R6 r4' em
            cases r6
            refine ⟨a, vs, j, q, rfl, rfl, hH, by rw [rv.length]; exact eq, ?_⟩
            exact p6 _ _ _ _ (R6.setloc ha em (.lst (rv.set r2' q))) (Grow.setloc R6 ha em) S6
          · exact p6.elim
        · exact p6.elim
      · exact p6.elim
    · cases h
  · cases h
theorem s_ret (e : E) : SOk T Φ W k (.ret e) := fun X Wx O x h => by
  simp only [chS] at h
  split at h
  · rename_i y e1
    obtain ⟨pos, rfl⟩ := asRet_eq e1
    refine (ps_ret (ex_ok O h)).imp fun D σ H ⟨ρ, M, F, ι, R, S, p⟩ => ?_
    simp only [zxc] at p
    obtain ⟨ρ1, M1, F1, ι1, R1, S1, p1⟩ := stepS (rel := Rp W) R S p
    exact ⟨ρ1, M1, F1, ι1, R1, S1, p1.imp fun v H2 ⟨M2, F2, ι2, d, R2, S2, g2, r2, p2⟩ => p2 _ _ _ _ R2 Grow.refl r2⟩
  · cases h
theorem s_retN : SOk T Φ W k .retN := fun X Wx O x h => by
  simp only [chS] at h
  split at h
  · rename_i e1
    obtain ⟨pos, rfl⟩ := asRet_eq e1
    exact ps_retN.imp fun D σ H ⟨ρ, M, F, ι, R, S, p⟩ => p .non _ _ _ R Grow.refl .non
  · cases h
theorem s_pass : SOk T Φ W k .pass := fun X Wx O x h => by
  obtain ⟨pos, rfl⟩ := asPass_eq h
  exact ps_pass.imp fun D σ H ⟨ρ, M, F, ι, R, S, p⟩ => p _ _ _ _ R Grow.refl S
theorem s_brk : SOk T Φ W k .brk := fun X Wx O x h => by
  obtain ⟨pos, rfl⟩ := asBrk_eq h
  exact ps_break.imp fun D σ H ⟨ρ, M, F, ι, R, S, p⟩ => p _ _ _ _ R Grow.refl S
theorem s_cnt : SOk T Φ W k .cnt := fun X Wx O x h => by
  obtain ⟨pos, rfl⟩ := asCnt_eq h
  exact ps_continue.imp fun D σ H ⟨ρ, M, F, ι, R, S, p⟩ => p _ _ _ _ R Grow.refl S
theorem s_frz (i : Nat) : SOk T Φ W k (.frz i) := fun X Wx O x h => by simp [chS] at h
theorem s_ite {t : E} {a b : List S} (ia : SsOk T Φ W k a) (ib : SsOk T Φ W k b) : SOk T Φ W k (.ite t a b) := fun X Wx O x h => by
  simp only [chS] at h
  split at h
  · rename_i y ys zs e1
    obtain ⟨pos, rfl⟩ := asIfS_eq e1
    simp only [Bool.and_eq_true] at h
    obtain ⟨⟨⟨h1, h2⟩, h3⟩, h4⟩ := h
    refine (ps_if (test_ok O.toOk h1 h2) (ia X Wx O h3) (ib X Wx O h4)).imp fun D σ H ⟨ρ, M, F, ι, R, S, p⟩ => ?_
    simp only [zxc] at p
    obtain ⟨ρ1, M1, F1, ι1, R1, S1, p1⟩ := stepS (rel := eqB) R S p
    refine ⟨ρ1, M1, F1, ι1, R1, S1, p1.imp fun v H2 ⟨M2, F2, ι2, d, R2, S2, g2, r2, p2⟩ => ?_⟩
    cases r2
    cases v with
    | true => rw [if_pos rfl] at p2 ⊢; exact ⟨ρ, M2, F2, ι2, R2, S2, p2⟩
    | false => rw [if_neg Bool.false_ne_true] at p2 ⊢; exact ⟨ρ, M2, F2, ι2, R2, S2, p2⟩
  · cases h
/-- a loop's body -/
theorem PoS.body {Z Z' : Ends} {Wx : WX} {M : Mem} {F H : Hp} {ι : List Addr} {g : RS} {f : Env' → Mem → RS} (hr : Z'.rt = Z.rt) (hb : Z'.bk = Z.nx)
    (hn : ∀ ρ' M' σ' F' H' ι', Rel W M' F' H' ι' → Grow M F H ι M' F' H' ι' → RelS W F' ι' ρ' σ' → PoS W Wx Z (f ρ' M') M' F' H' ι' → Z'.nx σ' H' ∧ Z'.ct σ' H')
    (p : PoS W Wx Z (match g with | .nx ρ1 M1 => f ρ1 M1 | .ct ρ1 M1 => f ρ1 M1 | .bk ρ1 M1 => .nx ρ1 M1 | r => r) M F H ι) : PoS W Wx Z' g M F H ι := by
  cases g with
  | nx ρ1 M1 => exact fun σ' F' H' ι' a b c => (hn ρ1 M1 σ' F' H' ι' a b c (p.from b)).1
  | ct ρ1 M1 => exact fun σ' F' H' ι' a b c => (hn ρ1 M1 σ' F' H' ι' a b c (p.from b)).2
  | bk ρ1 M1 => show ∀ σ' F' H' ι', _ → _ → _ → Z'.bk σ' H'; rw [hb]; exact p
  | rt d M1 => show ∀ v F' H' ι', _ → _ → _ → Z'.rt v H'; rw [hr]; exact p
  | er x ρ1 M1 => exact p
  | bad => exact p
theorem s_whl {t : E} {b : List S} (ib : SsOk T Φ W k b) : SOk T Φ W k (.whl t b) := fun X Wx O x h => by
  simp only [chS] at h
  split at h
  · rename_i y ys e1
    obtain ⟨pos, rfl⟩ := asWhl_eq e1
    simp only [Bool.and_eq_true] at h
    obtain ⟨⟨h1, h2⟩, h3⟩ := h
    refine (ps_while O.own (test_ok O.toOk h1 h2) (ib X Wx O h3)).imp fun D σ H ⟨ρ, M, F, ι, R, S, p⟩ => ?_
    simp only [zxc] at p
    refine ⟨fun m σ H => ∃ ρ M F ι, Rel W M F H ι ∧ RelS W F ι ρ σ ∧ PoS W Wx D (loopW (fun ρ M => ztst Φ T t ρ M) (fun ρ M => zxs Φ T b ρ M) m ρ M) M F H ι, ⟨turns, ρ, M, F, ι, R, S, p⟩, ?_⟩
    rintro m σ1 H1 ⟨ρ1, M1, F1, ι1, R1, S1, p1⟩
    cases m with
    | zero => exact p1.elim
    | succ m =>
      simp only [loopW] at p1
      obtain ⟨ρ3, M3, F3, ι3, R3, S3, p3⟩ := stepS (rel := eqB) (r := ztst Φ T t) R1 S1 p1
      refine ⟨ρ3, M3, F3, ι3, R3, S3, p3.imp fun v H2 ⟨M2, F2, ι2, d, R2, S2, g2, r2, p2⟩ => ?_⟩
      cases r2
      cases v with
      | false =>
        rw [if_neg Bool.false_ne_true] at p2 ⊢
        exact p2 _ _ _ _ R2 Grow.refl S2
      | true =>
        rw [if_pos rfl] at p2 ⊢
        refine ⟨_, fun σ' H' z => z, ρ1, M2, F2, ι2, R2, S2, PoS.body (Z := D) rfl rfl (fun ρ' M' σ' F' H' ι' a b c q => ?_) p2⟩
        have z : ∃ m', m' < m + 1 ∧ ∃ ρ M F ι, Rel W M F H' ι ∧ RelS W F ι ρ σ' ∧ PoS W Wx D (loopW (fun ρ M => ztst Φ T t ρ M) (fun ρ M => zxs Φ T _ ρ M) m' ρ M) M F H' ι := ⟨m, Nat.lt_succ_self m, ρ', M', F', ι', a, c, q⟩
        exact ⟨z, z⟩
  · cases h
theorem s_fr {tg : Tg} {it : E} {b : List S} (ib : SsOk T Φ W k b) : SOk T Φ W k (.fr tg it b) := fun X Wx O x h => by
  simp only [chS] at h
  split at h
  · rename_i t i ys e1
    obtain ⟨pos, rfl⟩ := asFor_eq e1
    simp only [Bool.and_eq_true] at h
    obtain ⟨⟨⟨⟨h1, h2⟩, h3⟩, h4⟩, h5⟩ := h
    refine (ps_for O.own O.calm (walk_ok O.toOk h3 h2 h1) (pg_T (W := W) O.K O.nd O.calm (fun _ => O.fnt) tg h1) (ib X Wx O h5) (set_of h4)).imp fun D σ H ⟨ρ, M, F, ι, R, S, p⟩ => ?_
    simp only [zxc] at p
    obtain ⟨ρ0, M0, F0, ι0, R0, S0, p0⟩ := stepS (rel := relI W) R S p
    refine ⟨ρ0, M0, F0, ι0, R0, S0, p0.imp fun J H1 ⟨M1, F1, ι1, ds, R1, S1, g1, jok, p1⟩ => ?_⟩
    refine ⟨fun i m σ H => m = ds.length - i ∧ ∃ ρ M F ι, Rel W M F H ι ∧ RelS W F ι ρ σ ∧ Same F1 F ∧ Ext ι1 ι ∧ PoS W Wx D (loopF (fun d ρ M => match tg.put d ρ with | some ρ' => zxs Φ T b ρ' M | none => .bad) (ds.drop i) ρ M) M F H ι,
      ⟨ds.length, rfl, ρ, M1, F1, ι1, R1, S1, fun _ _ z => z, Ext.refl _, p1⟩, ?_⟩
    rintro n m σ2 H2 ⟨rfl, ρ2, M2, F2, ι2, R2, S2, sm, ex, p2⟩
    by_cases hn : n < ds.length
    · refine .inr ⟨jok.go n F2 H2 sm R2.sub hn, _, fun σ' H' z => z, fun x H3 y => ?_⟩
      have hd : ds[n]? = some ds[n] := List.getElem?_eq_getElem hn
      obtain ⟨F3, R3, g3, r3⟩ := jok.yld n M2 F2 H2 ι2 x H3 ds[n] sm ex R2 y hd
      rw [List.drop_eq_getElem_cons hn] at p2
      simp only [loopF] at p2
      cases ep : tg.put ds[n] ρ2 with
      | none => simp only [ep] at p2; exact p2.elim
      | some ρ' =>
        simp only [ep] at p2
        refine ⟨ρ2, M2, F3, ι2, ds[n], ρ', R3, S2.mono g3.f g3.i, r3, ep, fun σ3 S3 _ => ⟨ρ', M2, F3, ι2, R3, S3, PoS.body (Z := D) rfl rfl (fun ρ4 M4 σ4 F4 H4 ι4 a b c q => ?_) (p2.from g3)⟩⟩
        have z : ∃ m', m' < ds.length - n ∧ m' = ds.length - (n + 1) ∧ ∃ ρ M F ι, Rel W M F H4 ι ∧ RelS W F ι ρ σ4 ∧ Same F1 F ∧ Ext ι1 ι ∧ PoS W Wx D (loopF (fun d ρ M => match tg.put d ρ with | some ρ' => zxs Φ T _ ρ' M | none => .bad) (ds.drop (n + 1)) ρ M) M F H4 ι :=
          ⟨ds.length - (n + 1), by omega, rfl, ρ4, M4, F4, ι4, a, c, (sm.trans g3.f).trans b.f, (ex.trans g3.i).trans b.i, q⟩
        exact ⟨z, z⟩
    · refine .inl ⟨jok.stop n F2 H2 sm R2.sub (by omega), ?_⟩
      rw [List.drop_eq_nil_of_le (by omega)] at p2
      exact p2 _ _ _ _ R2 Grow.refl S2
  · cases h
/-! ### errors -/
theorem s_rai (c : Nat) (m : Str) : SOk T Φ W k (.rai c m) := fun X Wx O x h => by
  simp only [chS] at h
  split at h
  · rename_i y n e1
    obtain ⟨p1, j, p2, p3, pos, rfl⟩ := asRai_eq e1
    simp only [Bool.and_eq_true, decide_eq_true_eq] at h
    obtain ⟨⟨⟨⟨h1, h2⟩, rfl⟩, h4⟩, h5⟩ := h
    obtain ⟨C, hC, hm, kp, sb, ty⟩ := O.glo.cl c _ h1
    obtain ⟨B, n1, n2, bmB, FB, q⟩ := O.glo.raw c C h2 hC
    rw [← O.K] at kp sb ty q
    refine (ps_raise O.calm O.tk (pmk_own FB q hm kp (raises_own sb ty) (gl_of h4) (okn_of h5).1)).imp fun D σ H ⟨ρ, M, F, ι, R, S, p⟩ => ?_
    simp only [zxc, h2, if_true] at p
    exact p σ (.ref C) none F H ι R Grow.refl S ⟨C, [], hC, rfl, .nil, rfl, rfl⟩
  · cases h
/-- what a try's body lets out -/
theorem OkS.tr {X : Cx} {Wx W2 : WX} (O : OkS T Φ W k Wx X) {pn : List (Addr × Obj)} {xe : Value → Shared → Prop} (tk : Takes (X.tr pn xe) W2) (own : PassesOwn (model X.prog X.w) X.A X.env xe) : OkS T Φ W k W2 (X.tr pn xe) :=
  { K := O.K, nd := O.nd, room := O.room, gd := O.gd, calm := O.calm, glo := O.glo, tk := tk, own := own, kind := O.kind, fnt := O.fnt, stk := O.stk, frm := O.frm }
theorem cst_pe {X : Cx} {c : Const} {e : Dv.D} {j : Nat} {p : Pos} (h : cstD c = some e) : ∃ v, (∀ F ι, Rp W F ι v e) ∧ PE X (.Constant c j p) (tC v) := by
  cases c with
  | none => cases h; exact ⟨.non, fun _ _ => .non, pe_non⟩
  | bool b => cases h; exact ⟨.bl b, fun _ _ => .bl b, pe_bl⟩
  | int b => cases h; exact ⟨.int b, fun _ _ => .int b, pe_int⟩
  | str b => cases h; exact ⟨.str b, fun _ _ => .str b, pe_str⟩
  | _ => cases h
theorem s_tr1 {b : List Dv.S} (h : Nat) (c : Const) (ib : SsOk T Φ W k b) : SOk T Φ W k (.tr1 b h c) := fun X Wx O x hx => by
  simp only [chS] at hx
  split at hx
  · rename_i y n c' e1
    obtain ⟨p1, j, p2, p3, p4, pos, rfl⟩ := asTr1_eq e1
    simp only [Bool.and_eq_true, decide_eq_true_eq] at hx
    obtain ⟨⟨⟨⟨h1, rfl⟩, h3⟩, h4⟩, h5⟩ := hx
    obtain ⟨Ch, hCh, hm, _, _, _⟩ := O.glo.cl h _ h1
    -- what is wanted where the error is caught
    have core : ∀ ts : Addr → Value → Option Addr → TS, (∀ (a : Addr) (oe : Obj) (cls : Value) (d : Option Addr) (pn : List (Addr × Obj)), PSs (X.suite a ((a, oe) :: pn)) [.Return (some (.Constant c j p2)) p3] (ts a cls d)) →
        (∀ (D : Ends) (a : Addr) (cls : Value) (dx : Option Addr) (σ' : L2.St) (H' : Hp) (e : Dv.D), cstD c = some e → (∀ v, (∀ F ι, Rp W F ι v e) → D.rt v H') → ts a cls dx D σ' H') → PS X (.Try y [.ExceptHandler (some (.Name n p1)) none [.Return (some (.Constant c j p2)) p3] p4] [] [] pos) (tS W Wx (zxc Φ T (.tr1 b h c))) := fun ts hsu hts => by
      refine (ps_try_only O.stk O.frm (c := .ref Ch) ⟨gl_of h3, (okn_of h4).1, .inl hm⟩ O.tk (tb := fun W2 => tS W W2 (zxs Φ T b)) (ts := ts) (fun W2 pn xe tk own => ib _ W2 (O.tr tk own) h5) (fun a oe cls d pn _ _ => hsu a oe cls d pn)).imp fun D σ H ⟨ρ, M, F, ι, R, S, p⟩ => ⟨ρ, M, F, ι, R, S, ?_⟩
      simp only [zxc] at p
      cases ex : zxs Φ T b ρ M with
      | nx ρ1 M1 => rw [ex] at p; exact p
      | rt d M1 => rw [ex] at p; exact p
      | bk ρ1 M1 => rw [ex] at p; exact p
      | ct ρ1 M1 => rw [ex] at p; exact p
      | bad => rw [ex] at p; exact p
      | er er ρ1 M1 =>
        rw [ex] at p
        intro σ' cls dx F' H' ι' a1 a2 a3 a4
        obtain ⟨C, vs, hC, rfl, rv, hl, hd⟩ := id a4
        cases eh : T.ex er.c h with
        | none => simp only [eh] at p; exact p.elim
        | some t =>
          have em := O.glo.ex er.c h t C Ch eh hC hCh
          rw [← O.K] at em
          refine ⟨t, em, fun ht a na => ?_, fun hf => ?_⟩
          · subst ht
            simp only [eh] at p
            cases ec : cstD c with
            | none => simp only [ec] at p; exact p.elim
            | some e =>
              simp only [ec] at p
              exact hts D a _ dx σ' H' e ec fun v rv => p v F' H' ι' a1 a2 (rv F' ι')
          · subst hf
            simp only [eh] at p
            exact p σ' _ dx F' H' ι' a1 a2 a3 a4
    cases ec : cstD c with
    | none => exact core (fun _ _ _ => tNever) (fun _ _ _ _ _ => pss_never) fun D a cls dx σ' H' e he _ => by rw [ec] at he; cases he
    | some e =>
      exact core (fun _ _ _ D σ H => ∀ e, cstD c = some e → ∀ v, (∀ F ι, Rp W F ι v e) → D.rt v H) (fun a oe cls d pn => by
        obtain ⟨v, rv, pe⟩ := cst_pe (W := W) (X := X.suite a ((a, oe) :: pn)) (j := j) (p := p2) ec
        exact (pss_cons (ps_ret pe) pss_nil).imp fun D σ H q => q e ec v rv) fun D a cls dx σ' H' e he hv e' he' v rv => by
          rw [he] at he'
          cases he'
          exact hv v rv
  · cases hx
end
end Dv
end L2
/-! Dv: match, lists of statements, and all of them -/
namespace L2
namespace Dv
open PySem PySem.Spec PyProof.Rows

section
variable {T : Tb} {Φ : Calls} {W : Wd} {k : Nat}
/-- what a pattern took -/
inductive Took (W : Wd) (F : Hp) (ι : List Addr) (X : Cx) : List (Nat × Dv.D) → List (Str × Value) → Prop
  | nil : Took W F ι X [] []
  | cons {i : Nat} {d : Dv.D} {n : Str} {u : Value} {v : V} {l : List (Nat × Dv.D)} {bs : List (Str × Value)} : X.N[i]? = some n → locB X.env.scope n = true → RelV v u → Rp W F ι v d → Took W F ι X l bs → Took W F ι X ((i, d) :: l) ((n, u) :: bs)
theorem Took.app {F : Hp} {ι : List Addr} {X : Cx} : ∀ {l l' : List (Nat × Dv.D)} {bs bs' : List (Str × Value)}, Took W F ι X l bs → Took W F ι X l' bs' → Took W F ι X (l ++ l') (bs ++ bs')
  | _, _, _, _, .nil, h => h
  | _, _, _, _, .cons a b c d e, h => .cons a b c d (e.app h)
def PatR (W : Wd) (F : Hp) (ι : List Addr) (X : Cx) (res : Option (List (Nat × Dv.D))) (r : Option (List (Str × Value))) : Prop := match res with
  | some l => ∃ bs, r = some bs ∧ Took W F ι X l bs
  | none => r = none
def PatOk (T : Tb) (Φ : Calls) (W : Wd) (k : Nat) (p : Pt) : Prop := ∀ (X : Cx) (Wx : WX), OkS T Φ W k Wx X → ∀ {q : Pattern}, chP X.N X.env.scope p q = true → ∀ (pins : List (Addr × Obj)) (s : Shared) (σ : L2.St) (H F : Hp) (u : Value) (v : V) (d : Dv.D) (M : Mem) (ι : List Addr) (res : Option (List (Nat × Dv.D))) (Q : Option (List (Str × Value)) → Shared → Prop),
  Inv X pins σ H s → Rel W M F H ι → RelV v u → Rp W F ι v d → Pt.go M p d = some res → (∀ r s', Inv X pins σ H s' → PatR W F ι X res r → Q r s') → wpAny (model X.prog X.w) X.A (matchPattern q X.env u) Q X.xe s
def PatsOk (T : Tb) (Φ : Calls) (W : Wd) (k : Nat) (p : List Pt) : Prop := ∀ (X : Cx) (Wx : WX), OkS T Φ W k Wx X → ∀ {q : List Pattern}, chPs X.N X.env.scope p q = true → ∀ (pins : List (Addr × Obj)) (s : Shared) (σ : L2.St) (H F : Hp) (us : List Value) (vs : List V) (ds : List Dv.D) (M : Mem) (ι : List Addr) (res : Option (List (Nat × Dv.D))) (Q : Option (List (Str × Value)) → Shared → Prop),
  Inv X pins σ H s → Rel W M F H ι → Vals vs us → Rps W F ι vs ds → ds.length = p.length → Pt.gos M p ds = some res → (∀ r s', Inv X pins σ H s' → PatR W F ι X res r → Q r s') → wpAny (model X.prog X.w) X.A (matchEach q X.env us) Q X.xe s
theorem p_val (c : Const) : PatOk T Φ W k (.val c) := fun X Wx O q h pins s σ H F u v d M ι res Q I R rv r e hQ => by
  cases q with
  | MatchValue x p =>
    cases x with
    | Constant c' j p' =>
      simp only [chP, decide_eq_true_eq] at h
      subst h
      simp only [Pt.go] at e
      split at e
      · rename_i e' ec
        obtain ⟨v2, r2, pe⟩ := cst_pe (W := W) (X := X) (j := j) (p := p') ec
        refine wpAny_matchPattern_Value (thn (pe.run pins s σ H (fun z H' => z = v2 ∧ H' = H) I ⟨rfl, rfl⟩) fun u2 s1 ⟨z, H1, I1, rz, e1, e2⟩ => ?_)
        subst e1
        subst e2
        have key : ∀ b, eqD M d e' = some b → (∀ r s', Inv X pins σ H1 s' → PatR W F ι X (if b then some [] else none) r → Q r s') → wpAny (model X.prog X.w) X.A (compareOp .Eq u u2) (fun c s₂ => wpAny (model X.prog X.w) X.A (truthy c) (fun b s₃ => if b then Q (some []) s₃ else Q none s₃) X.xe s₂) X.xe s1 := fun b hb hq => by
          refine thn (op_eqW O.K O.toOk.un pins s1 σ H1 v z u u2 (fun y H' => y = .bl b ∧ H' = H1) I1 rv rz ⟨M, F, ι, d, e', b, R, r, r2 F ι, hb, rfl, rfl⟩) fun c s2 ⟨y, H2, I2, ry, e1, e2⟩ => ?_
          subst e1
          subst e2
          cases ry
          refine wpAny_truthy_bool ?_
          cases b with
          | true => exact hq _ _ I2 ⟨[], rfl, .nil⟩
          | false => exact hq _ _ I2 rfl
        split at e
        · rename_i eb
          cases e
          exact key true eb (fun r s' i p => hQ r s' i p)
        · rename_i eb
          cases e
          exact key false eb (fun r s' i p => hQ r s' i p)
        · cases e
      · cases e
    | _ => simp [chP] at h
  | _ => simp [chP] at h
theorem p_alts (X : Cx) (Wx : WX) (O : OkS T Φ W k Wx X) (pins : List (Addr × Obj)) (σ : L2.St) (H F : Hp) (u : Value) (v : V) (d : Dv.D) (M : Mem) (ι : List Addr) (R : Rel W M F H ι) (rv : RelV v u) (r : Rp W F ι v d) :
    ∀ (ps : List Pt) (qs : List Pattern), chPs X.N X.env.scope ps qs = true → chNo X.N ps = true → ∀ (res : Option (List (Nat × Dv.D))) (s : Shared) (Q : Option (List (Str × Value)) → Shared → Prop), Inv X pins σ H s → Pt.alts M ps d = some res →
      (∀ r s', Inv X pins σ H s' → PatR W F ι X res r → (∀ l, res = some l → l = []) → Q r s') → wpAny (model X.prog X.w) X.A (matchFirst qs X.env u) Q X.xe s
  | [], [], _, _, res, s, Q, I, e, hQ => by
    simp only [Pt.alts] at e
    cases e
    exact wpAny_matchFirst_nil (hQ _ _ I rfl fun l z => by cases z)
  | p :: ps, q :: qs, h, hn, res, s, Q, I, e, hQ => by
    simp only [chPs, Bool.and_eq_true] at h
    cases p with
    | val c =>
      simp only [chNo] at hn
      rw [Pt.alts] at e
      cases zev : Pt.go M (.val c) d with
      | none => rw [zev] at e; cases e
      | some r0 =>
        rw [zev] at e
        refine wpAny_matchFirst_cons (p_val c X Wx O h.1 pins s σ H F u v d M ι r0 _ I R rv r zev fun r1 s' I' pr => ?_)
        cases r0 with
        | some l =>
          have hl : l = [] := by
            simp only [Pt.go] at zev
            split at zev
            · split at zev <;> cases zev
              rfl
            · cases zev
          subst hl
          cases e
          obtain ⟨bs, rfl, tk⟩ := pr
          exact hQ _ _ I' ⟨bs, rfl, tk⟩ fun l z => by cases z; rfl
        | none =>
          have : r1 = none := pr
          subst this
          exact p_alts X Wx O pins σ H F u v d M ι R rv r ps qs h.2 hn res s' Q I' e hQ
    | _ => simp [chNo] at hn
  | [], _ :: _, h, _, _, _, _, _, _, _ => by simp [chPs] at h
  | _ :: _, [], h, _, _, _, _, _, _, _ => by simp [chPs] at h
theorem first_names {N : List Str} {sc : Scope} {ps : List Pt} {qs : List Pattern} (h : chPs N sc ps qs = true) (hn : chNo N ps = true) : namesOfAll (qs.take 1) = [] := by
  match ps, qs, h with
  | [], [], _ => rfl
  | [], _ :: _, h => simp [chPs] at h
  | _ :: _, [], h => simp [chPs] at h
  | p :: ps, q :: qs, h =>
    simp only [chPs, Bool.and_eq_true] at h
    cases p with
    | val c =>
      cases q with
      | MatchValue x p => rfl
      | _ => simp [chP] at h
    | _ => simp [chNo] at hn
theorem pats_plain {N : List Str} {sc : Scope} : ∀ {ps : List Pt} {qs : List Pattern}, chPs N sc ps qs = true → qs.length = ps.length ∧ qs.findIdx? (·.isStar) = none ∧ (qs.all fun p => p.isWildcard || (p.isStar && p.names.isEmpty)) = (ps.all fun p => match p with | .wild => true | _ => false)
  | [], [], _ => ⟨rfl, rfl, rfl⟩
  | [], _ :: _, h => by simp [chPs] at h
  | _ :: _, [], h => by simp [chPs] at h
  | p :: ps, q :: qs, h => by
    simp only [chPs, Bool.and_eq_true] at h
    obtain ⟨h1, h2, h3⟩ := pats_plain h.2
    have hs : q.isStar = false := by
      cases q <;> first | rfl | (cases p <;> simp [chP] at h)
    have hw : q.isWildcard = (match p with | .wild => true | _ => false) := by
      have h0 := h.1
      unfold chP at h0
      split at h0 <;> first | rfl | (cases h0; done)
    refine ⟨by simp [h1], by rw [List.findIdx?_cons, hs]; simp [h2], ?_⟩
    rw [List.all_cons, List.all_cons, h3, hs, hw]
    cases p <;> simp
mutual
theorem pat_ok : ∀ p : Pt, PatOk T Φ W k p
  | .wild => fun X Wx O q h pins s σ H F u v d M ι res Q I R rv r e hQ => by
    simp only [Pt.go] at e
    cases e
    cases q with
    | MatchAs p n pos =>
      cases p with
      | some _ => simp [chP] at h
      | none =>
        cases n with
        | some _ => simp [chP] at h
        | none => exact wpAny_matchPattern_Capture (hQ _ _ I ⟨[], rfl, .nil⟩)
    | _ => simp [chP] at h
  | .cap i => fun X Wx O q h pins s σ H F u v d M ι res Q I R rv r e hQ => by
    simp only [Pt.go] at e
    cases e
    cases q with
    | MatchAs p n pos =>
      cases p with
      | some _ => simp [chP] at h
      | none =>
        cases n with
        | none => simp [chP] at h
        | some x =>
          simp only [chP, Bool.and_eq_true, decide_eq_true_eq] at h
          exact wpAny_matchPattern_Capture (hQ _ _ I ⟨[(x, u)], rfl, .cons h.1.1 h.1.2 rv r .nil⟩)
    | _ => simp [chP] at h
  | .val c => p_val c
  | .alt ps => fun X Wx O q h pins s σ H F u v d M ι res Q I R rv r e hQ => by
    cases q with
    | MatchOr qs pos =>
      simp only [chP, Bool.and_eq_true] at h
      simp only [Pt.go] at e
      refine wpAny_matchPattern_Or (p_alts X Wx O pins σ H F u v d M ι R rv r ps qs h.1 h.2 res s _ I e fun r1 s' I' pr hl => ?_)
      cases res with
      | none =>
        have : r1 = none := pr
        subst this
        exact hQ _ _ I' rfl
      | some l =>
        obtain ⟨bs, rfl, tk⟩ := pr
        have := hl l rfl
        subst this
        cases tk
        have e1 := first_names h.1 h.2
        show Q (some ((namesOfAll (qs.take 1)).filterMap _)) s'
        rw [e1]
        exact hQ _ _ I' ⟨[], rfl, .nil⟩
    | _ => simp [chP] at h
  | .seq ps => fun X Wx O q h pins s σ H F u v d M ι res Q I R rv r e hQ => by
    cases q with
    | MatchSequence qs pos =>
      simp only [chP, Bool.and_eq_true, Bool.not_eq_true', decide_eq_true_eq] at h
      obtain ⟨⟨h1, h2⟩, h3⟩ := h
      obtain ⟨g1, g2, g3⟩ := pats_plain h1
      replace g3 := g3.trans h2
      cases r with
      | @tup a vs ds sq rs =>
        have hq : SqT X.K H a vs := by rw [O.K]; exact Same.seqT R.sub sq
        cases (show u = Value.ref a from rv)
        obtain ⟨its, rv', ht, hz⟩ := I.tuple hq
        have hn := line63
        have hlen : its.length = ds.length := by rw [← rv'.length, rs.length]
        have hsz : its.toArray.size = ds.length := by simpa using hlen
        have hfit : (its.toArray.size : Int) < 2 ^ 63 := by
          have := rs.length
          omega
        simp only [Pt.go] at e
        have I1 : Inv X pins σ H { s with toks := s.toks + 1 + 1 } := I.tok _
        split at e
        · rename_i hl
          refine matchSeq_tuple_hit ht hfit (by rw [hsz, hl, g1]) ?_ g2 g3
          have hp : qs.length = its.toArray.size := by rw [hsz, hl, g1]
          rw [hp]
          refine unpackItems_tuple (I.ok.hd O.calm) ht fun h' hx => ?_
          have I2 : Inv X pins σ H { s with heap := h', toks := s.toks + 1 + 1 } := I.kept (t' := s.toks + 1 + 1) fun b o e => hx b o (Nat.ne_of_lt (Heap.lt_size e)) e
          exact pats_ok ps X Wx O h1 pins _ σ H F its vs ds M ι res Q I2 R rv' rs hl e hQ
        · rename_i hl
          cases e
          exact matchSeq_tuple_miss ht hfit (by rw [hsz, g1]; exact hl) (hQ _ _ I1 rfl) g2 g3
      | _ => simp [Pt.go] at e
    | _ => simp [chP] at h
theorem pats_ok : ∀ p : List Pt, PatsOk T Φ W k p
  | [] => fun X Wx O q h pins s σ H F us vs ds M ι res Q I R rv r hl e hQ => by
    cases q with
    | cons _ _ => simp [chPs] at h
    | nil =>
      have e' : res = some [] := by cases ds <;> (simp only [Pt.gos] at e; cases e; rfl)
      subst e'
      exact wpAny_matchEach_nil (hQ _ _ I ⟨[], rfl, .nil⟩)
  | p :: ps => fun X Wx O q h pins s σ H F us vs ds M ι res Q I R rv r hl e hQ => by
    cases q with
    | nil => simp [chPs] at h
    | cons q qs =>
      simp only [chPs, Bool.and_eq_true] at h
      cases r with
      | nil => simp at hl
      | @cons v vs d ds r rs =>
        cases rv with
        | cons rv rvs =>
          rename_i u us
          have hs : q.isStar = false := by
            have h0 := h.1
            cases q <;> first | rfl | (cases p <;> simp [chP] at h0)
          simp only [Pt.gos] at e
          cases e1 : Pt.go M p d with
          | none => rw [e1] at e; simp at e
          | some r0 =>
            rw [e1] at e
            refine wpAny_matchEach_cons (pat_ok p X Wx O h.1 pins s σ H F u v d M ι r0 _ I R rv r e1 fun r1 s1 I1 pr => ?_) hs
            cases r0 with
            | none =>
              have : r1 = none := pr
              subst this
              simp only at e
              cases e
              exact hQ _ _ I1 rfl
            | some l =>
              obtain ⟨bs, rfl, tk⟩ := pr
              simp only at e
              cases e2 : Pt.gos M ps ds with
              | none => rw [e2] at e; simp at e
              | some r2 =>
                rw [e2] at e
                refine pats_ok ps X Wx O h.2 pins s1 σ H F us vs ds M ι r2 _ I1 R rvs rs (by simpa using hl) e2 fun r3 s2 I2 pr => ?_
                cases r2 with
                | none =>
                  have : r3 = none := pr
                  subst this
                  simp only at e
                  cases e
                  exact hQ _ _ I2 rfl
                | some l2 =>
                  obtain ⟨bs2, rfl, tk2⟩ := pr
                  simp only at e
                  cases e
                  exact hQ _ _ I2 ⟨bs ++ bs2, rfl, tk.app tk2⟩
end
theorem took_store {X : Cx} {Wx : WX} (O : OkS T Φ W k Wx X) {F : Hp} {ι : List Addr} {pins : List (Addr × Obj)} {H : Hp} {Q : Unit → Shared → Prop} : ∀ {l : List (Nat × Dv.D)} {bs : List (Str × Value)} {s : Shared} {σ : L2.St} {ρ : Env'}, Took W F ι X l bs → Inv X pins σ H s → RelS W F ι ρ σ →
    (∀ s' σ', Inv X pins σ' H s' → RelS W F ι (sets ρ l) σ' → Q () s') → wpAny (model X.prog X.w) X.A (assignInOrder (bs.map fun (n, _) => bindName X.env n) (bs.map (·.2))) Q X.xe s
  | _, _, s, σ, ρ, .nil, I, S, h => wpAny_assignInOrder_none (h _ _ I S)
  | _, _, s, σ, ρ, .cons a b c d tk, I, S, h => by
    refine wpAny_assignInOrder_more (bindName_ (store_ok I O.nd a (loc_of b) c (fun s' I' => ?_) (.inl (O.fnt _))))
    exact took_store O tk I' (S.set _ d) h
theorem m_ok {X : Cx} {Wx : WX} (O : OkS T Φ W k Wx X) {pins : List (Addr × Obj)} {σ : L2.St} {H : Hp} {D : Ends} {u : Value} {v : V} {d : Dv.D} {M : Mem} {F : Hp} {ι : List Addr} {ρ : Env'} (R : Rel W M F H ι) (S : RelS W F ι ρ σ) (rv : RelV v u) (r : Rp W F ι v d) :
    ∀ (ps : List Pt) (bs : List (List Dv.S)) (cs : List MatchCase), (∀ b ∈ bs, SsOk T Φ W k b) → chCs T X.N X.env.scope ps bs cs = true → ∀ (s : Shared) (first : Bool), Inv X pins σ H s → PoS W Wx D (zxm Φ T ps bs d ρ M) M F H ι →
      wpAny (model X.prog X.w) X.A (matchCases cs X.env u first) (SP X pins D) X.xe s
  | [], [], [], _, _, s, first, I, p => wpAny_matchCases_nil ⟨σ, H, I, p _ _ _ _ R Grow.refl S⟩
  | q :: ps, b :: bs, ⟨q', g, c⟩ :: cs, hb, h, s, first, I, p => by
    cases g with
    | some _ => simp [chCs] at h
    | none =>
      simp only [chCs, Bool.and_eq_true] at h
      obtain ⟨⟨h1, h2⟩, h3⟩ := h
      rw [zxm] at p
      cases e : Pt.go M q d with
      | none => rw [e] at p; exact p.elim
      | some res =>
        rw [e] at p
        refine wpAny_matchCases_cons (pat_ok q X Wx O h1 pins s σ H F u v d M ι res _ I R rv r e fun r1 s' I' pr => ?_)
        cases res with
        | none =>
          have : r1 = none := pr
          subst this
          exact m_ok O R S rv r ps bs cs (fun b hb' => hb b (List.mem_cons_of_mem _ hb')) h3 s' false I' p
        | some l =>
          obtain ⟨bs', rfl, tk⟩ := pr
          refine took_store O tk I' S fun s2 σ2 I2 S2 => ?_
          exact (hb b List.mem_cons_self X Wx O h2).run pins s2 σ2 H D I2 ⟨_, M, F, ι, R, S2, p⟩
  | [], _ :: _, _, _, h, _, _, _, _ => by simp [chCs] at h
  | _ :: _, [], _, _, h, _, _, _, _ => by simp [chCs] at h
  | _ :: _, _ :: _, [], _, h, _, _, _, _ => by simp [chCs] at h
  | [], [], _ :: _, _, h, _, _, _, _ => by simp [chCs] at h
theorem s_mat {e : E} {ps : List Pt} {bs : List (List Dv.S)} (ib : ∀ b ∈ bs, SsOk T Φ W k b) : SOk T Φ W k (.mat e ps bs) := fun X Wx O x h => by
  simp only [chS] at h
  split at h
  · rename_i y cs e1
    obtain ⟨pos, rfl⟩ := asMat_eq e1
    simp only [Bool.and_eq_true] at h
    refine ⟨fun pins s σ H D I q => ?_⟩
    obtain ⟨ρ, M, F, ι, R, S, p⟩ := q
    simp only [zxc] at p
    refine wpAny_Match (thn ((ex_ok O h.1).run pins s σ H _ I (stepS (rel := Rp W) R S p)) fun u s1 ⟨v, H1, I1, rv, M1, F1, ι1, d, R1, S1, g1, r1, p1⟩ => ?_)
    exact m_ok O R1 S1 rv r1 ps bs cs ib h.2 s1 true I1 p1
  · cases h
/-! ### lists of statements -/
theorem ss_nil : SsOk T Φ W k [] := fun X Wx O x h => by
  cases x with
  | cons _ _ => simp [chSs] at h
  | nil => exact pss_nil.imp fun D σ H ⟨ρ, M, F, ι, R, S, p⟩ => p _ _ _ _ R Grow.refl S
theorem ss_frz {i : Nat} {r : List Dv.S} (ir : SsOk T Φ W k r) : SsOk T Φ W k (.frz i :: r) := fun X Wx O x h => by
  simp only [chSs] at h
  refine (ir X Wx O h).imp fun D σ H ⟨ρ, M, F, ι, R, S, p⟩ => ?_
  cases e1 : ρ[i]? with
  | none => simp only [zxs, zxc, e1] at p; exact p.elim
  | some o =>
    cases o with
    | none => simp only [zxs, zxc, e1] at p; exact p.elim
    | some d0 =>
      cases d0 with
      | loc n =>
        cases e2 : M[n]? with
        | none => simp only [zxs, zxc, e1, e2] at p; exact p.elim
        | some mo =>
          cases mo with
          | none => simp only [zxs, zxc, e1, e2] at p; exact p.elim
          | some m =>
            cases m with
            | lst ds =>
              simp only [zxs, zxc, e1, e2] at p
              obtain ⟨v, g1, g2⟩ := S.at_ i _ e1
              obtain ⟨a, vs, rfl, ha, hH, rv⟩ := loc_lst R g2 e2
              have lv : live M n := ⟨_, e2⟩
              have gr := Grow.freeze (o := .lst vs) R ha lv
              have S' := (S.mono gr.f gr.i).set i (v := .ref a) (d := .lst ds) (.lst upd_same (rv.mono gr.f gr.i))
              refine ⟨_, _, _, ι, R.freeze ha lv hH, ?_, p.from gr⟩
              have : σ.set i (some (.ref a)) = σ := by
                apply List.ext_getElem?
                intro j
                by_cases hj : i = j
                · subst hj
                  rw [List.getElem?_set_self (List.getElem?_eq_some_iff.mp g1).1, g1]
                · rw [List.getElem?_set_ne hj]
              rw [this] at S'
              exact S'
            | _ => simp only [zxs, zxc, e1, e2] at p; exact p.elim
      | _ => simp only [zxs, zxc, e1] at p; exact p.elim
theorem ss_cons {s : Dv.S} {r : List Dv.S} (hs : ∀ i, s ≠ .frz i) (is : SOk T Φ W k s) (ir : SsOk T Φ W k r) : SsOk T Φ W k (s :: r) := fun X Wx O x h => by
  have h' : ∃ y ys, x = y :: ys ∧ chS T X.N X.env.scope s y = true ∧ chSs T X.N X.env.scope r ys = true := by
    have h0 : (match (generalizing := false) x with | y :: ys => chS T X.N X.env.scope s y && chSs T X.N X.env.scope r ys | [] => false) = true := by
      cases s with
      | frz i => exact absurd rfl (hs i)
      | _ => exact h
    split at h0
    · simp only [Bool.and_eq_true] at h0
      exact ⟨_, _, rfl, h0.1, h0.2⟩
    · cases h0
  obtain ⟨y, ys, rfl, h1, h2⟩ := h'
  refine (pss_cons (is X Wx O h1) (ir X Wx O h2)).imp fun D σ H ⟨ρ, M, F, ι, R, S, p⟩ => ⟨ρ, M, F, ι, R, S, ?_⟩
  simp only [zxs] at p
  cases e : zxc Φ T s ρ M with
  | nx ρ1 M1 =>
    rw [e] at p
    exact fun σ' F' H' ι' a b c => ⟨ρ1, M1, F', ι', a, c, p.from b⟩
  | rt d M1 => rw [e] at p; exact p
  | bk ρ1 M1 => rw [e] at p; exact p
  | ct ρ1 M1 => rw [e] at p; exact p
  | er x ρ1 M1 => rw [e] at p; exact p
  | bad => rw [e] at p; exact p
theorem ss_step {s : Dv.S} {r : List Dv.S} (is : SOk T Φ W k s) (ir : SsOk T Φ W k r) : SsOk T Φ W k (s :: r) := by
  cases s with
  | frz i => exact ss_frz ir
  | _ => exact ss_cons (fun i z => by cases z) is ir
def AllSs (T : Tb) (Φ : Calls) (W : Wd) (k : Nat) (l : List (List Dv.S)) : Prop := ∀ b ∈ l, SsOk T Φ W k b
theorem alls_cons {a : List Dv.S} {l : List (List Dv.S)} (h : SsOk T Φ W k a) (t : AllSs T Φ W k l) : AllSs T Φ W k (a :: l) := fun b hb => by
  rcases List.mem_cons.mp hb with rfl | h'
  · exact h
  · exact t b h'
mutual
theorem s_ok : ∀ s : Dv.S, SOk T Φ W k s
  | .exp e => s_exp e
  | .set tg e => s_set tg e
  | .par i j a b => s_par i j a b
  | .aug i op e => s_aug i op e
  | .sst o i e => s_sst o i e
  | .ite t a b => s_ite (ss_ok a) (ss_ok b)
  | .whl t b => s_whl (ss_ok b)
  | .fr tg it b => s_fr (ss_ok b)
  | .ret e => s_ret e
  | .retN => s_retN
  | .pass => s_pass
  | .brk => s_brk
  | .cnt => s_cnt
  | .mat e ps bs => s_mat (sss_ok bs)
  | .frz i => s_frz i
  | .rai c m => s_rai c m
  | .tr1 b h c => s_tr1 h c (ss_ok b)
theorem ss_ok : ∀ l : List Dv.S, SsOk T Φ W k l
  | [] => ss_nil
  | s :: r => ss_step (s_ok s) (ss_ok r)
theorem sss_ok : ∀ l : List (List Dv.S), AllSs T Φ W k l
  | [] => fun b h => nomatch h
  | a :: l => alls_cons (ss_ok a) (sss_ok l)
end
end
end Dv
end L2
/-! Dv: a call's end, defs, all defs -/
namespace L2
namespace Dv
open PySem PySem.Spec PyProof.Rows

section
variable {W : Wd} {F F' H H' : Hp} {ι ι' : List Addr} {n : Nat}
/-! ### what has only places below n -/
mutual
theorem Rp.low : ∀ {v : V} {d : Dv.D}, Rp W F ι v d → d.bel n = true → Rp W F (ι.take n) v d
  | _, _, .non, _ => .non
  | _, _, .bl b, _ => .bl b
  | _, _, .int i, _ => .int i
  | _, _, .str x, _ => .str x
  | _, _, .tup h r, b => .tup h (r.low (by simpa only [D.bel] using b))
  | _, _, .lst h r, b => .lst h (r.low (by simpa only [D.bel] using b))
  | _, _, .ro h r, b => .ro h (r.low (by simpa only [D.bel] using b))
  | _, _, .dic h r1 r2, b => by
    simp only [D.bel, Bool.and_eq_true] at b
    exact .dic h (r1.low b.1) (r2.low b.2)
  | _, _, .obj hc h l r, b => .obj hc h l (r.low (by simpa only [D.bel] using b))
  | _, _, .loc (n := k) h, b => .loc (by
    simp only [D.bel, decide_eq_true_eq] at b
    rw [List.getElem?_take_of_lt b]
    exact h)
theorem Rps.low : ∀ {vs : List V} {ds : List Dv.D}, Rps W F ι vs ds → D.bels n ds = true → Rps W F (ι.take n) vs ds
  | _, _, .nil, _ => .nil
  | _, _, .cons r rs, b => by
    simp only [D.bels, Bool.and_eq_true] at b
    exact .cons (r.low b.1) (rs.low b.2)
end
theorem MRp.low {o : HO} {m : MO} : MRp W F ι o m → m.bel n = true → MRp W F (ι.take n) o m
  | .lst r, b => .lst (r.low (by simpa only [MO.bel] using b))
  | .dic r1 r2, b => by
    simp only [MO.bel, Bool.and_eq_true] at b
    exact .dic (r1.low b.1) (r2.low b.2)
  | .ins hc l r, b => .ins hc l (r.low (by simpa only [MO.bel] using b))
mutual
theorem Rp.bel : ∀ {v : V} {d : Dv.D}, Rp W F ι v d → d.bel ι.length = true
  | _, _, .non => rfl
  | _, _, .bl b => rfl
  | _, _, .int i => rfl
  | _, _, .str x => rfl
  | _, _, .tup h r => by simp only [D.bel]; exact r.bel
  | _, _, .lst h r => by simp only [D.bel]; exact r.bel
  | _, _, .ro h r => by simp only [D.bel]; exact r.bel
  | _, _, .dic h r1 r2 => by simp only [D.bel, Bool.and_eq_true]; exact ⟨r1.bel, r2.bel⟩
  | _, _, .obj hc h l r => by simp only [D.bel]; exact r.bel
  | _, _, .loc h => by simp only [D.bel, decide_eq_true_eq]; exact (List.getElem?_eq_some_iff.mp h).1
theorem Rps.bel : ∀ {vs : List V} {ds : List Dv.D}, Rps W F ι vs ds → D.bels ι.length ds = true
  | _, _, .nil => rfl
  | _, _, .cons r rs => by simp only [D.bels, Bool.and_eq_true]; exact ⟨r.bel, rs.bel⟩
end
theorem MRp.bel {o : HO} {m : MO} : MRp W F ι o m → m.bel ι.length = true
  | .lst r => by simp only [MO.bel]; exact r.bel
  | .dic r1 r2 => by simp only [MO.bel, Bool.and_eq_true]; exact ⟨r1.bel, r2.bel⟩
  | .ins hc l r => by simp only [MO.bel]; exact r.bel
theorem old_at : ∀ {M0 M : Mem} {k : Nat} {m : MO}, oldOk n M0 M = true → M[k]? = some (some m) → M0[k]? = some (some m) ∨ m.bel n = true
  | _, [], _, _, _, e => by simp at e
  | [], none :: r, 0, _, _, e => by simp at e
  | [], none :: r, k + 1, _, h, e => (old_at (M0 := []) (M := r) (by simpa only [oldOk] using h) (by simpa using e)).elim (fun z => by simp at z) .inr
  | [], some o :: r, 0, m, h, e => by
    simp only [oldOk, Bool.and_eq_true] at h
    have : o = m := by simpa using e
    rw [← this]
    exact .inr h.1
  | [], some o :: r, k + 1, _, h, e => by
    simp only [oldOk, Bool.and_eq_true] at h
    exact (old_at h.2 (by simpa using e)).elim (fun z => by simp at z) .inr
  | _ :: q, none :: r, 0, _, _, e => by simp at e
  | u :: q, none :: r, k + 1, _, h, e => (old_at (M0 := q) (M := r) (by cases u <;> simpa only [oldOk] using h) (by simpa using e)).elim (fun z => .inl (by simpa using z)) .inr
  | none :: q, some o :: r, 0, m, h, e => by
    simp only [oldOk, Bool.and_eq_true] at h
    have : o = m := by simpa using e
    rw [← this]
    exact .inr h.1
  | none :: q, some o :: r, k + 1, _, h, e => by
    simp only [oldOk, Bool.and_eq_true] at h
    exact (old_at h.2 (by simpa using e)).elim (fun z => .inl (by simpa using z)) .inr
  | some u :: q, some o :: r, 0, m, h, e => by
    simp only [oldOk, Bool.and_eq_true, Bool.or_eq_true] at h
    have : o = m := by simpa using e
    rw [← this]
    rcases h.1 with z | z
    · exact .inl (by rw [MO.beq_eq z]; rfl)
    · exact .inr z
  | some u :: q, some o :: r, k + 1, _, h, e => by
    simp only [oldOk, Bool.and_eq_true] at h
    exact (old_at h.2 (by simpa using e)).elim (fun z => .inl (by simpa using z)) .inr
theorem Rel.belM {M : Mem} (R : Rel W M F H ι) {k : Nat} {m : MO} (e : M[k]? = some (some m)) : m.bel M.length = true := by
  have hk : k < ι.length := by rw [R.len]; exact (List.getElem?_eq_some_iff.mp e).1
  obtain ⟨o, _, h2⟩ := R.has k ι[k] m (List.getElem?_eq_getElem hk) e
  rw [← R.len]
  exact h2.bel
theorem take_at {α : Type} {l : List α} {k : Nat} {x : α} (h : (l.take n)[k]? = some x) : k < n ∧ l[k]? = some x := by
  by_cases hk : k < n
  · rw [List.getElem?_take_of_lt hk] at h
    exact ⟨hk, h⟩
  · rw [List.getElem?_eq_none (by simp; omega)] at h
    cases h
theorem live_take {M : Mem} {k : Nat} (l : live (M.take n) k) : k < n ∧ live M k := by
  obtain ⟨o, e⟩ := l
  obtain ⟨h1, h2⟩ := take_at e
  exact ⟨h1, o, h2⟩
theorem Rel.trim {M : Mem} (R : Rel W M F H ι) (ok : ∀ (k : Nat) (m : MO), (M.take n)[k]? = some (some m) → m.bel n = true) : Rel W (M.take n) F H (ι.take n) where
  sub := R.sub
  len := by rw [List.length_take, List.length_take, R.len]
  nd := R.nd.sublist (List.take_sublist _ _)
  trk := fun k a e => R.trk k a (take_at e).2
  off := fun k a e l => R.off k a (take_at e).2 (live_take l).2
  has := fun k a m e l => by
    obtain ⟨o, h1, h2⟩ := R.has k a m (take_at e).2 (take_at l).2
    exact ⟨o, h1, h2.low (ok k m l)⟩
theorem Grow.trim {M M' : Mem} (R : Rel W M F H ι) (g : Grow M F H ι M' F' H' ι') (hn : n = M.length) : Grow M F H ι (M'.take n) F' H' (ι'.take n) where
  f := g.f
  i := fun k a e => by
    have hk : k < n := by rw [hn, ← R.len]; exact (List.getElem?_eq_some_iff.mp e).1
    rw [List.getElem?_take_of_lt hk]
    exact g.i k a e
  keep := g.keep
  there := g.there
  fresh := fun k a e => g.fresh k a (take_at e).2
  lv := fun k a e l => g.lv k a e (live_take l).2
  fz := g.fz
theorem take_set {M : Mem} {k : Nat} (h : n ≤ k) : (M.set k none).take n = M.take n := by
  apply List.ext_getElem?
  intro j
  by_cases hj : j < n
  · rw [List.getElem?_take_of_lt hj, List.getElem?_take_of_lt hj, List.getElem?_set_ne (by omega)]
  · rw [List.getElem?_eq_none (by simp; omega), List.getElem?_eq_none (by simp; omega)]
/-- THE END OF A CALL: places made within are forgotten, the value is taken as it stands -/
theorem trim_ok {M M' : Mem} {v : V} {d e : Dv.D} (R0 : Rel W M F H ι) (hn : n = M.length) (R : Rel W M' F' H' ι') (g : Grow M F H ι M' F' H' ι') (r : Rp W F' ι' v d) (he : res M' n d = some e) (ok0 : oldOk n M (M'.take n) = true) :
    ∃ F2, Rel W (M'.take n) F2 H' (ι'.take n) ∧ Grow M F H ι (M'.take n) F2 H' (ι'.take n) ∧ Rp W F2 (ι'.take n) v e := by
  have ok : ∀ (k : Nat) (m : MO), (M'.take n)[k]? = some (some m) → m.bel n = true := fun k m e => (old_at ok0 e).elim (fun z => by rw [hn]; exact R0.belM z) id
  have plain : d.bel n = true → e = d → ∃ F2, Rel W (M'.take n) F2 H' (ι'.take n) ∧ Grow M F H ι (M'.take n) F2 H' (ι'.take n) ∧ Rp W F2 (ι'.take n) v e := fun hb z => by
    subst z
    exact ⟨F', R.trim ok, g.trim R0 hn, r.low hb⟩
  have other : (∀ k, d ≠ .loc k) → ∃ F2, Rel W (M'.take n) F2 H' (ι'.take n) ∧ Grow M F H ι (M'.take n) F2 H' (ι'.take n) ∧ Rp W F2 (ι'.take n) v e := fun hl => by
    have h1 : (if d.bel n then some d else none) = some e := by
      cases d <;> first | exact he | exact absurd rfl (hl _)
    by_cases hb : d.bel n = true
    · rw [if_pos hb] at h1
      exact plain hb (by cases h1; rfl)
    · rw [if_neg hb] at h1
      cases h1
  cases r with
  | @loc k a ha =>
    by_cases hk : k < n
    · refine plain (by simpa only [D.bel, decide_eq_true_eq] using hk) ?_
      simp only [res, if_pos hk] at he
      cases he
      rfl
    · simp only [res, if_neg hk] at he
      have fin : ∀ (m : MO) (o : HO), M'[k]? = some (some m) → H' a = some o → (Rp W (upd F' a o) (ι'.take n) (.ref a) e) → ∃ F2, Rel W (M'.take n) F2 H' (ι'.take n) ∧ Grow M F H ι (M'.take n) F2 H' (ι'.take n) ∧ Rp W F2 (ι'.take n) (.ref a) e := fun m o hm ho hr => by
        have lv : live M' k := ⟨m, hm⟩
        have R2 := R.freeze ha lv ho
        have e1 : (M'.set k none).take n = M'.take n := take_set (by omega)
        have R3 := R2.trim (n := n) (by rw [e1]; exact ok)
        have g3 := (g.trans (Grow.freeze (o := o) R ha lv)).trim R0 hn
        rw [e1] at R3 g3
        exact ⟨_, R3, g3, hr⟩
      have sm : ∀ o : HO, H' a = some o → live M' k → Same F' (upd F' a o) := fun o ho lv => same_upd (R.off k a ha lv)
      split at he
      · rename_i zxs em
        split at he
        · rename_i hb
          cases he
          obtain ⟨o, ho, mr⟩ := R.has k a _ ha em
          cases mr with
          | lst rs => exact fin _ _ em ho (.lst upd_same ((rs.low hb).mono (sm _ ho ⟨_, em⟩) (Ext.refl _)))
        · cases he
      · rename_i ks vs em
        split at he
        · rename_i hb
          simp only [Bool.and_eq_true] at hb
          cases he
          obtain ⟨o, ho, mr⟩ := R.has k a _ ha em
          cases mr with
          | dic r1 r2 => exact fin _ _ em ho (.dic upd_same ((r1.low hb.1).mono (sm _ ho ⟨_, em⟩) (Ext.refl _)) ((r2.low hb.2).mono (sm _ ho ⟨_, em⟩) (Ext.refl _)))
        · cases he
      · rename_i c ns vs em
        split at he
        · rename_i hb
          cases he
          obtain ⟨o, ho, mr⟩ := R.has k a _ ha em
          cases mr with
          | ins hc l rs => exact fin _ _ em ho (.obj hc upd_same l ((rs.low hb).mono (sm _ ho ⟨_, em⟩) (Ext.refl _)))
        · cases he
      · cases he
  | _ => exact other (fun k z => by cases z)
theorem Pst.trim {Wx : WXH} {Q : VK} {M M' : Mem} {v : V} {d : Dv.D} (R0 : Rel W M F H ι) (p : Pst W Wx (Rp W) Q (Dv.trim M d M') M F H ι) (R : Rel W M' F' H' ι') (g : Grow M F H ι M' F' H' ι') (r : Rp W F' ι' v d) : Q v H' := by
  unfold Dv.trim at p
  split at p
  · rename_i e he
    split at p
    · rename_i ok
      obtain ⟨F2, a, b, c⟩ := trim_ok R0 rfl R g r he ok
      exact p _ _ _ _ a b c
    · exact p.elim
  · exact p.elim
/-- .. as the statements' end -/
theorem fin_ok {Q : VK} {E : XK} {M : Mem} {keep : Bool} {r : RS} (R0 : Rel W M F H ι) (p : Pst W (fun c d H' => E c d H') (Rp W) Q (fin keep M r) M F H ι) :
    PoS W (fun c d _ H' => E c d H') { nx := fun _ H' => Q .non H', rt := Q } r M F H ι := by
  cases r with
  | nx ρ M' =>
    intro σ' F' H' ι' a b c
    simp only [fin] at p
    split at p
    · exact p _ _ _ _ a b .non
    · exact Pst.trim R0 p a b .non
  | rt d M' =>
    intro v F' H' ι' a b c
    simp only [fin] at p
    split at p
    · exact p _ _ _ _ a b c
    · exact Pst.trim R0 p a b c
  | er x ρ M' =>
    intro σ' cls dx F' H' ι' a b _ c
    simp only [fin] at p
    split at p
    · exact p _ _ _ _ _ a b c
    · split at p
      · rename_i h
        simp only [Bool.and_eq_true] at h
        obtain ⟨C, vs, q1, q2, q3, q4, q5⟩ := c
        exact p _ _ _ _ _ (a.trim fun k m e => (old_at h.2 e).elim (fun z => R0.belM z) id) (b.trim R0 rfl) ⟨C, vs, q1, q2, q3.low h.1, q4, q5⟩
      · exact p.elim
  | bk ρ M' => exact p.elim
  | ct ρ M' => exact p.elim
  | bad => exact p.elim
/-- the slots at the entry -/
theorem relS_start {N : List Str} {vs : List V} {ds : List Dv.D} (r : Rps W F ι vs ds) : RelS W F ι (ds.map some ++ List.replicate (N.length - ds.length) none) (start N vs) := by
  refine ⟨?_, fun i d h => ?_⟩
  · unfold start
    simp [r.length]
  · by_cases hi : i < ds.length
    · rw [List.getElem?_append_left (by simpa using hi), List.getElem?_map] at h
      cases e : ds[i]? with
      | none => rw [e] at h; cases h
      | some d' =>
        rw [e] at h
        cases h
        obtain ⟨v, h1, h2⟩ := r.get e
        refine ⟨v, ?_, h2⟩
        unfold start
        rw [List.getElem?_append_left (by rw [List.length_map, r.length]; exact hi), List.getElem?_map, h1]
        rfl
    · rw [List.getElem?_append_right (by simpa using hi), List.getElem?_replicate] at h
      split at h <;> cases h
end

/-! ### defs -/
section
variable {P : Program} {w : World} {mg : Str → Option Value} {base : Heap}
/-- a def of the text, where nothing is being shown -/
theorem fn_ofG {T : Tb} {Φ : Calls} {W : Wd} {k : Nat} {e : FnE} {st : Stmt} {f : Addr} {fd : FuncData} {sp : Sp} (Fn : Fun W.K e.name e.name st f fd) (S : FnScope e.N e.ps (defScope st)) (ch : chSs T e.N (defScope st) e.body (defBody st) = true)
    (G : Glo T Φ W k P w mg base)
    (len : ∀ vs H Q E, sp vs H Q E → vs.length = e.ps.length)
    (hsp : ∀ vs H Q E, sp vs H Q E → tS W (fun c d _ H' => E c d H') (zxs Φ T e.body) { nx := fun _ H' => Q .non H', rt := Q } (start e.N vs) H) : FnG P w W.K mg base (k + 1) f fd e.ps sp := by
  obtain ⟨oc, od, kV, doc, pm, an, cdv, ct, osl, rfl, lk, hcd⟩ := Fn.ex
  refine ⟨len, fun A outer s H args us vs Q E room gd e0 hb rv hs => ?_⟩
  have hl := len _ _ _ _ hs
  have inK : W.K.In s.heap := e0.mod.kin.keeps fun b o z => (e0.bs b o z).1
  have noLim : s.heap.NoLimit := e0.mod.nolimit.keeps fun b o z => (e0.bs b o z).1
  have kinds : ∀ y ∈ e.ps.zip us, (defScope st).names.lookup y.1 = some .local ∨ ((defScope st).names.lookup y.1 = some .cell ∧ ((cellsFrom (s.heap.objs.size + 1) (defScope st).names []).lookup y.1).isSome = true) := fun y hy => by
    rcases S.par y.1 (List.of_mem_zip (a := y.1) (b := y.2) hy).1 with z | z
    · exact Or.inl z
    · exact Or.inr ⟨z, PySem.W.cellsFrom_some _ _ _ (Or.inl z)⟩
  refine codeAny_call_function room.depth (inK _ _ lk) rfl S.co S.gen rfl (PySem.W.codeRec_of inK hcd) (hb _ _ _ _ ?_)
  refine wpAny_newFunctionEnv_cells S.kind kinds fun env ev1 s1 call => ?_
  subst ev1
  refine ⟨noLim.keeps call.toInCall.keep, codeAny_func ?_⟩
  have I := inv_start (CX := L2.CX P w) (E := E) S room.hd e0 hl rv call
  have O : OkS T Φ W k (fun c d _ H' => E c d H') (cxOf (L2.CX P w) P w W.K mg base e.N e.name (defScope st) f cdv A outer s H E) :=
    { K := rfl, nd := S.nd, room := room.deeper _, gd := gd, calm := rfl, glo := G, tk := takes_of rfl rfl rfl rfl, own := passes_of rfl, kind := S.kind, fnt := fun _ => rfl, stk := rfl, frm := rfl }
  refine wpAny_mono ((ss_ok e.body _ _ O ch).run [] s1 (start e.N vs) H _ I (hsp _ _ _ _ hs)) (fun fl s' h => ?_) fun x s' h => h
  cases fl with
  | next =>
    obtain ⟨σ', H', J, q⟩ := h
    exact ⟨.non, H', J.os, J.bare, J.base, J.hok, rfl, q⟩
  | ret u =>
    obtain ⟨v, σ', H', J, r, q⟩ := h
    exact ⟨v, H', J.os, J.bare, J.base, J.hok, r, q⟩
  | brk => obtain ⟨_, _, _, q⟩ := h; exact q.elim
  | cont => obtain ⟨_, _, _, q⟩ := h; exact q.elim
/-- the module's defs are those of the table -/
structure Fits (T : Tb) (W : Wd) (mg : Str → Option Value) : Prop where
  fn : ∀ f e, T.fn f = some e → ∃ a fd st, mg e.name = some (.ref a) ∧ Fun W.K e.name e.name st a fd ∧ Binds W.K fd e.ps [] ∧ FnScope e.N e.ps (defScope st) ∧ chSs T e.N (defScope st) e.body (defBody st) = true
  gl : ∀ g x d, T.gl g = some (x, d) → ∃ u v, mg x = some u ∧ RelV v u ∧ Rp W (fun _ => none) [] v d
  bl : ∀ x, x ∈ bnames → mg x = none
  cl : ∀ c x, T.cl c = some x → ∃ C, W.cl c = some C ∧ mg x = some (.ref C) ∧ PySem.W.keepIn W.K (.ref C) = true ∧ PySem.W.subIn W.K (.ref C) (.type "BaseException") = some true ∧ PySem.W.typeIn W.K (.ref C) = some (.type "type")
  raw : ∀ c C, T.raw c = true → W.cl c = some C → ∃ B newId initId bmB, ExcBaseFacts B newId initId bmB ∧ PySem.W.excIn W.K C bmB newId = true
  ex : ∀ c h b C D, T.ex c h = some b → W.cl c = some C → W.cl h = some D → PySem.W.exmOne W.K (.ref C) (.ref D) = some b
/-- THE RULE: all defs do as the interpreter says -/
theorem phi_ok {T : Tb} {W : Wd} (ft : Fits T W mg) : ∀ k : Nat, Glo T (Phi T k) W k P w mg base
  | 0 => ⟨fun f e h => by
      obtain ⟨a, fd, st, h1, h2, h3, _⟩ := ft.fn f e h
      exact ⟨a, fd, h1, h2.kp, h3, ⟨fun vs H Q E ⟨M, F, ι, ds, R, r, p⟩ => (show False from p).elim, fun A outer s H args us vs Q E _ _ _ _ _ ⟨M, F, ι, ds, R, r, p⟩ => (show False from p).elim⟩⟩, ft.gl, ft.bl, ft.cl, ft.raw, ft.ex⟩
  | k + 1 => ⟨fun f e h => by
      obtain ⟨a, fd, st, h1, h2, h3, h4, h5⟩ := ft.fn f e h
      refine ⟨a, fd, h1, h2.kp, h3, fn_ofG h2 h4 h5 (phi_ok ft k) (fun vs H Q E ⟨M, F, ι, ds, R, r, p⟩ => ?_) (fun vs H Q E ⟨M, F, ι, ds, R, r, p⟩ => ?_)⟩
      · simp only [Phi, h] at p
        split at p
        · rename_i hl
          rw [r.length, hl]
        · exact p.elim
      · simp only [Phi, h] at p
        split at p
        · exact ⟨_, M, F, ι, R, relS_start r, fin_ok R p⟩
        · exact p.elim, ft.gl, ft.bl, ft.cl, ft.raw, ft.ex⟩
end
end Dv
end L2
/-! Dv: a law, by what the interpreter says -/
namespace L2
namespace Dv
open PySem PySem.Spec PyProof.Rows

/-- the script alone is tracked, or nothing -/
structure Lone (W : Wd) (h : Heap) (H : Hp) (a : Addr) (ob : Obj) (ns : List Int) : Prop where
  only : ∀ b, H b = none ∨ (b = a ∧ W.K.lookup a = none ∧ H b = some (.frz ob (.lst (ns.map V.int))))
  seq : SqL W.K H a (ns.map V.int)
theorem seq_ints {K : PySem.W.Frag} {H : Hp} {cl : Nat → Option Addr} {ι : List Addr} : ∀ ns : List Int, Rps ⟨K, cl⟩ H ι (ns.map V.int) (ns.map D.int)
  | [] => .nil
  | n :: r => .cons (.int n) (seq_ints r)
section
variable {P : Program} {w : World} {W : Wd} {mg mb : Str → Option Value} {k : Nat} {fa a : Addr} {fd : FuncData} {ps : List Str} {sp : Sp} {s : Shared} {vs : List Value} {ns : List Int}
theorem lone_run {H : Hp} {ob : Obj} (eo : ob = { cls := .type "list", data := .seq vs.toArray }) (L : Lone W s.heap H a ob ns) (hok : HOk P w H s.heap) (inK : W.K.In s.heap) (hns : s.heap.Ns mainGlobals mg) (hb : s.heap.Ns builtinsNs mb) (hbb : ∀ x : Str, x ≠ "__name__" → mb x = bootBuiltins x)
    (noLim : s.heap.NoLimit) (hg : s.gens = #[]) (ha : s.heap.get? a = some ob) (room : Room k callerA)
    (G : FnG P w W.K mg (hidT s.heap H) k fa fd ps sp) (bnd : Binds W.K fd ps []) (h1 : ps.length = 1)
    (hsp : sp [.ref a] H (fun v _ => v = .bl true) fun _ _ _ => False) :
    codeAny (model P w) callerA (.call (.ref fa) ⟨[.ref a], []⟩) (fun r s' => r = .ok (.ret (.bool true)) ∧ OldK s.heap s'.heap ∧ s'.os = s.os ∧ AllBare s'.gens) s := by
  have plain : ∀ {b : Addr} {o : Obj}, s.heap.get? b = some o → (b ≠ a ∨ H b = none) → H b = none := fun {b o} _ z => by
    rcases L.only b with q | ⟨q, _⟩
    · exact q
    · rcases z with z | z
      · exact absurd q z
      · exact z
  have shown : ∀ {b : Addr} {o : Obj}, s.heap.get? b = some o → H b = none → (hidT s.heap H).get? b = some o := fun e n => hidT_get e n
  have dicts : ∀ {b : Addr} {o : Obj} {es : Array DictEntry} {ep : Nat}, s.heap.get? b = some o → o.data = .dict es ep → H b = none := fun {b o es ep} e dt => plain e (by
    by_cases z : b = a
    · subst z
      rw [ha] at e
      cases e
      rw [eo] at dt
      cases dt
    · exact Or.inl z)
  have nss : ∀ {b : Addr} {m : Str → Option Value}, s.heap.Ns b m → (hidT s.heap H).Ns b m := fun {b m} ⟨o, es, ep, e, dt, r⟩ => ⟨o, es, ep, shown e (dicts e dt), dt, r⟩
  have ground : Mod W.K mg (hidT s.heap H) :=
    { kin := fun b o e => shown (inK b o e) (plain (inK b o e) (by
        rcases L.only b with q | ⟨q, n, _⟩
        · exact Or.inr q
        · subst q; rw [n] at e; cases e))
      glob := nss hns
      blt := ⟨mb, nss hb, hbb⟩
      nolimit := by obtain ⟨mc, g1, g2⟩ := noLim; exact ⟨mc, nss g1, g2⟩ }
  have start : Env0 P w W.K mg (hidT s.heap H) callerA [] s H :=
    { frames := rfl, mod := ground, bs := fun b o e => of_hidT e, bsz := Nat.le_of_eq (hidT_size _ _), funs := trivial
      frf := fun b z => absurd (show b ∈ ([] : List Addr) from z) List.not_mem_nil
      hok := hok, bare := .of_eq hg }
  have args : BindsTo s fd ⟨[.ref a], []⟩ (ps.zip [.ref a]) := by
    have z := bnd s [.ref a] inK (by simpa using h1.symm)
    simpa using z
  refine codeAny_mono (G.run callerA [] s H ⟨[.ref a], []⟩ [.ref a] [.ref a] _ _ room rfl start args (.cons rfl .nil) hsp) fun r s' h => ?_
  match r, h with
  | .error e, h =>
    obtain ⟨_, _, _, _, _, _, _, _, _, _, _, _, z⟩ := h
    exact z.elim
  | .ok .next, h => exact False.elim h
  | .ok .brk, h => exact False.elim h
  | .ok .cont, h => exact False.elim h
  | .ok (.ret u), h =>
    obtain ⟨v, H', os, bare, un, hok', r', q⟩ := h
    have q : v = .bl true := q
    subst q
    have r' : u = .bool true := r'
    subst r'
    refine ⟨rfl, OldK.of_keep fun b o e => ?_, os, bare⟩
    rcases L.only b with z | ⟨_, _, z⟩
    · exact un.keep b o e z (by intro y; exact absurd (show b ∈ ([] : List Addr) from y) List.not_mem_nil) List.not_mem_nil
    · obtain ⟨e2, _⟩ := hok' b _ (un.frzs b ob _ z)
      obtain ⟨e1, _⟩ := hok b _ z
      rw [e] at e1
      cases e1
      exact e2
/-- the script's own heap -/
theorem lone_of (inK : W.K.In s.heap) (hi : IntsAre vs ns) (hl : ns.length ≤ sizeLine) (ha : s.heap.get? a = some { cls := .type "list", data := .seq vs.toArray }) :
    ∃ H, Lone W s.heap H a { cls := .type "list", data := .seq vs.toArray } ns ∧ HOk P w H s.heap := by
  have rv := vals_ints hi
  cases e : W.K.lookup a with
  | none =>
    refine ⟨fun b => if b = a then some (.frz { cls := .type "list", data := .seq vs.toArray } (.lst (ns.map V.int))) else none, ⟨fun b => ?_, .inl (.inr ⟨_, if_pos rfl⟩)⟩, fun b u z => ?_⟩
    · by_cases hb : b = a
      · exact Or.inr ⟨hb, e, if_pos hb⟩
      · exact Or.inl (if_neg hb)
    · by_cases hb : b = a
      · replace z := (if_pos hb).symm.trans z
        cases z
        subst hb
        exact ⟨ha, by rw [List.length_map]; exact hl, vs, _, rv, ha⟩
      · replace z := (if_neg hb).symm.trans z
        cases z
  | some o =>
    have z := inK a o e
    rw [ha] at z
    cases z
    refine ⟨fun _ => none, ⟨fun b => Or.inl rfl, .inr ⟨_, vs.toArray, _, e, rfl, rfl, rfl, by rw [List.size_toArray, hi.length]; exact hl, by simpa using rv⟩⟩, fun b u z => ?_⟩
    exact absurd (show (none : Option HO) = some u from z) (fun y => nomatch y)
end
theorem exm_of {K : PySem.W.Frag} {C S : Addr} {b : Bool} (h1 : PySem.W.subIn K (.ref S) (.type "BaseException") = some true) (h2 : PySem.W.isClsIn K S = true) (h3 : PySem.W.typeIn K (.ref S) = some (.type "type")) (h4 : PySem.W.subIn K (.ref C) (.ref S) = some b) :
    PySem.W.exmOne K (.ref C) (.ref S) = some b := by
  have e1 : (PySem.W.subIn K (.ref S) (.type "BaseException") == some true) = true := by rw [h1] <;> rfl
  have e2 : ((PySem.W.clsIn K S).isSome && PySem.W.typeIn K (.ref S) == some (.type "type")) = true := by
    have h2' : (PySem.W.clsIn K S).isSome = true := h2
    rw [h2', h3] <;> rfl
  show (if (PySem.W.subIn K (.ref S) (.type "BaseException") == some true) = true then (if ((PySem.W.clsIn K S).isSome && PySem.W.typeIn K (.ref S) == some (.type "type")) = true then PySem.W.subIn K (.ref C) (.ref S) else none) else none) = some b
  rw [if_pos e1, if_pos e2]
  exact h4
/-- THE END: the law holds where the interpreter says True -/
theorem walk_dv {l : PySem.W.OpenLaw} {n k : Nat} {q : Program} {loose : List Str} {XP : (Str → Option Value) → Heap → Prop} {YP : World → Heap → Prop} {d : DefRec} {K : Params → PySem.W.Frag} {T : Tb} {fL : Nat} {eL : FnE}
    (hT : T.fn fL = some eL) (hname : eL.name = d.name) (hps : eL.ps.length = 1) (hn : l.most = some n) (hn2 : n ≤ sizeLine) (hdf : d.params.defaults = []) (room : Room k callerA)
    (hY : ∀ (w : World) (h : Heap), YP w h → (K w.params).In h)
    (F : ∀ (w : World) (mg : Str → Option Value) (h : Heap), (K w.params).In h → h.Ns mainGlobals mg → ∃ cl, Fits T ⟨K w.params, cl⟩ mg)
    (law : ∀ ns : List Int, ns.length ≤ n → (∀ i ∈ ns, Builtin.Int.intBits i ≤ 1048576) → ∃ M, Phi T k fL [.ro (ns.map D.int)] [] = .ok (.bl true) M) :
    PySem.W.WalkO q loose XP YP l.row.toRowW d [] (fun f vs => PySem.call f vs) := by
  refine Att.attach_callB hn hdf fun w s₀ s₁ mg mb fa o pm cd doc a vs ns G Y ho hd hcd hmg hobj hints hlen hbits hg => ?_
  have inK := hY w _ Y
  obtain ⟨cl, ft⟩ := F w mg _ inK G.T.g
  obtain ⟨H, L, hok⟩ := lone_of (P := l.prog) (w := w) (W := ⟨K w.params, cl⟩) inK hints (Nat.le_trans hlen hn2) hobj
  obtain ⟨f, fd, h1, h2, h3, h4⟩ := (phi_ok (P := l.prog) (w := w) (base := hidT s₁.heap H) ft k).fn fL eL hT
  rw [hname, hmg] at h1
  cases h1
  refine lone_run rfl L hok inK G.T.g G.T.b G.T.builtins G.T.nolimit hg hobj room h4 h3 hps ?_
  obtain ⟨M, e⟩ := law ns hlen hbits
  refine ⟨[], H, [], [.ro (ns.map D.int)], ⟨fun _ _ z => z, rfl, List.nodup_nil, fun n a z => by simp at z, fun n a z => by simp at z, fun n a m z => by simp at z⟩, .cons (.ro L.seq (seq_ints ns)) .nil, ?_⟩
  rw [e]
  intro v F' H' ι' _ _ r
  cases r
  rfl
end Dv
end L2
/-! Dv: tools for plain laws -/
namespace L2
namespace Dv
open PySem PySem.Spec PyProof.Rows

/-! ### the interpreter, closed: what it does is told by the theorems below alone -/
structure ItpT where
  ev : Calls → Tb → E → Env' → Mem → R D
  evB : Calls → Tb → Bool → List E → Env' → Mem → R D
  evTs : Calls → Tb → Bool → List E → Env' → Mem → R Bool
  evF : Calls → Tb → List E → Env' → Mem → R Bool
  evs : Calls → Tb → List E → Env' → Mem → R (List D)
  evO : Calls → Tb → Option E → Env' → Mem → R (Option Int)
  tst : Calls → Tb → E → Env' → Mem → R Bool
  wlk : Calls → Tb → E → Env' → Mem → R (List D)
  xc : Calls → Tb → S → Env' → Mem → RS
  xs : Calls → Tb → List S → Env' → Mem → RS
  xm : Calls → Tb → List Pt → List (List S) → D → Env' → Mem → RS
  rng1 : D → Mem → R (List D)
  rng2 : D → D → Mem → R (List D)
def zrng1 (x : D) (M : Mem) : R (List D) := match x with
  | .int j => if -4611686018427387904 ≤ j ∧ j < 4611686018427387904 then .ok ((List.range j.toNat).map fun (i : Nat) => .int (i : Int)) M else .bad
  | _ => .bad
def zrng2 (x y : D) (M : Mem) : R (List D) := match x, y with
  | .int i, .int j => if -4611686018427387904 ≤ i ∧ i < 4611686018427387904 ∧ -4611686018427387904 ≤ j ∧ j < 4611686018427387904 then .ok ((List.range (j - i).toNat).map fun (k : Nat) => .int (i + (k : Int))) M else .bad
  | _, _ => .bad
def itp0 : ItpT := ⟨zev, zevB, zevTs, zevF, zevs, zevO, ztst, zwlk, zxc, zxs, zxm, zrng1, zrng2⟩
noncomputable def itp : {p : ItpT // p = itp0} := Classical.choice ⟨⟨itp0, rfl⟩⟩
noncomputable def ev := itp.1.ev
noncomputable def evB := itp.1.evB
noncomputable def evTs := itp.1.evTs
noncomputable def evF := itp.1.evF
noncomputable def evs := itp.1.evs
noncomputable def evO := itp.1.evO
noncomputable def tst := itp.1.tst
noncomputable def wlk := itp.1.wlk
noncomputable def xc := itp.1.xc
noncomputable def xs := itp.1.xs
noncomputable def xm := itp.1.xm
noncomputable def rng1 := itp.1.rng1
noncomputable def rng2 := itp.1.rng2
theorem ev_z : ev = zev := by unfold ev; rw [itp.2]; rfl
theorem evB_z : evB = zevB := by unfold evB; rw [itp.2]; rfl
theorem evTs_z : evTs = zevTs := by unfold evTs; rw [itp.2]; rfl
theorem evF_z : evF = zevF := by unfold evF; rw [itp.2]; rfl
theorem evs_z : evs = zevs := by unfold evs; rw [itp.2]; rfl
theorem evO_z : evO = zevO := by unfold evO; rw [itp.2]; rfl
theorem tst_z : tst = ztst := by unfold tst; rw [itp.2]; rfl
theorem wlk_z : wlk = zwlk := by unfold wlk; rw [itp.2]; rfl
theorem xc_z : xc = zxc := by unfold xc; rw [itp.2]; rfl
theorem xs_z : xs = zxs := by unfold xs; rw [itp.2]; rfl
theorem xm_z : xm = zxm := by unfold xm; rw [itp.2]; rfl
theorem rng1_z : rng1 = zrng1 := by unfold rng1; rw [itp.2]; rfl
theorem rng2_z : rng2 = zrng2 := by unfold rng2; rw [itp.2]; rfl
/-- one step of a comprehension -/
noncomputable def lcF (Φ : Calls) (G : Tb) (elt : E) (tg : Tg) (ifs : List E) (own : List Nat) (ρ : Env') (x : D) (M2 : Mem) : R (Option D) := match tg.put x (wipeD ρ own) with
  | some ρ' => (evF Φ G ifs ρ' M2).bnd fun b M3 => if b then (ev Φ G elt ρ' M3).bnd fun y M4 => .ok (some y) M4 else .ok none M3
  | none => .bad
theorem lcF_z {Φ : Calls} {G : Tb} {elt : E} {tg : Tg} {ifs : List E} {own : List Nat} {ρ : Env'} : lcF Φ G elt tg ifs own ρ = zlcF Φ G elt tg ifs own ρ := by
  funext x M
  unfold lcF zlcF
  simp only [ev_z, evF_z] <;> rfl
/-- one turn of a for -/
noncomputable def frF (Φ : Calls) (G : Tb) (tg : Tg) (b : List Dv.S) (d : D) (ρ : Env') (M : Mem) : RS := match tg.put d ρ with | some ρ' => xs Φ G b ρ' M | none => .bad
theorem frF_z {Φ : Calls} {G : Tb} {tg : Tg} {b : List Dv.S} : frF Φ G tg b = fun d ρ M => match tg.put d ρ with | some ρ' => zxs Φ G b ρ' M | none => .bad := by
  funext d ρ M
  unfold frF
  rw [xs_z]
def tupD (xs : List D) (M : Mem) : R D := if xs.length ≤ sizeLine then .ok (.tup xs) M else .bad
/-! ### form by form -/
section
variable {Φ : Calls} {G : Tb} {ρ : Env'} {M : Mem}
@[simp] theorem ev_var (i : Nat) : ev Φ G (.var i) ρ M = (match ρ[i]? with | some (some d) => .ok d M | _ => .bad) := by simp only [ev_z, evB_z, evTs_z, evF_z, evs_z, evO_z, tst_z, wlk_z, xc_z, xs_z, xm_z, rng1_z, rng2_z, lcF_z, frF_z] <;> rfl
@[simp] theorem ev_cst (c : Const) : ev Φ G (.cst c) ρ M = R.of (cstD c) M := by simp only [ev_z, evB_z, evTs_z, evF_z, evs_z, evO_z, tst_z, wlk_z, xc_z, xs_z, xm_z, rng1_z, rng2_z, lcF_z, frF_z] <;> rfl
theorem ev_glo (g : Nat) : ev Φ G (.glo g) ρ M = R.of ((G.gl g).map (·.2)) M := by simp only [ev_z, evB_z, evTs_z, evF_z, evs_z, evO_z, tst_z, wlk_z, xc_z, xs_z, xm_z, rng1_z, rng2_z, lcF_z, frF_z] <;> rfl
@[simp] theorem ev_bop (op : Operator) (a b : E) : ev Φ G (.bop op a b) ρ M = (ev Φ G a ρ M).bnd fun x M1 => (ev Φ G b ρ M1).bnd fun y M2 => R.of (bopD M2 op x y) M2 := by simp only [ev_z, evB_z, evTs_z, evF_z, evs_z, evO_z, tst_z, wlk_z, xc_z, xs_z, xm_z, rng1_z, rng2_z, lcF_z, frF_z] <;> rfl
@[simp] theorem ev_neg (a : E) : ev Φ G (.neg a) ρ M = (ev Φ G a ρ M).bnd fun x M1 => match x with | .int i => .ok (.int (-i)) M1 | _ => .bad := by simp only [ev_z, evB_z, evTs_z, evF_z, evs_z, evO_z, tst_z, wlk_z, xc_z, xs_z, xm_z, rng1_z, rng2_z, lcF_z, frF_z] <;> rfl
@[simp] theorem ev_boo (k : Bool) (es : List E) : ev Φ G (.boo k es) ρ M = evB Φ G k es ρ M := by simp only [ev_z, evB_z, evTs_z, evF_z, evs_z, evO_z, tst_z, wlk_z, xc_z, xs_z, xm_z, rng1_z, rng2_z, lcF_z, frF_z] <;> rfl
@[simp] theorem ev_not (a : E) : ev Φ G (.not a) ρ M = (ev Φ G a ρ M).bnd fun x M1 => R.of ((truD M1 x).map fun b => .bl (!b)) M1 := by simp only [ev_z, evB_z, evTs_z, evF_z, evs_z, evO_z, tst_z, wlk_z, xc_z, xs_z, xm_z, rng1_z, rng2_z, lcF_z, frF_z] <;> rfl
@[simp] theorem ev_cmp (a : E) (op : CmpOp) (b : E) : ev Φ G (.cmp a op b) ρ M = (ev Φ G a ρ M).bnd fun x M1 => (ev Φ G b ρ M1).bnd fun y M2 => R.of ((cmpD M2 op x y).map .bl) M2 := by simp only [ev_z, evB_z, evTs_z, evF_z, evs_z, evO_z, tst_z, wlk_z, xc_z, xs_z, xm_z, rng1_z, rng2_z, lcF_z, frF_z] <;> rfl
@[simp] theorem ev_chn (a : E) (p : CmpOp) (b : E) (q : CmpOp) (c : E) : ev Φ G (.chn a p b q c) ρ M = (ev Φ G a ρ M).bnd fun x M1 => (ev Φ G b ρ M1).bnd fun y M2 => match cmpD M2 p x y with
    | some true => (ev Φ G c ρ M2).bnd fun z M3 => R.of ((cmpD M3 q y z).map .bl) M3
    | some false => .ok (.bl false) M2
    | none => .bad := by simp only [ev_z, evB_z, evTs_z, evF_z, evs_z, evO_z, tst_z, wlk_z, xc_z, xs_z, xm_z, rng1_z, rng2_z, lcF_z, frF_z] <;> rfl
@[simp] theorem ev_ife (t a b : E) : ev Φ G (.ife t a b) ρ M = (tst Φ G t ρ M).bnd fun k M1 => if k then ev Φ G a ρ M1 else ev Φ G b ρ M1 := by simp only [ev_z, evB_z, evTs_z, evF_z, evs_z, evO_z, tst_z, wlk_z, xc_z, xs_z, xm_z, rng1_z, rng2_z, lcF_z, frF_z] <;> rfl
@[simp] theorem ev_tup (es : List E) : ev Φ G (.tup es) ρ M = (evs Φ G es ρ M).bnd fun xs M1 => tupD xs M1 := by simp only [ev_z, evB_z, evTs_z, evF_z, evs_z, evO_z, tst_z, wlk_z, xc_z, xs_z, xm_z, rng1_z, rng2_z, lcF_z, frF_z] <;> rfl
@[simp] theorem ev_lst (fz : Bool) (es : List E) : ev Φ G (.lst fz es) ρ M = (evs Φ G es ρ M).bnd fun xs M1 => mkL fz xs M1 := by simp only [ev_z, evB_z, evTs_z, evF_z, evs_z, evO_z, tst_z, wlk_z, xc_z, xs_z, xm_z, rng1_z, rng2_z, lcF_z, frF_z] <;> rfl
@[simp] theorem ev_dis (fz : Bool) : ev Φ G (.dis fz [] []) ρ M = .ok (.dic [] []) M := by simp only [ev_z, evB_z, evTs_z, evF_z, evs_z, evO_z, tst_z, wlk_z, xc_z, xs_z, xm_z, rng1_z, rng2_z, lcF_z, frF_z] <;> rfl
@[simp] theorem ev_lc (fz : Bool) (elt : E) (tg : Tg) (it : E) (ifs : List E) (own : List Nat) : ev Φ G (.lc fz elt tg it ifs own) ρ M = (wlk Φ G it ρ M).bnd fun xs M1 =>
    (foldC (lcF Φ G elt tg ifs own ρ) xs [] M1).bnd fun ys M5 => mkL fz ys M5 := by simp only [ev_z, evB_z, evTs_z, evF_z, evs_z, evO_z, tst_z, wlk_z, xc_z, xs_z, xm_z, rng1_z, rng2_z, lcF_z, frF_z] <;> rfl
@[simp] theorem ev_call (f : Nat) (es : List E) : ev Φ G (.call f es) ρ M = (evs Φ G es ρ M).bnd fun xs M1 => Φ f xs M1 := by simp only [ev_z, evB_z, evTs_z, evF_z, evs_z, evO_z, tst_z, wlk_z, xc_z, xs_z, xm_z, rng1_z, rng2_z, lcF_z, frF_z] <;> rfl
@[simp] theorem ev_blt (b : Bi) (es : List E) : ev Φ G (.blt b es) ρ M = (evs Φ G es ρ M).bnd fun xs M1 => bltD b xs M1 := by simp only [ev_z, evB_z, evTs_z, evF_z, evs_z, evO_z, tst_z, wlk_z, xc_z, xs_z, xm_z, rng1_z, rng2_z, lcF_z, frF_z] <;> rfl
@[simp] theorem ev_mth (m : Me) (o : E) (es : List E) : ev Φ G (.mth m o es) ρ M = (ev Φ G o ρ M).bnd fun x M1 => if rcvB m M1 x then (evs Φ G es ρ M1).bnd fun xs M2 => mthD m x xs M2 else .bad := by simp only [ev_z, evB_z, evTs_z, evF_z, evs_z, evO_z, tst_z, wlk_z, xc_z, xs_z, xm_z, rng1_z, rng2_z, lcF_z, frF_z] <;> rfl
@[simp] theorem ev_isi (a : E) (t : Ty) : ev Φ G (.isi a t) ρ M = (ev Φ G a ρ M).bnd fun x M1 => R.of ((isiD x t).map .bl) M1 := by simp only [ev_z, evB_z, evTs_z, evF_z, evs_z, evO_z, tst_z, wlk_z, xc_z, xs_z, xm_z, rng1_z, rng2_z, lcF_z, frF_z] <;> rfl
@[simp] theorem ev_sub (o i : E) : ev Φ G (.sub o i) ρ M = (ev Φ G o ρ M).bnd fun x M1 => (ev Φ G i ρ M1).bnd fun y M2 => R.of (subD M2 x y) M2 := by simp only [ev_z, evB_z, evTs_z, evF_z, evs_z, evO_z, tst_z, wlk_z, xc_z, xs_z, xm_z, rng1_z, rng2_z, lcF_z, frF_z] <;> rfl
@[simp] theorem ev_slc (o : E) (lo hi : Option E) : ev Φ G (.slc o lo hi) ρ M = (ev Φ G o ρ M).bnd fun x M1 => (evO Φ G lo ρ M1).bnd fun l M2 => (evO Φ G hi ρ M2).bnd fun h M3 => R.of (slcD M3 x l h) M3 := by simp only [ev_z, evB_z, evTs_z, evF_z, evs_z, evO_z, tst_z, wlk_z, xc_z, xs_z, xm_z, rng1_z, rng2_z, lcF_z, frF_z] <;> rfl
@[simp] theorem ev_rev (o : E) : ev Φ G (.rev o) ρ M = (ev Φ G o ρ M).bnd fun x M1 => match x with
    | .tup xs => .ok (.tup xs.reverse) M1
    | x => R.of ((lstD M1 x).map fun xs => .lst xs.reverse) M1 := by simp only [ev_z, evB_z, evTs_z, evF_z, evs_z, evO_z, tst_z, wlk_z, xc_z, xs_z, xm_z, rng1_z, rng2_z, lcF_z, frF_z] <;> rfl
@[simp] theorem evO_none : evO Φ G none ρ M = .ok none M := by simp only [ev_z, evB_z, evTs_z, evF_z, evs_z, evO_z, tst_z, wlk_z, xc_z, xs_z, xm_z, rng1_z, rng2_z, lcF_z, frF_z] <;> rfl
@[simp] theorem evO_some (e : E) : evO Φ G (some e) ρ M = (ev Φ G e ρ M).bnd fun x M1 => match x with | .int i => .ok (some i) M1 | _ => .bad := by simp only [ev_z, evB_z, evTs_z, evF_z, evs_z, evO_z, tst_z, wlk_z, xc_z, xs_z, xm_z, rng1_z, rng2_z, lcF_z, frF_z] <;> rfl
@[simp] theorem evs_nil : evs Φ G [] ρ M = .ok [] M := by simp only [ev_z, evB_z, evTs_z, evF_z, evs_z, evO_z, tst_z, wlk_z, xc_z, xs_z, xm_z, rng1_z, rng2_z, lcF_z, frF_z] <;> rfl
@[simp] theorem evs_cons (e : E) (es : List E) : evs Φ G (e :: es) ρ M = (ev Φ G e ρ M).bnd fun x M1 => (evs Φ G es ρ M1).bnd fun xs M2 => .ok (x :: xs) M2 := by simp only [ev_z, evB_z, evTs_z, evF_z, evs_z, evO_z, tst_z, wlk_z, xc_z, xs_z, xm_z, rng1_z, rng2_z, lcF_z, frF_z] <;> rfl
@[simp] theorem evB_one (k : Bool) (a : E) : evB Φ G k [a] ρ M = ev Φ G a ρ M := by simp only [ev_z, evB_z, evTs_z, evF_z, evs_z, evO_z, tst_z, wlk_z, xc_z, xs_z, xm_z, rng1_z, rng2_z, lcF_z, frF_z] <;> rfl
@[simp] theorem evB_cons (k : Bool) (a b : E) (es : List E) : evB Φ G k (a :: b :: es) ρ M = (ev Φ G a ρ M).bnd fun x M1 => match truD M1 x with
    | some c => if c = k then evB Φ G k (b :: es) ρ M1 else .ok x M1
    | none => .bad := by simp only [ev_z, evB_z, evTs_z, evF_z, evs_z, evO_z, tst_z, wlk_z, xc_z, xs_z, xm_z, rng1_z, rng2_z, lcF_z, frF_z] <;> rfl
@[simp] theorem evTs_one (k : Bool) (a : E) : evTs Φ G k [a] ρ M = tst Φ G a ρ M := by simp only [ev_z, evB_z, evTs_z, evF_z, evs_z, evO_z, tst_z, wlk_z, xc_z, xs_z, xm_z, rng1_z, rng2_z, lcF_z, frF_z] <;> rfl
@[simp] theorem evTs_cons (k : Bool) (a b : E) (es : List E) : evTs Φ G k (a :: b :: es) ρ M = (tst Φ G a ρ M).bnd fun c M1 => if c = k then evTs Φ G k (b :: es) ρ M1 else .ok c M1 := by simp only [ev_z, evB_z, evTs_z, evF_z, evs_z, evO_z, tst_z, wlk_z, xc_z, xs_z, xm_z, rng1_z, rng2_z, lcF_z, frF_z] <;> rfl
@[simp] theorem evF_nil : evF Φ G [] ρ M = .ok true M := by simp only [ev_z, evB_z, evTs_z, evF_z, evs_z, evO_z, tst_z, wlk_z, xc_z, xs_z, xm_z, rng1_z, rng2_z, lcF_z, frF_z] <;> rfl
@[simp] theorem evF_one (t : E) : evF Φ G [t] ρ M = tst Φ G t ρ M := by simp only [ev_z, evB_z, evTs_z, evF_z, evs_z, evO_z, tst_z, wlk_z, xc_z, xs_z, xm_z, rng1_z, rng2_z, lcF_z, frF_z] <;> rfl
theorem tst_val {e : E} (h : isT e = false) : tst Φ G e ρ M = (ev Φ G e ρ M).bnd fun d M9 => R.of (truD M9 d) M9 := by
  simp only [ev_z, tst_z]
  unfold ztst
  rw [h]
  rfl
@[simp] theorem tst_not (a : E) : tst Φ G (.not a) ρ M = (tst Φ G a ρ M).bnd fun b M1 => .ok (!b) M1 := by simp only [ev_z, evB_z, evTs_z, evF_z, evs_z, evO_z, tst_z, wlk_z, xc_z, xs_z, xm_z, rng1_z, rng2_z, lcF_z, frF_z] <;> rfl
@[simp] theorem tst_boo (k : Bool) (es : List E) : tst Φ G (.boo k es) ρ M = evTs Φ G k es ρ M := by simp only [ev_z, evB_z, evTs_z, evF_z, evs_z, evO_z, tst_z, wlk_z, xc_z, xs_z, xm_z, rng1_z, rng2_z, lcF_z, frF_z] <;> rfl
@[simp] theorem tst_ife (t a b : E) : tst Φ G (.ife t a b) ρ M = (tst Φ G t ρ M).bnd fun k M1 => if k then tst Φ G a ρ M1 else tst Φ G b ρ M1 := by simp only [ev_z, evB_z, evTs_z, evF_z, evs_z, evO_z, tst_z, wlk_z, xc_z, xs_z, xm_z, rng1_z, rng2_z, lcF_z, frF_z] <;> rfl
@[simp] theorem tst_cmp (a : E) (op : CmpOp) (b : E) : tst Φ G (.cmp a op b) ρ M = (ev Φ G a ρ M).bnd fun x M1 => (ev Φ G b ρ M1).bnd fun y M2 => R.of (cmpD M2 op x y) M2 := by simp only [ev_z, evB_z, evTs_z, evF_z, evs_z, evO_z, tst_z, wlk_z, xc_z, xs_z, xm_z, rng1_z, rng2_z, lcF_z, frF_z] <;> rfl
@[simp] theorem tst_chn (a : E) (p : CmpOp) (b : E) (q : CmpOp) (c : E) : tst Φ G (.chn a p b q c) ρ M = (ev Φ G a ρ M).bnd fun x M1 => (ev Φ G b ρ M1).bnd fun y M2 => match cmpD M2 p x y with
    | some true => (ev Φ G c ρ M2).bnd fun z M3 => R.of (cmpD M3 q y z) M3
    | some false => .ok false M2
    | none => .bad := by simp only [ev_z, evB_z, evTs_z, evF_z, evs_z, evO_z, tst_z, wlk_z, xc_z, xs_z, xm_z, rng1_z, rng2_z, lcF_z, frF_z] <;> rfl
@[simp] theorem tst_var (i : Nat) : tst Φ G (.var i) ρ M = (ev Φ G (.var i) ρ M).bnd fun d M9 => R.of (truD M9 d) M9 := by simp only [ev_z, evB_z, evTs_z, evF_z, evs_z, evO_z, tst_z, wlk_z, xc_z, xs_z, xm_z, rng1_z, rng2_z, lcF_z, frF_z] <;> rfl
@[simp] theorem tst_call (f : Nat) (es : List E) : tst Φ G (.call f es) ρ M = (ev Φ G (.call f es) ρ M).bnd fun d M9 => R.of (truD M9 d) M9 := by simp only [ev_z, evB_z, evTs_z, evF_z, evs_z, evO_z, tst_z, wlk_z, xc_z, xs_z, xm_z, rng1_z, rng2_z, lcF_z, frF_z] <;> rfl
@[simp] theorem tst_blt (f : Bi) (es : List E) : tst Φ G (.blt f es) ρ M = (ev Φ G (.blt f es) ρ M).bnd fun d M9 => R.of (truD M9 d) M9 := by simp only [ev_z, evB_z, evTs_z, evF_z, evs_z, evO_z, tst_z, wlk_z, xc_z, xs_z, xm_z, rng1_z, rng2_z, lcF_z, frF_z] <;> rfl
@[simp] theorem tst_isi (a : E) (t : Ty) : tst Φ G (.isi a t) ρ M = (ev Φ G (.isi a t) ρ M).bnd fun d M9 => R.of (truD M9 d) M9 := by simp only [ev_z, evB_z, evTs_z, evF_z, evs_z, evO_z, tst_z, wlk_z, xc_z, xs_z, xm_z, rng1_z, rng2_z, lcF_z, frF_z] <;> rfl
@[simp] theorem wlk_var (i : Nat) : wlk Φ G (.var i) ρ M = (ev Φ G (.var i) ρ M).bnd fun d M9 => R.of (itD M9 d) M9 := by simp only [ev_z, evB_z, evTs_z, evF_z, evs_z, evO_z, tst_z, wlk_z, xc_z, xs_z, xm_z, rng1_z, rng2_z, lcF_z, frF_z] <;> rfl
@[simp] theorem wlk_lst (fz : Bool) (es : List E) : wlk Φ G (.lst fz es) ρ M = (ev Φ G (.lst fz es) ρ M).bnd fun d M9 => R.of (itD M9 d) M9 := by simp only [ev_z, evB_z, evTs_z, evF_z, evs_z, evO_z, tst_z, wlk_z, xc_z, xs_z, xm_z, rng1_z, rng2_z, lcF_z, frF_z] <;> rfl
@[simp] theorem wlk_call (f : Nat) (es : List E) : wlk Φ G (.call f es) ρ M = (ev Φ G (.call f es) ρ M).bnd fun d M9 => R.of (itD M9 d) M9 := by simp only [ev_z, evB_z, evTs_z, evF_z, evs_z, evO_z, tst_z, wlk_z, xc_z, xs_z, xm_z, rng1_z, rng2_z, lcF_z, frF_z] <;> rfl
theorem rng1_ok {j : Nat} (h : j ≤ 1000000000) : rng1 (.int j) M = .ok ((List.range j).map fun (i : Nat) => .int (i : Int)) M := by
  rw [rng1_z]
  unfold zrng1
  have e : -4611686018427387904 ≤ (j : Int) ∧ (j : Int) < 4611686018427387904 := by omega
  simp only [if_pos e, Int.toNat_natCast]
theorem rng1_int {i : Int} {j : Nat} (e : i = j) (h : j ≤ 1000000000) : rng1 (.int i) M = .ok ((List.range j).map fun (i : Nat) => .int (i : Int)) M := by
  rw [e]
  exact rng1_ok h
theorem rng2_ok {i j : Nat} (h : i ≤ 1000000000) (h2 : j ≤ 1000000000) : rng2 (.int i) (.int j) M = .ok ((List.range' i (j - i)).map fun (k : Nat) => .int (k : Int)) M := by
  rw [rng2_z]
  unfold zrng2
  have e : -4611686018427387904 ≤ (i : Int) ∧ (i : Int) < 4611686018427387904 ∧ -4611686018427387904 ≤ (j : Int) ∧ (j : Int) < 4611686018427387904 := by omega
  simp only [if_pos e]
  have e2 : ((j : Int) - (i : Int)).toNat = j - i := by omega
  rw [e2]
  congr 1
  rw [List.range'_eq_map_range, List.map_map]
  apply List.map_congr_left
  intro k _
  simp
@[simp] theorem wlk_rng1 (a : E) : wlk Φ G (.rng [a]) ρ M = (ev Φ G a ρ M).bnd fun x M1 => rng1 x M1 := by
  simp only [ev_z, evB_z, evTs_z, evF_z, evs_z, evO_z, tst_z, wlk_z, xc_z, xs_z, xm_z, rng1_z, rng2_z]
  show (zevs Φ G [a] ρ M).bnd _ = _
  simp only [zevs, R.bnd_ok, Int.zero_add]
  cases zev Φ G a ρ M with
  | ok x M1 => cases x <;> rfl
  | err _ _ => rfl
  | bad => rfl
@[simp] theorem wlk_rng2 (a b : E) : wlk Φ G (.rng [a, b]) ρ M = (ev Φ G a ρ M).bnd fun x M1 => (ev Φ G b ρ M1).bnd fun y M2 => rng2 x y M2 := by
  simp only [ev_z, evB_z, evTs_z, evF_z, evs_z, evO_z, tst_z, wlk_z, xc_z, xs_z, xm_z, rng1_z, rng2_z]
  show (zevs Φ G [a, b] ρ M).bnd _ = _
  simp only [zevs, R.bnd_ok]
  cases zev Φ G a ρ M with
  | ok x M1 =>
    simp only [R.bnd_ok]
    cases zev Φ G b ρ M1 with
    | ok y M2 => cases x <;> cases y <;> rfl
    | err _ _ => rfl
    | bad => rfl
  | err _ _ => rfl
  | bad => rfl
@[simp] theorem xs_nil : xs Φ G [] ρ M = .nx ρ M := by simp only [ev_z, evB_z, evTs_z, evF_z, evs_z, evO_z, tst_z, wlk_z, xc_z, xs_z, xm_z, rng1_z, rng2_z, lcF_z, frF_z] <;> rfl
@[simp] theorem xs_cons (s : Dv.S) (r : List Dv.S) : xs Φ G (s :: r) ρ M = (match xc Φ G s ρ M with | .nx ρ1 M1 => xs Φ G r ρ1 M1 | o => o) := by simp only [ev_z, evB_z, evTs_z, evF_z, evs_z, evO_z, tst_z, wlk_z, xc_z, xs_z, xm_z, rng1_z, rng2_z, lcF_z, frF_z] <;> rfl
@[simp] theorem xc_exp (e : E) : xc Φ G (.exp e) ρ M = (ev Φ G e ρ M).st ρ fun _ M1 => .nx ρ M1 := by simp only [ev_z, evB_z, evTs_z, evF_z, evs_z, evO_z, tst_z, wlk_z, xc_z, xs_z, xm_z, rng1_z, rng2_z, lcF_z, frF_z] <;> rfl
@[simp] theorem xc_set (tg : Tg) (e : E) : xc Φ G (.set tg e) ρ M = (ev Φ G e ρ M).st ρ fun x M1 => match tg.put x ρ with | some ρ' => .nx ρ' M1 | none => .bad := by simp only [ev_z, evB_z, evTs_z, evF_z, evs_z, evO_z, tst_z, wlk_z, xc_z, xs_z, xm_z, rng1_z, rng2_z, lcF_z, frF_z] <;> rfl
@[simp] theorem xc_par (i j : Nat) (a b : E) : xc Φ G (.par i j a b) ρ M = (ev Φ G a ρ M).st ρ fun x M1 => (ev Φ G b ρ M1).st ρ fun y M2 => .nx ((ρ.set i (some x)).set j (some y)) M2 := by simp only [ev_z, evB_z, evTs_z, evF_z, evs_z, evO_z, tst_z, wlk_z, xc_z, xs_z, xm_z, rng1_z, rng2_z, lcF_z, frF_z] <;> rfl
@[simp] theorem xc_ite (t : E) (a b : List Dv.S) : xc Φ G (.ite t a b) ρ M = (tst Φ G t ρ M).st ρ fun k M1 => if k then xs Φ G a ρ M1 else xs Φ G b ρ M1 := by simp only [ev_z, evB_z, evTs_z, evF_z, evs_z, evO_z, tst_z, wlk_z, xc_z, xs_z, xm_z, rng1_z, rng2_z, lcF_z, frF_z] <;> rfl
@[simp] theorem xc_fr (tg : Tg) (it : E) (b : List Dv.S) : xc Φ G (.fr tg it b) ρ M = (wlk Φ G it ρ M).st ρ fun ds M1 => loopF (frF Φ G tg b) ds ρ M1 := by simp only [ev_z, evB_z, evTs_z, evF_z, evs_z, evO_z, tst_z, wlk_z, xc_z, xs_z, xm_z, rng1_z, rng2_z, lcF_z, frF_z] <;> rfl
theorem fr_nm (i : Nat) (b : List Dv.S) (d : D) : frF Φ G (.nm i) b d ρ M = xs Φ G b (ρ.set i (some d)) M := by simp only [ev_z, evB_z, evTs_z, evF_z, evs_z, evO_z, tst_z, wlk_z, xc_z, xs_z, xm_z, rng1_z, rng2_z, lcF_z, frF_z] <;> rfl
theorem fr_def (tg : Tg) (b : List Dv.S) (d : D) : frF Φ G tg b d ρ M = (match tg.put d ρ with | some ρ' => xs Φ G b ρ' M | none => .bad) := by simp only [ev_z, evB_z, evTs_z, evF_z, evs_z, evO_z, tst_z, wlk_z, xc_z, xs_z, xm_z, rng1_z, rng2_z, lcF_z, frF_z] <;> rfl
@[simp] theorem xc_ret (e : E) : xc Φ G (.ret e) ρ M = (ev Φ G e ρ M).st ρ fun d M1 => .rt d M1 := by simp only [ev_z, evB_z, evTs_z, evF_z, evs_z, evO_z, tst_z, wlk_z, xc_z, xs_z, xm_z, rng1_z, rng2_z, lcF_z, frF_z] <;> rfl
@[simp] theorem xc_retN : xc Φ G .retN ρ M = .rt .non M := by simp only [ev_z, evB_z, evTs_z, evF_z, evs_z, evO_z, tst_z, wlk_z, xc_z, xs_z, xm_z, rng1_z, rng2_z, lcF_z, frF_z] <;> rfl
@[simp] theorem xc_pass : xc Φ G .pass ρ M = .nx ρ M := by simp only [ev_z, evB_z, evTs_z, evF_z, evs_z, evO_z, tst_z, wlk_z, xc_z, xs_z, xm_z, rng1_z, rng2_z, lcF_z, frF_z] <;> rfl
@[simp] theorem xc_brk : xc Φ G .brk ρ M = .bk ρ M := by simp only [ev_z, evB_z, evTs_z, evF_z, evs_z, evO_z, tst_z, wlk_z, xc_z, xs_z, xm_z, rng1_z, rng2_z, lcF_z, frF_z] <;> rfl
@[simp] theorem xc_cnt : xc Φ G .cnt ρ M = .ct ρ M := by simp only [ev_z, evB_z, evTs_z, evF_z, evs_z, evO_z, tst_z, wlk_z, xc_z, xs_z, xm_z, rng1_z, rng2_z, lcF_z, frF_z] <;> rfl
theorem xc_tr1 (b : List Dv.S) (h : Nat) (k : Const) : xc Φ G (.tr1 b h k) ρ M = (match xs Φ G b ρ M with
    | .er x ρ1 M1 => match G.ex x.c h with
      | some true => match cstD k with
        | some d => .rt d M1
        | none => .bad
      | some false => .er x ρ1 M1
      | none => .bad
    | r => r) := by simp only [ev_z, evB_z, evTs_z, evF_z, evs_z, evO_z, tst_z, wlk_z, xc_z, xs_z, xm_z, rng1_z, rng2_z, lcF_z, frF_z] <;> rfl
@[simp] theorem xc_mat (e : E) (ps : List Pt) (bs : List (List Dv.S)) : xc Φ G (.mat e ps bs) ρ M = (ev Φ G e ρ M).st ρ fun d M1 => xm Φ G ps bs d ρ M1 := by simp only [ev_z, evB_z, evTs_z, evF_z, evs_z, evO_z, tst_z, wlk_z, xc_z, xs_z, xm_z, rng1_z, rng2_z, lcF_z, frF_z] <;> rfl
@[simp] theorem xc_sst (o i e : E) : xc Φ G (.sst o i e) ρ M = (ev Φ G e ρ M).st ρ fun y M1 => (ev Φ G o ρ M1).st ρ fun x M2 => (ev Φ G i ρ M2).st ρ fun k M3 => match x, k with
    | .loc n, .int j => match M3[n]? with
      | some (some (.lst xs)) => match ixN xs.length j with
        | some q => .nx ρ (M3.set n (some (.lst (xs.set q y))))
        | none => .bad
      | _ => .bad
    | _, _ => .bad := by simp only [ev_z, evB_z, evTs_z, evF_z, evs_z, evO_z, tst_z, wlk_z, xc_z, xs_z, xm_z, rng1_z, rng2_z, lcF_z, frF_z] <;> rfl
@[simp] theorem put_nm (i : Nat) (d : Dv.D) : Tg.put (.nm i) d ρ = some (ρ.set i (some d)) := Eq.trans rfl rfl
@[simp] theorem fin_rt (n : Mem) (d : Dv.D) : fin true n (.rt d M) = .ok d M := Eq.trans rfl rfl
@[simp] theorem fin_nx (n : Mem) : fin true n (.nx ρ M) = .ok .non M := Eq.trans rfl rfl
end
/-! ### loops -/
section
/-- a pure step: items, some kept -/
theorem foldC_pure {f : Dv.D → Mem → R (Option Dv.D)} {g : Dv.D → Option Dv.D} {M : Mem} : ∀ {xs acc : List Dv.D}, (∀ x ∈ xs, f x M = .ok (g x) M) → acc.length + xs.length ≤ sizeLine → foldC f xs acc M = .ok (acc ++ xs.filterMap g) M
  | [], acc, _, _ => by simp [foldC]
  | x :: xs, acc, h, hl => by
    have h1 := h x (List.mem_cons_self ..)
    rw [List.length_cons] at hl
    simp only [foldC, h1]
    cases e : g x with
    | none =>
      simp only [e]
      rw [foldC_pure (fun y hy => h y (List.mem_cons_of_mem _ hy)) (by omega), List.filterMap_cons, e]
    | some y =>
      simp only [e]
      rw [if_pos (by omega), foldC_pure (fun y hy => h y (List.mem_cons_of_mem _ hy)) (by simp; omega), List.filterMap_cons, e]
      simp
/-- a step that draws: what holds of the store is kept, item by item -/
theorem foldC_draw {f : Dv.D → Mem → R (Option Dv.D)} {I : Nat → Mem → Prop} {P : Dv.D → Prop} {N : Nat} : ∀ {xs acc : List Dv.D} {i : Nat} {M : Mem}, (∀ (x : Dv.D) (i : Nat) (M : Mem), x ∈ xs → i < N → I i M → ∃ y M', f x M = .ok (some y) M' ∧ P y ∧ I (i + 1) M') → acc.length + xs.length ≤ sizeLine → i + xs.length ≤ N → I i M →
    ∃ ys M', foldC f xs acc M = .ok (acc ++ ys) M' ∧ ys.length = xs.length ∧ (∀ y ∈ ys, P y) ∧ I (i + xs.length) M'
  | [], acc, i, M, _, _, _, h0 => ⟨[], M, by simp [foldC], rfl, by simp, h0⟩
  | x :: xs, acc, i, M, h, hl, hN, h0 => by
    rw [List.length_cons] at hl hN
    obtain ⟨y, M1, e, p, h1⟩ := h x i M (List.mem_cons_self ..) (by omega) h0
    obtain ⟨ys, M2, e2, l2, p2, h2⟩ := foldC_draw (acc := acc ++ [y]) (fun z j N hz => h z j N (List.mem_cons_of_mem _ hz)) (by simp; omega) (by omega) h1
    refine ⟨y :: ys, M2, ?_, by simp [l2], fun z hz => ?_, by rw [List.length_cons, ← Nat.add_assoc, Nat.add_right_comm]; exact h2⟩
    · simp only [foldC, e]
      rw [if_pos (by omega), e2]
      simp
    · rcases List.mem_cons.mp hz with rfl | hz
      · exact p
      · exact p2 z hz
/-- a for loop whose body falls through: what holds of slots and store is kept -/
theorem loopF_inv {g : Dv.D → Env' → Mem → RS} {I : Nat → Env' → Mem → Prop} {N : Nat} : ∀ {xs : List Dv.D} {i : Nat} {ρ : Env'} {M : Mem}, (∀ (x : Dv.D) (i : Nat) (ρ : Env') (M : Mem), x ∈ xs → i < N → I i ρ M → ∃ ρ' M', (g x ρ M = .nx ρ' M' ∨ g x ρ M = .ct ρ' M') ∧ I (i + 1) ρ' M') → i + xs.length ≤ N → I i ρ M →
    ∃ ρ' M', loopF g xs ρ M = .nx ρ' M' ∧ I (i + xs.length) ρ' M'
  | [], i, ρ, M, _, _, h0 => ⟨ρ, M, rfl, h0⟩
  | x :: xs, i, ρ, M, h, hN, h0 => by
    rw [List.length_cons] at hN
    obtain ⟨ρ1, M1, e, h1⟩ := h x i ρ M (List.mem_cons_self ..) (by omega) h0
    obtain ⟨ρ2, M2, e2, h2⟩ := loopF_inv (fun z j σ N hz => h z j σ N (List.mem_cons_of_mem _ hz)) (by omega) h1
    refine ⟨ρ2, M2, ?_, by rw [List.length_cons, ← Nat.add_assoc, Nat.add_right_comm]; exact h2⟩
    rcases e with e | e <;> simp only [loopF, e, e2]
end
/-! ### kinds -/
section
variable {b : Bool} {i : Int} {x : Str} {xs ks vs : List Dv.D}
theorem k_NoneType_int : kitB "NoneType" "int" = some false := by decide +kernel
@[simp] theorem isi_non_int : isiD .non (.bt "int") = some false := k_NoneType_int
theorem k_NoneType_str : kitB "NoneType" "str" = some false := by decide +kernel
@[simp] theorem isi_non_str : isiD .non (.bt "str") = some false := k_NoneType_str
theorem k_NoneType_bool : kitB "NoneType" "bool" = some false := by decide +kernel
@[simp] theorem isi_non_bool : isiD .non (.bt "bool") = some false := k_NoneType_bool
theorem k_NoneType_tuple : kitB "NoneType" "tuple" = some false := by decide +kernel
@[simp] theorem isi_non_tuple : isiD .non (.bt "tuple") = some false := k_NoneType_tuple
theorem k_NoneType_list : kitB "NoneType" "list" = some false := by decide +kernel
@[simp] theorem isi_non_list : isiD .non (.bt "list") = some false := k_NoneType_list
theorem k_NoneType_dict : kitB "NoneType" "dict" = some false := by decide +kernel
@[simp] theorem isi_non_dict : isiD .non (.bt "dict") = some false := k_NoneType_dict
theorem k_bool_int : kitB "bool" "int" = some true := by decide +kernel
@[simp] theorem isi_bl_int : isiD (.bl b) (.bt "int") = some true := k_bool_int
theorem k_bool_str : kitB "bool" "str" = some false := by decide +kernel
@[simp] theorem isi_bl_str : isiD (.bl b) (.bt "str") = some false := k_bool_str
theorem k_bool_bool : kitB "bool" "bool" = some true := by decide +kernel
@[simp] theorem isi_bl_bool : isiD (.bl b) (.bt "bool") = some true := k_bool_bool
theorem k_bool_tuple : kitB "bool" "tuple" = some false := by decide +kernel
@[simp] theorem isi_bl_tuple : isiD (.bl b) (.bt "tuple") = some false := k_bool_tuple
theorem k_bool_list : kitB "bool" "list" = some false := by decide +kernel
@[simp] theorem isi_bl_list : isiD (.bl b) (.bt "list") = some false := k_bool_list
theorem k_bool_dict : kitB "bool" "dict" = some false := by decide +kernel
@[simp] theorem isi_bl_dict : isiD (.bl b) (.bt "dict") = some false := k_bool_dict
theorem k_int_int : kitB "int" "int" = some true := by decide +kernel
@[simp] theorem isi_int_int : isiD (.int i) (.bt "int") = some true := k_int_int
theorem k_int_str : kitB "int" "str" = some false := by decide +kernel
@[simp] theorem isi_int_str : isiD (.int i) (.bt "str") = some false := k_int_str
theorem k_int_bool : kitB "int" "bool" = some false := by decide +kernel
@[simp] theorem isi_int_bool : isiD (.int i) (.bt "bool") = some false := k_int_bool
theorem k_int_tuple : kitB "int" "tuple" = some false := by decide +kernel
@[simp] theorem isi_int_tuple : isiD (.int i) (.bt "tuple") = some false := k_int_tuple
theorem k_int_list : kitB "int" "list" = some false := by decide +kernel
@[simp] theorem isi_int_list : isiD (.int i) (.bt "list") = some false := k_int_list
theorem k_int_dict : kitB "int" "dict" = some false := by decide +kernel
@[simp] theorem isi_int_dict : isiD (.int i) (.bt "dict") = some false := k_int_dict
theorem k_str_int : kitB "str" "int" = some false := by decide +kernel
@[simp] theorem isi_str_int : isiD (.str x) (.bt "int") = some false := k_str_int
theorem k_str_str : kitB "str" "str" = some true := by decide +kernel
@[simp] theorem isi_str_str : isiD (.str x) (.bt "str") = some true := k_str_str
theorem k_str_bool : kitB "str" "bool" = some false := by decide +kernel
@[simp] theorem isi_str_bool : isiD (.str x) (.bt "bool") = some false := k_str_bool
theorem k_str_tuple : kitB "str" "tuple" = some false := by decide +kernel
@[simp] theorem isi_str_tuple : isiD (.str x) (.bt "tuple") = some false := k_str_tuple
theorem k_str_list : kitB "str" "list" = some false := by decide +kernel
@[simp] theorem isi_str_list : isiD (.str x) (.bt "list") = some false := k_str_list
theorem k_str_dict : kitB "str" "dict" = some false := by decide +kernel
@[simp] theorem isi_str_dict : isiD (.str x) (.bt "dict") = some false := k_str_dict
theorem k_tuple_int : kitB "tuple" "int" = some false := by decide +kernel
@[simp] theorem isi_tup_int : isiD (.tup xs) (.bt "int") = some false := k_tuple_int
theorem k_tuple_str : kitB "tuple" "str" = some false := by decide +kernel
@[simp] theorem isi_tup_str : isiD (.tup xs) (.bt "str") = some false := k_tuple_str
theorem k_tuple_bool : kitB "tuple" "bool" = some false := by decide +kernel
@[simp] theorem isi_tup_bool : isiD (.tup xs) (.bt "bool") = some false := k_tuple_bool
theorem k_tuple_tuple : kitB "tuple" "tuple" = some true := by decide +kernel
@[simp] theorem isi_tup_tuple : isiD (.tup xs) (.bt "tuple") = some true := k_tuple_tuple
theorem k_tuple_list : kitB "tuple" "list" = some false := by decide +kernel
@[simp] theorem isi_tup_list : isiD (.tup xs) (.bt "list") = some false := k_tuple_list
theorem k_tuple_dict : kitB "tuple" "dict" = some false := by decide +kernel
@[simp] theorem isi_tup_dict : isiD (.tup xs) (.bt "dict") = some false := k_tuple_dict
theorem k_list_int : kitB "list" "int" = some false := by decide +kernel
@[simp] theorem isi_lst_int : isiD (.lst xs) (.bt "int") = some false := k_list_int
theorem k_list_str : kitB "list" "str" = some false := by decide +kernel
@[simp] theorem isi_lst_str : isiD (.lst xs) (.bt "str") = some false := k_list_str
theorem k_list_bool : kitB "list" "bool" = some false := by decide +kernel
@[simp] theorem isi_lst_bool : isiD (.lst xs) (.bt "bool") = some false := k_list_bool
theorem k_list_tuple : kitB "list" "tuple" = some false := by decide +kernel
@[simp] theorem isi_lst_tuple : isiD (.lst xs) (.bt "tuple") = some false := k_list_tuple
theorem k_list_list : kitB "list" "list" = some true := by decide +kernel
@[simp] theorem isi_lst_list : isiD (.lst xs) (.bt "list") = some true := k_list_list
theorem k_list_dict : kitB "list" "dict" = some false := by decide +kernel
@[simp] theorem isi_lst_dict : isiD (.lst xs) (.bt "dict") = some false := k_list_dict
@[simp] theorem isi_ro_int : isiD (.ro xs) (.bt "int") = some false := k_list_int
@[simp] theorem isi_ro_str : isiD (.ro xs) (.bt "str") = some false := k_list_str
@[simp] theorem isi_ro_bool : isiD (.ro xs) (.bt "bool") = some false := k_list_bool
@[simp] theorem isi_ro_tuple : isiD (.ro xs) (.bt "tuple") = some false := k_list_tuple
@[simp] theorem isi_ro_list : isiD (.ro xs) (.bt "list") = some true := k_list_list
@[simp] theorem isi_ro_dict : isiD (.ro xs) (.bt "dict") = some false := k_list_dict
theorem k_dict_int : kitB "dict" "int" = some false := by decide +kernel
@[simp] theorem isi_dic_int : isiD (.dic ks vs) (.bt "int") = some false := k_dict_int
theorem k_dict_str : kitB "dict" "str" = some false := by decide +kernel
@[simp] theorem isi_dic_str : isiD (.dic ks vs) (.bt "str") = some false := k_dict_str
theorem k_dict_bool : kitB "dict" "bool" = some false := by decide +kernel
@[simp] theorem isi_dic_bool : isiD (.dic ks vs) (.bt "bool") = some false := k_dict_bool
theorem k_dict_tuple : kitB "dict" "tuple" = some false := by decide +kernel
@[simp] theorem isi_dic_tuple : isiD (.dic ks vs) (.bt "tuple") = some false := k_dict_tuple
theorem k_dict_list : kitB "dict" "list" = some false := by decide +kernel
@[simp] theorem isi_dic_list : isiD (.dic ks vs) (.bt "list") = some false := k_dict_list
theorem k_dict_dict : kitB "dict" "dict" = some true := by decide +kernel
@[simp] theorem isi_dic_dict : isiD (.dic ks vs) (.bt "dict") = some true := k_dict_dict
end
end Dv
end L2
/-! Dv: tables that are known in part; plain data -/
namespace L2
namespace Dv
open PySem PySem.Spec PyProof.Rows

/-- the table has this def, this global, this class of errors .. -/
class HF (T : Tb) (i : Nat) (e : outParam FnE) : Prop where eq : T.fn i = some e
class HG (T : Tb) (g : Nat) (d : outParam Dv.D) : Prop where eq : ∃ x, T.gl g = some (x, d)
class HX (T : Tb) (c h : Nat) (b : outParam Bool) : Prop where eq : T.ex c h = some b
class HR (T : Tb) (c : Nat) : Prop where eq : T.raw c = true
inductive AllL {α β : Type} (P : α → β → Prop) : List (α × β) → Prop
  | nil : AllL P []
  | cons {a : α} {b : β} {l : List (α × β)} : P a b → AllL P l → AllL P ((a, b) :: l)
theorem look_all {α β : Type} [BEq α] [LawfulBEq α] {P : α → β → Prop} {l : List (α × β)} (h : AllL P l) {a : α} {b : β} (e : l.lookup a = some b) : P a b := by
  induction h with
  | nil => cases e
  | @cons x y l h1 _ ih =>
    rw [List.lookup_cons] at e
    by_cases hx : a == x
    · rw [hx] at e
      cases e
      rw [eq_of_beq hx]
      exact h1
    · have hx' : (a == x) = false := by simpa using hx
      rw [hx'] at e
      exact ih e
section
variable {T : Tb} {Φ : Calls} {ρ : Env'} {M : Mem} {k i : Nat} {e : FnE} {ds : List Dv.D}
theorem phi_fn [h : HF T i e] (hl : ds.length = e.ps.length) : Phi T (k + 1) i ds M = fin e.keep M (xs (Phi T k) T e.body (ds.map some ++ List.replicate (e.N.length - ds.length) none) M) := by
  simp only [Phi, h.eq, xs_z]
  rw [if_pos hl]
@[simp] theorem ev_gl {g : Nat} {d : Dv.D} [h : HG T g d] : ev Φ T (.glo g) ρ M = .ok d M := by
  obtain ⟨x, e⟩ := h.eq
  rw [ev_glo, e]
  rfl
@[simp] theorem ex_eq {c h : Nat} {b : Bool} [q : HX T c h b] : T.ex c h = some b := q.eq
@[simp] theorem xc_raiR {c : Nat} {m : Str} [h : HR T c] : xc Φ T (.rai c m) ρ M = .er ⟨c, [], []⟩ ρ M := by
  rw [xc_z]
  show (if T.raw c = true then RS.er ⟨c, [], []⟩ ρ M else .bad) = _
  rw [if_pos h.eq]
end
/-! ### plain data -/
mutual
def D.pl : D → Bool
  | .non => true | .bl _ => true
  | .int i => decide (i.natAbs < 2 ^ 240)
  | .str x => PyData.strOk x
  | .tup xs => D.pls xs | .lst xs => D.pls xs
  | .dic ks vs => ks.isEmpty && vs.isEmpty
  | .obj _ _ _ => false | .loc _ => false | .ro _ => false
def D.pls : List D → Bool
  | [] => true
  | x :: xs => D.pl x && D.pls xs
end
mutual
/-- how much there is of it -/
def D.wt : D → Nat
  | .str x => x.length + 1 | .tup xs => D.wts xs + 1 | .lst xs => D.wts xs + 1
  | .non => 1 | .bl _ => 1 | .int _ => 1 | .dic _ _ => 1 | .obj _ _ _ => 1 | .loc _ => 1 | .ro _ => 1
def D.wts : List D → Nat
  | [] => 0
  | x :: xs => D.wt x + D.wts xs
end
mutual
/-- how deep it is -/
def D.dp : D → Nat
  | .tup xs => D.dps xs + 1 | .lst xs => D.dps xs + 1 | .dic _ _ => 1
  | .non => 0 | .bl _ => 0 | .int _ => 0 | .str _ => 0 | .obj _ _ _ => 0 | .loc _ => 0 | .ro _ => 0
def D.dps : List D → Nat
  | [] => 0
  | x :: xs => max (D.dp x) (D.dps xs)
end
mutual
/-- is there a dict, a list in it -/
def D.hD : D → Bool
  | .tup xs => D.hDs xs | .lst xs => D.hDs xs | .dic _ _ => true
  | .non => false | .bl _ => false | .int _ => false | .str _ => false | .obj _ _ _ => false | .loc _ => false | .ro _ => false
def D.hDs : List D → Bool
  | [] => false
  | x :: xs => D.hD x || D.hDs xs
end
mutual
def D.hL : D → Bool
  | .tup xs => D.hLs xs | .lst _ => true | .dic _ _ => false
  | .non => false | .bl _ => false | .int _ => false | .str _ => false | .obj _ _ _ => false | .loc _ => false | .ro _ => false
def D.hLs : List D → Bool
  | [] => false
  | x :: xs => D.hL x || D.hLs xs
end
section
variable {x : D} {xs ys : List D}
theorem pls_mem : ∀ {xs : List D}, D.pls xs = true → ∀ x ∈ xs, x.pl = true
  | y :: ys, h, x, hx => by
    simp only [D.pls, Bool.and_eq_true] at h
    rcases List.mem_cons.mp hx with rfl | hx
    · exact h.1
    · exact pls_mem h.2 x hx
theorem pls_of : ∀ {xs : List D}, (∀ x ∈ xs, x.pl = true) → D.pls xs = true
  | [], _ => rfl
  | y :: ys, h => by
    simp only [D.pls, Bool.and_eq_true]
    exact ⟨h y (List.mem_cons_self ..), pls_of fun x hx => h x (List.mem_cons_of_mem _ hx)⟩
theorem pls_sub (h : D.pls ys = true) (s : ∀ x ∈ xs, x ∈ ys) : D.pls xs = true := pls_of fun x hx => pls_mem h x (s x hx)
theorem pls_app : D.pls (xs ++ ys) = (D.pls xs && D.pls ys) := by
  induction xs with
  | nil => rfl
  | cons x r ih => simp only [List.cons_append, D.pls, ih, Bool.and_assoc]
theorem wts_app : D.wts (xs ++ ys) = D.wts xs + D.wts ys := by
  induction xs with
  | nil => simp [D.wts]
  | cons x r ih => simp only [List.cons_append, D.wts, ih, Nat.add_assoc]
theorem wt_pos : 1 ≤ x.wt := by cases x <;> simp [D.wt]
theorem wts_sub {xs ys : List D} (h : xs.Sublist ys) : D.wts xs ≤ D.wts ys := by
  induction h with
  | slnil => exact Nat.le_refl _
  | cons a _ ih => simp only [D.wts]; omega
  | cons_cons a _ ih => simp only [D.wts]; omega
theorem wts_mem {x : D} : ∀ {xs : List D}, x ∈ xs → x.wt ≤ D.wts xs
  | y :: ys, hx => by
    simp only [D.wts]
    rcases List.mem_cons.mp hx with rfl | hx
    · omega
    · have := wts_mem hx
      omega
theorem wts_len : ∀ xs : List D, xs.length ≤ D.wts xs
  | [] => Nat.le_refl _
  | x :: r => by
    have := wts_len r
    have := wt_pos (x := x)
    simp only [List.length_cons, D.wts]
    omega
theorem dps_app : D.dps (xs ++ ys) = max (D.dps xs) (D.dps ys) := by
  induction xs with
  | nil => simp [D.dps]
  | cons x r ih => simp only [List.cons_append, D.dps, ih, Nat.max_assoc]
theorem dps_le {n : Nat} : ∀ {xs : List D}, (∀ x ∈ xs, x.dp ≤ n) → D.dps xs ≤ n
  | [], _ => Nat.zero_le _
  | y :: ys, h => Nat.max_le.mpr ⟨h y (List.mem_cons_self ..), dps_le fun x hx => h x (List.mem_cons_of_mem _ hx)⟩
theorem dps_mem {x : D} : ∀ {xs : List D}, x ∈ xs → x.dp ≤ D.dps xs
  | y :: ys, hx => by
    simp only [D.dps]
    rcases List.mem_cons.mp hx with rfl | hx
    · exact Nat.le_max_left ..
    · exact Nat.le_trans (dps_mem hx) (Nat.le_max_right ..)
theorem hDs_app : D.hDs (xs ++ ys) = (D.hDs xs || D.hDs ys) := by
  induction xs with
  | nil => rfl
  | cons x r ih => simp only [List.cons_append, D.hDs, ih, Bool.or_assoc]
theorem hLs_app : D.hLs (xs ++ ys) = (D.hLs xs || D.hLs ys) := by
  induction xs with
  | nil => rfl
  | cons x r ih => simp only [List.cons_append, D.hLs, ih, Bool.or_assoc]
theorem hDs_of : ∀ {xs : List D}, (∀ x ∈ xs, x.hD = false) → D.hDs xs = false
  | [], _ => rfl
  | y :: ys, h => by
    simp only [D.hDs, Bool.or_eq_false_iff]
    exact ⟨h y (List.mem_cons_self ..), hDs_of fun x hx => h x (List.mem_cons_of_mem _ hx)⟩
theorem hDs_mem : ∀ {xs : List D}, D.hDs xs = false → ∀ x ∈ xs, x.hD = false
  | y :: ys, h, x, hx => by
    simp only [D.hDs, Bool.or_eq_false_iff] at h
    rcases List.mem_cons.mp hx with rfl | hx
    · exact h.1
    · exact hDs_mem h.2 x hx
theorem hLs_of : ∀ {xs : List D}, (∀ x ∈ xs, x.hL = false) → D.hLs xs = false
  | [], _ => rfl
  | y :: ys, h => by
    simp only [D.hLs, Bool.or_eq_false_iff]
    exact ⟨h y (List.mem_cons_self ..), hLs_of fun x hx => h x (List.mem_cons_of_mem _ hx)⟩
theorem hLs_mem : ∀ {xs : List D}, D.hLs xs = false → ∀ x ∈ xs, x.hL = false
  | y :: ys, h, x, hx => by
    simp only [D.hLs, Bool.or_eq_false_iff] at h
    rcases List.mem_cons.mp hx with rfl | hx
    · exact h.1
    · exact hLs_mem h.2 x hx
end
/-- as the library's data -/
structure PyOf (d : D) (p : PyData) : Prop where
  py : d.toPy = some p
  sh : p.showable = true
  lv : p.leavesShort 2000 = true
  dp : p.depth ≤ d.dp
  bk : p.bulk + 1 ≤ d.wt
  hd : p.hasDict = d.hD
  nl : noList p = !d.hL
  ly : d.hD = false → p.canLay0 = true
structure PysOf (d : List D) (p : List PyData) : Prop where
  py : D.toPys d = some p
  sh : PyData.showableAll p = true
  lv : PyData.leavesShortAll 2000 p = true
  dp : PyData.depthAll p ≤ D.dps d
  bk : PyData.bulkAll p ≤ D.wts d
  hd : PyData.hasDictAll p = D.hDs d
  nl : noLists p = !D.hLs d
  ly : D.hDs d = false → PyData.canLayAll0 p = true
theorem strOk_lt {x : Str} (h : PyData.strOk x = true) : ∀ c ∈ x.cps.toList, c < 1114112 := by
  unfold PyData.strOk at h
  rw [Array.all_eq_true'] at h
  intro c hc
  have := h c (by simpa using hc)
  simpa using this
theorem log_lt {i : Int} {k : Nat} (hk : 0 < k) (h : i.natAbs < 2 ^ k) : i.natAbs.log2 < k := by
  by_cases h0 : i.natAbs = 0
  · rw [h0]
    exact hk
  · exact (Nat.log2_lt h0).mpr h
mutual
theorem py_of : ∀ {d : D}, d.pl = true → ∃ p, PyOf d p
  | .non, _ => ⟨.none, rfl, by simp [PyData.showable], rfl, by simp [PyData.depth], by simp [PyData.bulk, D.wt], by simp [PyData.hasDict, D.hD], rfl, fun _ => by simp [PyData.canLay0]⟩
  | .bl b, _ => ⟨.bool b, rfl, by simp [PyData.showable], rfl, by simp [PyData.depth], by simp [PyData.bulk, D.wt], by simp [PyData.hasDict, D.hD], rfl, fun _ => by simp [PyData.canLay0]⟩
  | .int i, h => by
    have h : i.natAbs < 2 ^ 240 := by simpa [D.pl] using h
    have hl : i.natAbs.log2 < 1920 := Nat.lt_trans (log_lt (by decide) h) (by decide)
    refine ⟨.int i, rfl, by simp [PyData.showable, hl], ?_, by simp [PyData.depth], by simp [PyData.bulk, D.wt], by simp [PyData.hasDict, D.hD], rfl, fun _ => by simp [PyData.canLay0]⟩
    have := int_text_len_1921 hl
    simp only [PyData.leavesShort, decide_eq_true_eq]
    show (Str.ofString (toString i)).length ≤ 2000
    omega
  | .str x, h => by
    have h : PyData.strOk x = true := by simpa [D.pl] using h
    refine ⟨.str x, rfl, by simp [PyData.showable], ?_, by simp [PyData.depth], by simp [PyData.bulk, D.wt, Str.length], by simp [PyData.hasDict, D.hD], rfl, fun _ => by simp [PyData.canLay0, h]⟩
    simp only [PyData.leavesShort, List.all_eq_true, decide_eq_true_eq]
    intro c hc
    have := strOk_lt h c hc
    omega
  | .tup xs, h => by
    obtain ⟨ps, a⟩ := pys_of (d := xs) (by simpa [D.pl] using h)
    exact ⟨.tuple ps, by simp [D.toPy, a.py], by simpa [PyData.showable] using a.sh, by simpa [PyData.leavesShort] using a.lv, by simp only [PyData.depth, D.dp]; have := a.dp; omega, by simp only [PyData.bulk, D.wt]; have := a.bk; omega,
      by simpa [PyData.hasDict, D.hD] using a.hd, by simpa [noList, D.hL] using a.nl, fun z => by simpa [PyData.canLay0] using a.ly (by simpa [D.hD] using z)⟩
  | .lst xs, h => by
    obtain ⟨ps, a⟩ := pys_of (d := xs) (by simpa [D.pl] using h)
    exact ⟨.list ps, by simp [D.toPy, a.py], by simpa [PyData.showable] using a.sh, by simpa [PyData.leavesShort] using a.lv, by simp only [PyData.depth, D.dp]; have := a.dp; omega, by simp only [PyData.bulk, D.wt]; have := a.bk; omega,
      by simpa [PyData.hasDict, D.hD] using a.hd, by simp [noList, D.hL], fun z => by simpa [PyData.canLay0] using a.ly (by simpa [D.hD] using z)⟩
  | .dic ks vs, h => by
    have h : ks = [] ∧ vs = [] := by simpa [D.pl] using h
    obtain ⟨rfl, rfl⟩ := h
    exact ⟨.dict [], rfl, by simp [PyData.showable, PyData.showableKv], by simp [PyData.leavesShort, PyData.leavesShortKv], by simp [PyData.depth, PyData.depthKv, D.dp], by simp [PyData.bulk, PyData.bulkKv, D.wt], by simp [PyData.hasDict, D.hD], rfl, fun z => by simp [D.hD] at z⟩
  | .obj _ _ _, h => by simp [D.pl] at h
  | .loc _, h => by simp [D.pl] at h
  | .ro _, h => by simp [D.pl] at h
theorem pys_of : ∀ {d : List D}, D.pls d = true → ∃ p, PysOf d p
  | [], _ => ⟨[], rfl, by simp [PyData.showableAll], by simp [PyData.leavesShortAll], by simp [PyData.depthAll], by simp [PyData.bulkAll], by simp [PyData.hasDictAll, D.hDs], rfl, fun _ => by simp [PyData.canLayAll0]⟩
  | x :: xs, h => by
    simp only [D.pls, Bool.and_eq_true] at h
    obtain ⟨p, a⟩ := py_of h.1
    obtain ⟨ps, b⟩ := pys_of h.2
    refine ⟨p :: ps, ?_, by simp [PyData.showableAll, a.sh, b.sh], by simp [PyData.leavesShortAll, a.lv, b.lv], ?_, ?_, by simp [PyData.hasDictAll, D.hDs, a.hd, b.hd], by simp [noLists, D.hLs, a.nl, b.nl], fun z => ?_⟩
    · show (match D.toPy x, D.toPys xs with | some a, some b => some (a :: b) | _, _ => none) = _
      rw [a.py, b.py]
    · have := a.dp
      have := b.dp
      simp only [PyData.depthAll, D.dps]
      omega
    · have := a.bk
      have := b.bk
      simp only [PyData.bulkAll, D.wts]
      omega
    · simp only [D.hDs, Bool.or_eq_false_iff] at z
      simp [PyData.canLayAll0, a.ly z.1, b.ly z.2]
end
/-- what is shown of it -/
def shD (d : D) : Str := (d.toPy.getD .none).shown
theorem toPyM_pl {M : Mem} {d : D} (h : d.pl = true) : toPyM M d = d.toPy := by cases d <;> first | rfl | (simp [D.pl] at h)
theorem repr_pl {M : Mem} {d : D} (h : d.pl = true) (hw : d.wt ≤ 8000) (hd : d.dp ≤ 60) (hm : d.hD = false ∨ d.hL = false) : reprD M d = some (shD d) := by
  obtain ⟨p, a⟩ := py_of h
  have b := PyData.shown_le_bulk 2000 (by decide) p a.lv
  have b1 := a.bk
  have b2 : p.shown.length ≤ sizeLine := Nat.le_trans b (Nat.le_trans (Nat.add_le_add_right (Nat.mul_le_mul_left _ (by omega : p.bulk ≤ 8000)) _) (by decide))
  have b3 := a.dp
  have h7 : (!p.hasDict || noList p) = true := by
    rw [a.hd, a.nl]
    rcases hm with z | z <;> simp [z]
  have h8 : p.depth ≤ 60 := by omega
  unfold reprD shD
  rw [toPyM_pl h, a.py]
  simp [a.sh, b2, h8, h7]
/-- Python's == of plain data -/
def eqv (a b : D) : Bool := PyData.eqv (a.toPy.getD .none) (b.toPy.getD .none)
def eqvs (a b : List D) : Bool := PyData.eqvAll ((D.toPys a).getD []) ((D.toPys b).getD [])
theorem str_not {x : Str} {d : D} (hd : d.pl = true) (h : ∀ y, d ≠ .str y) : ∃ p, d.toPy = some p ∧ PyData.eqv (.str x) p = false ∧ PyData.eqv p (.str x) = false := by
  obtain ⟨p, a⟩ := py_of hd
  refine ⟨p, a.py, ?_⟩
  have e := a.py
  cases d with
  | str y => exact absurd rfl (h y)
  | tup xs => simp only [D.toPy, Option.map_eq_some_iff] at e; obtain ⟨_, _, rfl⟩ := e; simp [PyData.eqv]
  | lst xs => simp only [D.toPy, Option.map_eq_some_iff] at e; obtain ⟨_, _, rfl⟩ := e; simp [PyData.eqv]
  | dic ks vs => 
    have h : ks = [] ∧ vs = [] := by simpa [D.pl] using hd
    obtain ⟨rfl, rfl⟩ := h
    simp only [D.toPy, Option.some.injEq] at e
    subst e
    simp [PyData.eqv]
  | _ => first | (simp only [D.toPy, Option.some.injEq] at e; subst e; simp [PyData.eqv]) | (simp [D.toPy] at e)
theorem eqD_pl {M : Mem} {a b : D} (ha : a.pl = true) (hb : b.pl = true) (na : a.hD = false) (nb : b.hD = false) (hd : min a.dp b.dp ≤ 64) : eqD M a b = some (eqv a b) := by
  obtain ⟨p, u⟩ := py_of ha
  obtain ⟨q, v⟩ := py_of hb
  have hm : min p.depth q.depth ≤ 64 := by
    have := u.dp
    have := v.dp
    omega
  have gen : (match toPyM M a, toPyM M b with
    | some x, some y => if x.canLay0 && y.canLay0 && decide (min x.depth y.depth ≤ 64) then some (PyData.eqv x y) else match x, y with
      | .dict _, .str _ => some false
      | _, _ => none
    | _, _ => none) = some (eqv a b) := by
    rw [toPyM_pl ha, toPyM_pl hb, u.py, v.py]
    simp [u.ly na, v.ly nb, hm, eqv, u.py, v.py]
  by_cases hs : ∃ x y, a = .str x ∧ b = .str y
  · obtain ⟨x, y, rfl, rfl⟩ := hs
    simp only [eqD, eqv, D.toPy, Option.getD_some, PyData.eqv]
    by_cases e : x = y <;> simp [e]
  · unfold eqD
    split
    · exact absurd ⟨_, _, rfl, rfl⟩ hs
    · exact gen
theorem neD_pl {M : Mem} {a b : D} (ha : a.pl = true) (hb : b.pl = true) (na : a.hD = false) (nb : b.hD = false) (hd : min a.dp b.dp ≤ 64) : neD M a b = some (!eqv a b) := by
  obtain ⟨p, u⟩ := py_of ha
  obtain ⟨q, v⟩ := py_of hb
  have hm : min p.depth q.depth ≤ 64 := by
    have := u.dp
    have := v.dp
    omega
  have gen : (match toPyM M a, toPyM M b with
    | some x, some y => if x.canLay0 && y.canLay0 && decide (min x.depth y.depth ≤ 64) then some (!PyData.eqv x y) else none
    | _, _ => none) = some (!eqv a b) := by
    rw [toPyM_pl ha, toPyM_pl hb, u.py, v.py]
    simp [u.ly na, v.ly nb, hm, eqv, u.py, v.py]
  by_cases hs : ∃ x y, a = .str x ∧ b = .str y
  · obtain ⟨x, y, rfl, rfl⟩ := hs
    simp only [neD, eqv, D.toPy, Option.getD_some, PyData.eqv]
    by_cases e : x = y <;> simp [e]
  · unfold neD
    split
    · exact absurd ⟨_, _, rfl, rfl⟩ hs
    · exact gen
section
variable {x y : Str} {i j : Int} {b c : Bool} {xs ys : List D}
@[simp] theorem eqv_str : eqv (.str x) (.str y) = decide (x = y) := by by_cases e : x = y <;> simp [eqv, D.toPy, PyData.eqv, e]
@[simp] theorem eqv_int : eqv (.int i) (.int j) = decide (i = j) := by by_cases e : i = j <;> simp [eqv, D.toPy, PyData.eqv, e]
@[simp] theorem eqv_bl : eqv (.bl b) (.bl c) = (b == c) := by simp [eqv, D.toPy, PyData.eqv]
@[simp] theorem eqv_bi : eqv (.bl b) (.int i) = decide ((if b then 1 else 0) = i) := by cases b <;> by_cases e : 1 = i <;> by_cases e2 : 0 = i <;> simp [eqv, D.toPy, PyData.eqv, e, e2]
@[simp] theorem eqv_ib : eqv (.int i) (.bl b) = decide (i = (if b then 1 else 0)) := by cases b <;> by_cases e : i = 1 <;> by_cases e2 : i = 0 <;> simp [eqv, D.toPy, PyData.eqv, e, e2]
theorem eqv_tup (h : D.pls xs = true) (h2 : D.pls ys = true) : eqv (.tup xs) (.tup ys) = eqvs xs ys := by
  obtain ⟨p, u⟩ := pys_of h
  obtain ⟨q, v⟩ := pys_of h2
  simp [eqv, eqvs, D.toPy, u.py, v.py, PyData.eqv]
theorem eqv_lst (h : D.pls xs = true) (h2 : D.pls ys = true) : eqv (.lst xs) (.lst ys) = eqvs xs ys := by
  obtain ⟨p, u⟩ := pys_of h
  obtain ⟨q, v⟩ := pys_of h2
  simp [eqv, eqvs, D.toPy, u.py, v.py, PyData.eqv]
@[simp] theorem eqvs_nil : eqvs [] [] = true := rfl
theorem eqvs_cons {a b : D} (h : a.pl = true) (h2 : b.pl = true) (h3 : D.pls xs = true) (h4 : D.pls ys = true) : eqvs (a :: xs) (b :: ys) = (eqv a b && eqvs xs ys) := by
  obtain ⟨p, u⟩ := py_of h
  obtain ⟨q, v⟩ := py_of h2
  obtain ⟨ps, u2⟩ := pys_of h3
  obtain ⟨qs, v2⟩ := pys_of h4
  simp [eqv, eqvs, D.toPys, u.py, v.py, u2.py, v2.py, PyData.eqvAll]
theorem eqvs_nc {a : D} (h : a.pl = true) (h2 : D.pls xs = true) : eqvs [] (a :: xs) = false := by
  obtain ⟨p, u⟩ := py_of h
  obtain ⟨ps, u2⟩ := pys_of h2
  simp [eqvs, D.toPys, u.py, u2.py, PyData.eqvAll]
theorem eqvs_cn {a : D} (h : a.pl = true) (h2 : D.pls xs = true) : eqvs (a :: xs) [] = false := by
  obtain ⟨p, u⟩ := py_of h
  obtain ⟨ps, u2⟩ := pys_of h2
  simp [eqvs, D.toPys, u.py, u2.py, PyData.eqvAll]
end
instance : DecidableEq D := fun a b => if h : D.beq a b = true then .isTrue (D.beq_eq h) else .isFalse fun e => h (by rw [e]; exact D.beq_refl b)
def isStr (d : D) (x : Str) : Bool := match d with | .str y => decide (y = x) | _ => false
/-- a text beside anything plain -/
theorem eqD_str {M : Mem} {d : D} {x : Str} (h : d.pl = true) (hx : PyData.strOk x = true) (hd : d.hD = false ∨ d = .dic [] []) : eqD M d (.str x) = some (isStr d x) := by
  rcases hd with hd | rfl
  · rw [eqD_pl h (by simpa [D.pl] using hx) hd rfl (by simp [D.dp])]
    by_cases hs : ∃ y, d = .str y
    · obtain ⟨y, rfl⟩ := hs
      simp [isStr]
    · obtain ⟨p, e1, e2, e3⟩ := str_not (x := x) h fun y z => hs ⟨y, z⟩
      have : eqv d (.str x) = false := by
        simp only [eqv, e1]
        exact e3
      rw [this]
      cases d <;> first | rfl | exact absurd ⟨_, rfl⟩ hs
  · unfold eqD
    simp [toPyM, D.toPy, PyData.canLay0, isStr]
end Dv
end L2
/-! Dv: more tools for plain laws -/
namespace L2
namespace Dv
open PySem PySem.Spec PyProof.Rows
section
variable {T : Tb} {Φ : Calls} {ρ : Env'} {k n : Nat} {M : Mem} {u : List Dv.D}
theorem xs_one (s : Dv.S) : xs Φ T [s] ρ M = xc Φ T s ρ M := by
  rw [xs_cons]
  cases xc Φ T s ρ M <;> simp
@[simp] theorem loopF_nil {g : D → Env' → Mem → RS} : loopF g [] ρ M = .nx ρ M := Eq.trans rfl rfl
@[simp] theorem loopF_cons {g : D → Env' → Mem → RS} {d : D} {ds : List D} : loopF g (d :: ds) ρ M = (match g d ρ M with
    | .nx ρ1 M1 => loopF g ds ρ1 M1
    | .ct ρ1 M1 => loopF g ds ρ1 M1
    | .bk ρ1 M1 => .nx ρ1 M1
    | r => r) := Eq.trans rfl rfl
@[simp] theorem add_ok {i j : Int} : bopD M .Add (.int i) (.int j) = some (.int (i + j)) := Eq.trans rfl rfl
@[simp] theorem sub_ok {i j : Int} : bopD M .Sub (.int i) (.int j) = some (.int (i - j)) := Eq.trans rfl rfl
@[simp] theorem lt_ok {i j : Int} : cmpD M .Lt (.int i) (.int j) = some (decide (i < j)) := Eq.trans rfl rfl
@[simp] theorem gt_ok {i j : Int} : cmpD M .Gt (.int i) (.int j) = some (decide (j < i)) := Eq.trans rfl rfl
@[simp] theorem le_ok {i j : Int} : cmpD M .LtE (.int i) (.int j) = some (decide (i ≤ j)) := Eq.trans rfl rfl
@[simp] theorem ge_ok {i j : Int} : cmpD M .GtE (.int i) (.int j) = some (decide (j ≤ i)) := Eq.trans rfl rfl
@[simp] theorem int_int {i : Int} : bltD .int [.int i] M = .ok (.int i) M := Eq.trans rfl rfl
@[simp] theorem int_bl {b : Bool} : bltD .int [.bl b] M = .ok (.int (if b then 1 else 0)) M := Eq.trans rfl rfl
@[simp] theorem abs_int {i : Int} : bltD .abs [.int i] M = .ok (.int (if i < 0 then -i else i)) M := Eq.trans rfl rfl
@[simp] theorem max_int {i j : Int} : bltD .max [.int i, .int j] M = .ok (.int (if j > i then j else i)) M := Eq.trans rfl rfl
@[simp] theorem min_int {i j : Int} : bltD .min [.int i, .int j] M = .ok (.int (if j < i then j else i)) M := Eq.trans rfl rfl
@[simp] theorem cst_int (i : Int) : cstD (.int i) = some (.int i) := Eq.trans rfl rfl
@[simp] theorem cst_bool (i : Bool) : cstD (.bool i) = some (.bl i) := Eq.trans rfl rfl
@[simp] theorem cst_str (i : Str) : cstD (.str i) = some (.str i) := Eq.trans rfl rfl
@[simp] theorem cst_none : cstD .none = some .non := Eq.trans rfl rfl
@[simp] theorem tru_bl {b : Bool} : truD M (.bl b) = some b := Eq.trans rfl rfl
@[simp] theorem tru_non : truD M .non = some false := Eq.trans rfl rfl
@[simp] theorem tru_int {i : Int} : truD M (.int i) = some (i != 0) := Eq.trans rfl rfl
@[simp] theorem tru_lst {xs : List D} : truD M (.lst xs) = some (!xs.isEmpty) := Eq.trans rfl rfl
@[simp] theorem tru_tup {xs : List D} : truD M (.tup xs) = some (!xs.isEmpty) := Eq.trans rfl rfl
theorem sl {n : Nat} (h : n ≤ 1000000) : n ≤ sizeLine := Nat.le_trans h (by decide)
theorem tupD_ok {xs : List Dv.D} (h : xs.length ≤ 1000000) : tupD xs M = .ok (.tup xs) M := by
  unfold tupD
  rw [if_pos (sl h)]
@[simp] theorem tupD_0 : tupD [] M = .ok (.tup []) M := tupD_ok (by simp)
@[simp] theorem tupD_1 {a : D} : tupD [a] M = .ok (.tup [a]) M := tupD_ok (by simp)
@[simp] theorem tupD_2 {a b : D} : tupD [a, b] M = .ok (.tup [a, b]) M := tupD_ok (by simp)
@[simp] theorem tupD_3 {a b c : D} : tupD [a, b, c] M = .ok (.tup [a, b, c]) M := tupD_ok (by simp)
@[simp] theorem tupD_4 {a b c d : D} : tupD [a, b, c, d] M = .ok (.tup [a, b, c, d]) M := tupD_ok (by simp)
@[simp] theorem tupD_5 {a b c d e : D} : tupD [a, b, c, d, e] M = .ok (.tup [a, b, c, d, e]) M := tupD_ok (by simp)
theorem mkL_true {xs : List Dv.D} (h : xs.length ≤ 1000000) : mkL true xs M = .ok (.lst xs) M := by
  unfold mkL
  rw [if_pos (sl h)]
  rfl
theorem mkL_false {xs : List Dv.D} (h : xs.length ≤ 1000000) : mkL false xs M = .ok (.loc M.length) (M ++ [some (.lst xs)]) := by
  unfold mkL
  rw [if_pos (sl h)]
  rfl
@[simp] theorem mkL_nil : mkL true [] M = .ok (.lst []) M := mkL_true (by decide)
@[simp] theorem mkL_nilF : mkL false [] M = .ok (.loc M.length) (M ++ [some (.lst [])]) := mkL_false (by decide)
@[simp] theorem len_ro {ds : List Dv.D} : bltD .len [.ro ds] M = .ok (.int ds.length) M := Eq.trans rfl rfl
@[simp] theorem len_lst {ds : List Dv.D} : bltD .len [.lst ds] M = .ok (.int ds.length) M := Eq.trans rfl rfl
@[simp] theorem len_tup {ds : List Dv.D} : bltD .len [.tup ds] M = .ok (.int ds.length) M := Eq.trans rfl rfl
@[simp] theorem sub_tup {ds : List Dv.D} {i : Int} : subD M (.tup ds) (.int i) = atI ds i := by simp [subD, seqD]
@[simp] theorem sub_lst {ds : List Dv.D} {i : Int} : subD M (.lst ds) (.int i) = atI ds i := by simp [subD, seqD]
@[simp] theorem sub_ro {ds : List Dv.D} {i : Int} : subD M (.ro ds) (.int i) = atI ds i := by simp [subD, seqD]
@[simp] theorem list_tup {xs : List Dv.D} : bltD .list [.tup xs] M = mkL true xs M := Eq.trans rfl rfl
@[simp] theorem list_lst {xs : List Dv.D} : bltD .list [.lst xs] M = mkL true xs M := Eq.trans rfl rfl
@[simp] theorem listM_tup {xs : List Dv.D} : bltD .listM [.tup xs] M = mkL false xs M := Eq.trans rfl rfl
@[simp] theorem listM_lst {xs : List Dv.D} : bltD .listM [.lst xs] M = mkL false xs M := Eq.trans rfl rfl
@[simp] theorem tuple_tup {xs : List Dv.D} : bltD .tuple [.tup xs] M = .ok (.tup xs) M := Eq.trans rfl rfl
@[simp] theorem tuple_lst {xs : List Dv.D} : bltD .tuple [.lst xs] M = .ok (.tup xs) M := Eq.trans rfl rfl
@[simp] theorem slc_tup {xs : List Dv.D} {lo hi : Option Int} : slcD M (.tup xs) lo hi = some (.tup (cutL xs lo hi)) := Eq.trans rfl rfl
@[simp] theorem slc_lst {xs : List Dv.D} {lo hi : Option Int} : slcD M (.lst xs) lo hi = some (.lst (cutL xs lo hi)) := Eq.trans rfl rfl
@[simp] theorem wlk_tup (es : List E) : wlk Φ T (.tup es) ρ M = (ev Φ T (.tup es) ρ M).bnd fun d M9 => R.of (itD M9 d) M9 := by simp only [ev_z, evB_z, evTs_z, evF_z, evs_z, evO_z, tst_z, wlk_z, xc_z, xs_z, xm_z, rng1_z, rng2_z, lcF_z, frF_z] <;> rfl
@[simp] theorem wlk_lc (fz : Bool) (elt : E) (tg : Tg) (it : E) (ifs : List E) (own : List Nat) : wlk Φ T (.lc fz elt tg it ifs own) ρ M = (ev Φ T (.lc fz elt tg it ifs own) ρ M).bnd fun d M9 => R.of (itD M9 d) M9 := by simp only [ev_z, evB_z, evTs_z, evF_z, evs_z, evO_z, tst_z, wlk_z, xc_z, xs_z, xm_z, rng1_z, rng2_z, lcF_z, frF_z] <;> rfl
@[simp] theorem wlk_bop (o : Operator) (a b : E) : wlk Φ T (.bop o a b) ρ M = (ev Φ T (.bop o a b) ρ M).bnd fun d M9 => R.of (itD M9 d) M9 := by simp only [ev_z, evB_z, evTs_z, evF_z, evs_z, evO_z, tst_z, wlk_z, xc_z, xs_z, xm_z, rng1_z, rng2_z, lcF_z, frF_z] <;> rfl
@[simp] theorem wlk_sub (a b : E) : wlk Φ T (.sub a b) ρ M = (ev Φ T (.sub a b) ρ M).bnd fun d M9 => R.of (itD M9 d) M9 := by simp only [ev_z, evB_z, evTs_z, evF_z, evs_z, evO_z, tst_z, wlk_z, xc_z, xs_z, xm_z, rng1_z, rng2_z, lcF_z, frF_z] <;> rfl
@[simp] theorem wlk_slc (a : E) (b c : Option E) : wlk Φ T (.slc a b c) ρ M = (ev Φ T (.slc a b c) ρ M).bnd fun d M9 => R.of (itD M9 d) M9 := by simp only [ev_z, evB_z, evTs_z, evF_z, evs_z, evO_z, tst_z, wlk_z, xc_z, xs_z, xm_z, rng1_z, rng2_z, lcF_z, frF_z] <;> rfl
@[simp] theorem wlk_rev (a : E) : wlk Φ T (.rev a) ρ M = (ev Φ T (.rev a) ρ M).bnd fun d M9 => R.of (itD M9 d) M9 := by simp only [ev_z, evB_z, evTs_z, evF_z, evs_z, evO_z, tst_z, wlk_z, xc_z, xs_z, xm_z, rng1_z, rng2_z, lcF_z, frF_z] <;> rfl
@[simp] theorem wlk_blt (f : Bi) (es : List E) : wlk Φ T (.blt f es) ρ M = (ev Φ T (.blt f es) ρ M).bnd fun d M9 => R.of (itD M9 d) M9 := by simp only [ev_z, evB_z, evTs_z, evF_z, evs_z, evO_z, tst_z, wlk_z, xc_z, xs_z, xm_z, rng1_z, rng2_z, lcF_z, frF_z] <;> rfl
@[simp] theorem wlk_enm (a : E) : wlk Φ T (.enm a) ρ M = (ev Φ T a ρ M).bnd fun x M1 => match itD M1 x with
    | some xs => .ok (xs.zipIdx.map fun p => .tup [.int p.2, p.1]) M1
    | none => .bad := by simp only [ev_z, evB_z, evTs_z, evF_z, evs_z, evO_z, tst_z, wlk_z, xc_z, xs_z, xm_z, rng1_z, rng2_z, lcF_z, frF_z] <;> rfl
@[simp] theorem wlk_zip (a b : E) : wlk Φ T (.zip a b) ρ M = (ev Φ T a ρ M).bnd fun x M1 => (ev Φ T b ρ M1).bnd fun y M2 => match itD M2 x, itD M2 y with
    | some xs, some ys => .ok (List.zipWith (fun p q => .tup [p, q]) xs ys) M2
    | _, _ => .bad := by simp only [ev_z, evB_z, evTs_z, evF_z, evs_z, evO_z, tst_z, wlk_z, xc_z, xs_z, xm_z, rng1_z, rng2_z, lcF_z, frF_z] <;> rfl
@[simp] theorem lstD_lst {xs : List D} : lstD M (.lst xs) = some xs := Eq.trans rfl rfl
@[simp] theorem it_lst {xs : List D} : itD M (.lst xs) = some xs := Eq.trans rfl rfl
@[simp] theorem it_tup {xs : List D} : itD M (.tup xs) = some xs := Eq.trans rfl rfl
@[simp] theorem it_ro {xs : List D} : itD M (.ro xs) = some xs := Eq.trans rfl rfl
@[simp] theorem it_str {x : Str} : itD M (.str x) = some (x.cps.toList.map fun c => .str ⟨#[c]⟩) := Eq.trans rfl rfl
@[simp] theorem xc_aug (i : Nat) (op : Operator) (e : E) : xc Φ T (.aug i op e) ρ M = (match ρ[i]? with
    | some (some x) => (ev Φ T e ρ M).st ρ fun y M1 => match ipF op, x, y with
      | some f, .int a, .int b => .nx (ρ.set i (some (.int (f a b)))) M1
      | _, _, _ => .bad
    | _ => .bad) := by simp only [ev_z, evB_z, evTs_z, evF_z, evs_z, evO_z, tst_z, wlk_z, xc_z, xs_z, xm_z, rng1_z, rng2_z, lcF_z, frF_z] <;> rfl
@[simp] theorem tst_cst (c : Const) : tst Φ T (.cst c) ρ M = (ev Φ T (.cst c) ρ M).bnd fun d M9 => R.of (truD M9 d) M9 := by simp only [ev_z, evB_z, evTs_z, evF_z, evs_z, evO_z, tst_z, wlk_z, xc_z, xs_z, xm_z, rng1_z, rng2_z, lcF_z, frF_z] <;> rfl
@[simp] theorem tst_sub (a b : E) : tst Φ T (.sub a b) ρ M = (ev Φ T (.sub a b) ρ M).bnd fun d M9 => R.of (truD M9 d) M9 := by simp only [ev_z, evB_z, evTs_z, evF_z, evs_z, evO_z, tst_z, wlk_z, xc_z, xs_z, xm_z, rng1_z, rng2_z, lcF_z, frF_z] <;> rfl
@[simp] theorem tst_mth (m : Me) (a : E) (es : List E) : tst Φ T (.mth m a es) ρ M = (ev Φ T (.mth m a es) ρ M).bnd fun d M9 => R.of (truD M9 d) M9 := by simp only [ev_z, evB_z, evTs_z, evF_z, evs_z, evO_z, tst_z, wlk_z, xc_z, xs_z, xm_z, rng1_z, rng2_z, lcF_z, frF_z] <;> rfl
@[simp] theorem puts_nil : Tg.puts [] [] ρ = some ρ := Eq.trans rfl rfl
@[simp] theorem puts_cons (t : Tg) (ts : List Tg) (d : D) (ds : List D) : Tg.puts (t :: ts) (d :: ds) ρ = (match Tg.put t d ρ with | some ρ' => Tg.puts ts ds ρ' | none => none) := Eq.trans rfl rfl
@[simp] theorem put_tp (ts : List Tg) (ds : List D) : Tg.put (.tp ts) (.tup ds) ρ = if ds.length = ts.length then Tg.puts ts ds ρ else none := Eq.trans rfl rfl
@[simp] theorem wipe_nil : wipeD ρ [] = ρ := Eq.trans rfl rfl
@[simp] theorem wipe_cons (v : Nat) (vs : List Nat) : wipeD ρ (v :: vs) = (wipeD ρ vs).set v none := Eq.trans rfl rfl
@[simp] theorem is_non_non : cmpD M .Is .non .non = some true := Eq.trans rfl rfl
@[simp] theorem isnot_non_non : cmpD M .IsNot .non .non = some false := Eq.trans rfl rfl
@[simp] theorem isnot_lst {xs : List D} : cmpD M .IsNot (.lst xs) .non = some true := Eq.trans rfl rfl
@[simp] theorem is_lst {xs : List D} : cmpD M .Is (.lst xs) .non = some false := Eq.trans rfl rfl
@[simp] theorem isnot_tup {xs : List D} : cmpD M .IsNot (.tup xs) .non = some true := Eq.trans rfl rfl
@[simp] theorem is_tup {xs : List D} : cmpD M .Is (.tup xs) .non = some false := Eq.trans rfl rfl
@[simp] theorem isnot_str {x : Str} : cmpD M .IsNot (.str x) .non = some true := Eq.trans rfl rfl
@[simp] theorem is_str {x : Str} : cmpD M .Is (.str x) .non = some false := Eq.trans rfl rfl
@[simp] theorem is_bl_bl {a b : Bool} : cmpD M .Is (.bl a) (.bl b) = some (decide (a = b)) := Eq.trans rfl rfl
@[simp] theorem cmp_eq {a b : D} : cmpD M .Eq a b = eqD M a b := by cases a <;> cases b <;> rfl
@[simp] theorem cmp_ne {a b : D} : cmpD M .NotEq a b = neD M a b := by cases a <;> cases b <;> rfl
@[simp] theorem eq_str {x y : Str} : eqD M (.str x) (.str y) = some (decide (x = y)) := Eq.trans rfl rfl
@[simp] theorem ne_str {x y : Str} : neD M (.str x) (.str y) = some (!decide (x = y)) := Eq.trans rfl rfl
@[simp] theorem eq_int {i j : Int} : eqD M (.int i) (.int j) = some (decide (i = j)) := by
  have e : (PyData.eqv (.int i) (.int j)) = decide (i = j) := by by_cases h : i = j <;> simp [PyData.eqv, h]
  simp [eqD, toPyM, D.toPy, PyData.canLay0, PyData.depth, e]
@[simp] theorem ne_int {i j : Int} : neD M (.int i) (.int j) = some (!decide (i = j)) := by
  have e : (PyData.eqv (.int i) (.int j)) = decide (i = j) := by by_cases h : i = j <;> simp [PyData.eqv, h]
  simp [neD, toPyM, D.toPy, PyData.canLay0, PyData.depth, e]
@[simp] theorem eq_bl {i j : Bool} : eqD M (.bl i) (.bl j) = some (i == j) := by
  simp [eqD, toPyM, D.toPy, PyData.canLay0, PyData.depth, PyData.eqv]
@[simp] theorem ne_bl {i j : Bool} : neD M (.bl i) (.bl j) = some (!(i == j)) := by
  simp [neD, toPyM, D.toPy, PyData.canLay0, PyData.depth, PyData.eqv]
@[simp] theorem instr_ok {x y : Str} : cmpD M .In (.str x) (.str y) = some (inS x y) := Eq.trans rfl rfl
@[simp] theorem notinstr_ok {x y : Str} : cmpD M .NotIn (.str x) (.str y) = some (!inS x y) := Eq.trans rfl rfl
@[simp] theorem ltstr_ok {x y : Str} : cmpD M .Lt (.str x) (.str y) = some (decide (x.cps.toList < y.cps.toList)) := Eq.trans rfl rfl
@[simp] theorem gtstr_ok {x y : Str} : cmpD M .Gt (.str x) (.str y) = some (decide (y.cps.toList < x.cps.toList)) := Eq.trans rfl rfl
theorem repr_ok {d : D} (h : d.pl = true) (hw : d.wt ≤ 8000) (hd : d.dp ≤ 60) (hm : d.hD = false ∨ d.hL = false) : bltD .repr [d] M = .ok (.str (shD d)) M := by
  simp [bltD, repr_pl h hw hd hm]
theorem rep_lst {xs : List Dv.D} {j : Nat} (h : xs.length * j ≤ 1000000) (hj : j ≤ 1000000) : bopD M .Mult (.lst xs) (.int j) = some (.lst (List.replicate j xs).flatten) := by
  have e : ((j : Int) ≤ 2 ^ 30 ∧ xs.length * ((j : Int)).toNat ≤ sizeLine ∧ -(2 ^ 30) ≤ (j : Int)) := by
    rw [Int.toNat_natCast]
    exact ⟨by omega, sl h, by omega⟩
  show (if (j : Int) ≤ 2 ^ 30 ∧ xs.length * ((j : Int)).toNat ≤ sizeLine ∧ -(2 ^ 30) ≤ (j : Int) then some (Dv.D.lst (List.replicate ((j : Int)).toNat xs).flatten) else none) = _
  rw [if_pos e, Int.toNat_natCast]
theorem add_tup {xs ys : List Dv.D} (h : xs.length + ys.length ≤ 1000000) : bopD M .Add (.tup xs) (.tup ys) = some (.tup (xs ++ ys)) := by
  simp only [bopD]
  rw [if_pos (sl h)]
theorem add_lst {xs ys : List Dv.D} (h : xs.length + ys.length ≤ 1000000) : bopD M .Add (.lst xs) (.lst ys) = some (.lst (xs ++ ys)) := by
  simp only [bopD, lstD]
  rw [if_pos (sl h)]
theorem add_str {x y : Str} (h : x.length + y.length ≤ 1000000) : bopD M .Add (.str x) (.str y) = some (.str (x ++ y)) := by
  simp only [bopD]
  rw [if_pos (sl h)]
end
/-! ### patterns -/
section
variable {Φ : Calls} {G : Tb} {ρ : Env'} {M : Mem} {p : Pt} {ps : List Pt} {b : List Dv.S} {bs : List (List Dv.S)} {d x : D} {ds : List D}
@[simp] theorem pt_wild : Pt.go M .wild d = some (some []) := Eq.trans rfl rfl
@[simp] theorem pt_cap {i : Nat} : Pt.go M (.cap i) d = some (some [(i, d)]) := Eq.trans rfl rfl
@[simp] theorem pt_alt : Pt.go M (.alt ps) d = Pt.alts M ps d := Eq.trans rfl rfl
@[simp] theorem pt_seq : Pt.go M (.seq ps) (.tup ds) = if ds.length = ps.length then Pt.gos M ps ds else some none := Eq.trans rfl rfl
@[simp] theorem pt_alts0 : Pt.alts M [] d = some none := Eq.trans rfl rfl
@[simp] theorem pt_alts1 : Pt.alts M (p :: ps) d = (match Pt.go M p d with
  | some (some l) => some (some l)
  | some none => Pt.alts M ps d
  | none => none) := Eq.trans rfl rfl
@[simp] theorem pt_gos0 : Pt.gos M [] [] = some (some []) := Eq.trans rfl rfl
@[simp] theorem pt_gos1 : Pt.gos M (p :: ps) (x :: ds) = (match Pt.go M p x with
  | some (some l) => match Pt.gos M ps ds with
    | some (some r) => some (some (l ++ r))
    | other => other
  | other => other) := Eq.trans rfl rfl
@[simp] theorem xm_nil : xm Φ G [] [] d ρ M = .nx ρ M := by simp only [ev_z, evB_z, evTs_z, evF_z, evs_z, evO_z, tst_z, wlk_z, xc_z, xs_z, xm_z, rng1_z, rng2_z, lcF_z, frF_z] <;> rfl
@[simp] theorem xm_cons : xm Φ G (p :: ps) (b :: bs) d ρ M = (match Pt.go M p d with
  | some (some l) => xs Φ G b (sets ρ l) M
  | some none => xm Φ G ps bs d ρ M
  | none => .bad) := by simp only [ev_z, evB_z, evTs_z, evF_z, evs_z, evO_z, tst_z, wlk_z, xc_z, xs_z, xm_z, rng1_z, rng2_z, lcF_z, frF_z] <;> rfl
@[simp] theorem sets_nil : sets ρ [] = ρ := Eq.trans rfl rfl
@[simp] theorem sets_cons {i : Nat} {l : List (Nat × D)} : sets ρ ((i, d) :: l) = sets (ρ.set i (some d)) l := Eq.trans rfl rfl
end
section
variable {α : Type} {l : List α}
theorem at_nat {j : Int} (h0 : 0 ≤ j) (h : j < l.length) : atI l j = l[j.toNat]? := by
  unfold atI ixN
  rw [if_pos h0, if_pos h]
  rfl
@[simp] theorem at_natN {j : Nat} : atI l (j : Int) = l[j]? := by
  by_cases h : j < l.length
  · rw [at_nat (by omega) (by omega)]
    rfl
  · unfold atI ixN
    rw [if_pos (by omega), if_neg (by omega), List.getElem?_eq_none (by omega)]
    rfl
@[simp] theorem at_c0 {a : α} : atI (a :: l) 0 = some a := at_natN (j := 0)
@[simp] theorem at_c1 {a b : α} : atI (a :: b :: l) 1 = some b := at_natN (j := 1)
@[simp] theorem at_c2 {a b c : α} : atI (a :: b :: c :: l) 2 = some c := at_natN (j := 2)
@[simp] theorem at_c3 {a b c d : α} : atI (a :: b :: c :: d :: l) 3 = some d := at_natN (j := 3)
theorem get_lt {w : Nat} (h : w < l.length) : ∃ x, l[w]? = some x ∧ x ∈ l := ⟨l[w], List.getElem?_eq_getElem h, List.getElem_mem h⟩
theorem at_get {j : Int} (h0 : 0 ≤ j) (h : j < l.length) : ∃ x, atI l j = some x ∧ x ∈ l := by
  have hj : j.toNat < l.length := by omega
  exact ⟨l[j.toNat], by rw [at_nat h0 h, List.getElem?_eq_getElem hj], List.getElem_mem hj⟩
@[simp] theorem at_last {a : α} : atI (l ++ [a]) (-1) = some a := by
  have e : ixN (l ++ [a]).length (-1) = some l.length := by
    unfold ixN
    rw [if_neg (by omega), List.length_append]
    simp
    omega
  unfold atI
  rw [e]
  simp
theorem at_neg1 : atI l (-1) = l.getLast? := by
  rcases List.eq_nil_or_concat l with rfl | ⟨L, b, rfl⟩
  · rfl
  · rw [List.concat_eq_append, at_last]; simp
theorem cut_drop (j : Nat) : cutL l (some (j : Int)) none = l.drop j := by
  unfold cutL
  rw [HT.sIx_nat, HT.sIx_none]
  by_cases h : j ≤ l.length
  · rw [Nat.min_eq_left h]
    exact List.take_of_length_le (by simp)
  · rw [Nat.min_eq_right (by omega)]
    simp
    omega
theorem cut_take (j : Nat) : cutL l none (some (j : Int)) = l.take j := by
  unfold cutL
  rw [HT.sIx_nat, HT.sIx_none]
  simp only [List.drop_zero, Nat.sub_zero]
  by_cases h : j ≤ l.length
  · rw [Nat.min_eq_left h]
  · rw [Nat.min_eq_right (by omega), List.take_of_length_le (Nat.le_refl _), List.take_of_length_le (by omega)]
end
theorem cut_init {α : Type} {l : List α} : cutL l none (some (-1)) = l.dropLast := by
  unfold cutL
  have e : HT.sIx l.length l.length (some (-1)) = l.length - 1 := by
    show (if (-1 : Int) < 0 then ((-1 : Int) + (l.length : Int)).toNat else min (-1 : Int).toNat l.length) = _
    rw [if_pos (by decide)]
    omega
  rw [e, HT.sIx_none, List.drop_zero, Nat.sub_zero, List.dropLast_eq_take]
theorem cut_dropI {α : Type} {l : List α} {i : Int} {j : Nat} (h : i = j) : cutL l (some i) none = l.drop j := by rw [h]; exact cut_drop j
theorem cut_takeI {α : Type} {l : List α} {i : Int} {j : Nat} (h : i = j) : cutL l none (some i) = l.take j := by rw [h]; exact cut_take j
/-- items without a dict, not deep, with a weight together -/
structure Fl (l : List D) (w : Nat) : Prop where
  all : ∀ x ∈ l, x.pl = true ∧ x.hD = false ∧ x.dp ≤ 5
  wt : D.wts l ≤ w
section
variable {l l2 : List D} {w w2 : Nat} {x : D}
theorem Fl.len (h : Fl l w) : l.length ≤ w := Nat.le_trans (wts_len l) h.wt
theorem Fl.le (h : Fl l w) (e : w ≤ w2) : Fl l w2 := ⟨h.all, Nat.le_trans h.wt e⟩
theorem Fl.nil : Fl [] 0 := ⟨(fun _ h => nomatch h), Nat.le_refl _⟩
theorem Fl.app (a : Fl l w) (b : Fl l2 w2) : Fl (l ++ l2) (w + w2) := by
  refine ⟨fun x hx => ?_, ?_⟩
  · rcases List.mem_append.mp hx with h | h
    · exact a.all x h
    · exact b.all x h
  · rw [wts_app]
    have := a.wt
    have := b.wt
    omega
theorem Fl.one (h1 : x.pl = true) (h2 : x.hD = false) (h3 : x.dp ≤ 5) (h4 : x.wt ≤ w) : Fl [x] w := ⟨fun y hy => (by rw [List.mem_singleton.mp hy]; exact ⟨h1, h2, h3⟩), by simp only [D.wts]; omega⟩
theorem Fl.cons (h1 : x.pl = true) (h2 : x.hD = false) (h3 : x.dp ≤ 5) (h4 : x.wt ≤ w2) (a : Fl l w) : Fl (x :: l) (w2 + w) := (Fl.one h1 h2 h3 h4).app a
theorem Fl.sub (a : Fl l w) (s : l2.Sublist l) : Fl l2 w := ⟨fun x hx => a.all x (s.subset hx), Nat.le_trans (wts_sub s) a.wt⟩
theorem Fl.take (a : Fl l w) (j : Nat) : Fl (l.take j) w := a.sub (List.take_sublist _ _)
theorem Fl.drop (a : Fl l w) (j : Nat) : Fl (l.drop j) w := a.sub (List.drop_sublist _ _)
theorem Fl.init (a : Fl l w) : Fl l.dropLast w := a.sub (List.dropLast_sublist _)
theorem Fl.rev (a : Fl l w) : Fl l.reverse w := ⟨fun x hx => a.all x (List.mem_reverse.mp hx), by
  have : D.wts l.reverse = D.wts l := by
    clear a
    induction l with
    | nil => rfl
    | cons y r ih => rw [List.reverse_cons, wts_app, ih]; simp only [D.wts]; omega
  rw [this]
  exact a.wt⟩
theorem Fl.pls (a : Fl l w) : D.pls l = true := pls_of fun x hx => (a.all x hx).1
theorem Fl.hds (a : Fl l w) : D.hDs l = false := hDs_of fun x hx => (a.all x hx).2.1
theorem Fl.dps (a : Fl l w) : D.dps l ≤ 5 := dps_le fun x hx => (a.all x hx).2.2
end
mutual
theorem pl_bel {n : Nat} : ∀ {d : D}, d.pl = true → d.bel n = true
  | .non, _ => rfl
  | .bl _, _ => rfl
  | .int _, _ => rfl
  | .str _, _ => rfl
  | .tup xs, h => by simp only [D.bel]; exact pls_bel (by simpa only [D.pl] using h)
  | .lst xs, h => by simp only [D.bel]; exact pls_bel (by simpa only [D.pl] using h)
  | .dic ks vs, h => by
    simp only [D.pl, Bool.and_eq_true, List.isEmpty_iff] at h
    obtain ⟨rfl, rfl⟩ := h
    rfl
theorem pls_bel {n : Nat} : ∀ {d : List D}, D.pls d = true → D.bels n d = true
  | [], _ => rfl
  | x :: xs, h => by
    simp only [D.pls, Bool.and_eq_true] at h
    simp only [D.bels, Bool.and_eq_true]
    exact ⟨pl_bel h.1, pls_bel h.2⟩
end
/-- a text among texts -/
theorem toPyM_loc {M : Mem} {n : Nat} {l : List D} (h : M[n]? = some (some (.lst l))) : toPyM M (.loc n) = (D.toPys l).map .list := by
  simp [toPyM, h]
theorem lay_nil {l : List D} {p : List PyData} (u : PysOf l p) (hd : D.hDs l = false) : PyData.canLayAll0 p = true ∧ PyData.eqvAll p [] = l.isEmpty := by
  refine ⟨u.ly hd, ?_⟩
  cases l with
  | nil =>
    have := u.py
    simp only [D.toPys, Option.some.injEq] at this
    subst this
    rfl
  | cons x r =>
    have := u.py
    simp only [D.toPys] at this
    split at this
    · cases this; rfl
    · cases this
section
variable {M : Mem} {n : Nat} {l : List D}
theorem eq_lst_nil (h : D.pls l = true) (hd : D.hDs l = false) : eqD M (.lst l) (.lst []) = some l.isEmpty := by
  obtain ⟨p, u⟩ := pys_of h
  obtain ⟨a, b⟩ := lay_nil u hd
  have m : min (PyData.list p).depth (PyData.list []).depth ≤ 64 := by simp [PyData.depth, PyData.depthAll]
  simp [eqD, toPyM, D.toPy, u.py, D.toPys, PyData.canLay0, a, PyData.canLayAll0, m, PyData.eqv, b]
theorem ne_lst_nil (h : D.pls l = true) (hd : D.hDs l = false) : neD M (.lst l) (.lst []) = some (!l.isEmpty) := by
  obtain ⟨p, u⟩ := pys_of h
  obtain ⟨a, b⟩ := lay_nil u hd
  have m : min (PyData.list p).depth (PyData.list []).depth ≤ 64 := by simp [PyData.depth, PyData.depthAll]
  simp [neD, toPyM, D.toPy, u.py, D.toPys, PyData.canLay0, a, PyData.canLayAll0, m, PyData.eqv, b]
@[simp] theorem eq_ll : eqD M (.lst []) (.lst []) = some true := eq_lst_nil rfl rfl
@[simp] theorem ne_ll : neD M (.lst []) (.lst []) = some false := ne_lst_nil rfl rfl
theorem eq_tup_nil (h : D.pls l = true) (hd : D.hDs l = false) : eqD M (.tup l) (.tup []) = some l.isEmpty := by
  obtain ⟨p, u⟩ := pys_of h
  obtain ⟨a, b⟩ := lay_nil u hd
  have m : min (PyData.tuple p).depth (PyData.tuple []).depth ≤ 64 := by simp [PyData.depth, PyData.depthAll]
  simp [eqD, toPyM, D.toPy, u.py, D.toPys, PyData.canLay0, a, PyData.canLayAll0, m, PyData.eqv, b]
theorem eq_loc_nil (hl : M[n]? = some (some (.lst l))) (h : D.pls l = true) (hd : D.hDs l = false) : eqD M (.loc n) (.lst []) = some l.isEmpty := by
  obtain ⟨p, u⟩ := pys_of h
  obtain ⟨a, b⟩ := lay_nil u hd
  have m : min (PyData.list p).depth (PyData.list []).depth ≤ 64 := by simp [PyData.depth, PyData.depthAll]
  have e2 : toPyM M (.lst []) = some (.list []) := rfl
  simp [eqD, toPyM_loc hl, e2, u.py, PyData.canLay0, a, PyData.canLayAll0, m, PyData.eqv, b]
theorem ne_loc_nil (hl : M[n]? = some (some (.lst l))) (h : D.pls l = true) (hd : D.hDs l = false) : neD M (.loc n) (.lst []) = some (!l.isEmpty) := by
  obtain ⟨p, u⟩ := pys_of h
  obtain ⟨a, b⟩ := lay_nil u hd
  have m : min (PyData.list p).depth (PyData.list []).depth ≤ 64 := by simp [PyData.depth, PyData.depthAll]
  have e2 : toPyM M (.lst []) = some (.list []) := rfl
  simp [neD, toPyM_loc hl, e2, u.py, PyData.canLay0, a, PyData.canLayAll0, m, PyData.eqv, b]
end
theorem strs_eq : ∀ {ds : List D} {xs : List Str}, ds = xs.map D.str → ds.all flatD = true ∧ toVs ds = some (xs.map V.str)
  | _, [], h => by subst h; exact ⟨rfl, rfl⟩
  | _, x :: xs, h => by
    subst h
    obtain ⟨a, b⟩ := strs_eq (ds := xs.map D.str) (xs := xs) rfl
    refine ⟨by simp [flatD] at a ⊢, ?_⟩
    simp only [List.map_cons, toVs, toV]
    rw [b]
theorem inV_str (x : Str) (xs : List Str) : inV (.str x) (xs.map V.str) = decide (x ∈ xs) := by
  unfold inV
  induction xs with
  | nil => rfl
  | cons y r ih =>
    rw [List.map_cons, List.any_cons, ih]
    by_cases h : x = y
    · subst h
      simp [eqV]
    · have h' : ¬ y = x := fun z => h z.symm
      simp [eqV, h, h']
theorem in_strs {M : Mem} {d : D} {x : Str} {xs : List Str} (h : seqD M d = some (xs.map D.str)) : cmpD M .In (.str x) d = some (decide (x ∈ xs)) := by
  obtain ⟨a, b⟩ := strs_eq (ds := xs.map D.str) (xs := xs) rfl
  have e : cmpD M .In (.str x) d = (match seqD M d with
    | some ds => if flatD (.str x) && ds.all flatD then (match toV (.str x), toVs ds with | some v, some vs => some (inV v vs) | _, _ => none) else none
    | none => none) := by
    cases d <;> first | rfl | (simp [seqD] at h)
  rw [e, h]
  simp only [a, b, flatD, toV, Bool.and_self, if_true, inV_str]
theorem notin_strs {M : Mem} {d : D} {x : Str} {xs : List Str} (h : seqD M d = some (xs.map D.str)) : cmpD M .NotIn (.str x) d = some (!decide (x ∈ xs)) := by
  obtain ⟨a, b⟩ := strs_eq (ds := xs.map D.str) (xs := xs) rfl
  have e : cmpD M .NotIn (.str x) d = (match seqD M d with
    | some ds => if flatD (.str x) && ds.all flatD then (match toV (.str x), toVs ds with | some v, some vs => some (!inV v vs) | _, _ => none) else none
    | none => none) := by
    cases d <;> first | rfl | (simp [seqD] at h)
  rw [e, h]
  simp only [a, b, flatD, toV, Bool.and_self, if_true, inV_str]
theorem ints_eq : ∀ (xs : List Int), (xs.map D.int).all flatD = true ∧ toVs (xs.map D.int) = some (xs.map V.int)
  | [] => ⟨rfl, rfl⟩
  | x :: xs => by
    obtain ⟨a, b⟩ := ints_eq xs
    refine ⟨by simp [flatD] at a ⊢, ?_⟩
    simp only [List.map_cons, toVs, toV]
    rw [b]
theorem inV_int (x : Int) (xs : List Int) : inV (.int x) (xs.map V.int) = decide (x ∈ xs) := by
  unfold inV
  induction xs with
  | nil => rfl
  | cons y r ih =>
    rw [List.map_cons, List.any_cons, ih]
    by_cases h : x = y
    · subst h
      simp [eqV]
    · have h' : ¬ y = x := fun z => h z.symm
      simp [eqV, h, h']
theorem in_ints {M : Mem} {d : D} {x : Int} {xs : List Int} (h : seqD M d = some (xs.map D.int)) : cmpD M .In (.int x) d = some (decide (x ∈ xs)) := by
  obtain ⟨a, b⟩ := ints_eq xs
  have e : cmpD M .In (.int x) d = (match seqD M d with
    | some ds => if flatD (.int x) && ds.all flatD then (match toV (.int x), toVs ds with | some v, some vs => some (inV v vs) | _, _ => none) else none
    | none => none) := by
    cases d <;> first | rfl | (simp [seqD] at h)
  rw [e, h]
  simp only [a, b, flatD, toV, Bool.and_self, if_true, inV_int]
theorem notin_ints {M : Mem} {d : D} {x : Int} {xs : List Int} (h : seqD M d = some (xs.map D.int)) : cmpD M .NotIn (.int x) d = some (!decide (x ∈ xs)) := by
  obtain ⟨a, b⟩ := ints_eq xs
  have e : cmpD M .NotIn (.int x) d = (match seqD M d with
    | some ds => if flatD (.int x) && ds.all flatD then (match toV (.int x), toVs ds with | some v, some vs => some (!inV v vs) | _, _ => none) else none
    | none => none) := by
    cases d <;> first | rfl | (simp [seqD] at h)
  rw [e, h]
  simp only [a, b, flatD, toV, Bool.and_self, if_true, inV_int]
theorem seq_loc {M : Mem} {n : Nat} {l : List D} (h : M[n]? = some (some (.lst l))) : seqD M (.loc n) = some l := by simp [seqD, h]
@[simp] theorem seq_lst {M : Mem} {l : List D} : seqD M (.lst l) = some l := Eq.trans rfl rfl
@[simp] theorem seq_tup {M : Mem} {l : List D} : seqD M (.tup l) = some l := Eq.trans rfl rfl
theorem app_loc {M : Mem} {n : Nat} {l : List D} {d : D} (h : M[n]? = some (some (.lst l))) (hl : l.length < 1000000) : mthD .append (.loc n) [d] M = .ok .non (M.set n (some (.lst (l ++ [d])))) := by
  simp only [mthD, h]
  rw [if_pos (Nat.lt_of_lt_of_le hl (by decide))]
theorem rcv_app {M : Mem} {n : Nat} {l : List D} (h : M[n]? = some (some (.lst l))) : rcvB .append M (.loc n) = true := by simp [rcvB, h]
theorem rcv_pop {M : Mem} {n : Nat} {l : List D} (h : M[n]? = some (some (.lst l))) : rcvB .pop M (.loc n) = true := by simp [rcvB, h]
theorem pop_loc {M : Mem} {n : Nat} {l : List D} {d : D} (h : M[n]? = some (some (.lst (l ++ [d])))) : mthD .pop (.loc n) [] M = .ok d (M.set n (some (.lst l))) := by
  simp [mthD, h]
theorem popAt_loc {M : Mem} {n : Nat} {l : List D} {d : D} {i : Nat} (h : M[n]? = some (some (.lst l))) (hd : l[i]? = some d) (hl : l.length < 1000000) : mthD .pop (.loc n) [.int i] M = .ok d (M.set n (some (.lst (l.eraseIdx i)))) := by
  have hi : i < l.length := (List.getElem?_eq_some_iff.mp hd).1
  have e : ixN l.length (i : Int) = some i := by
    unfold ixN
    rw [if_pos (by omega), if_pos (by omega)]
    rfl
  simp only [mthD, h, e, hd]
  rw [if_pos (by omega)]
theorem tuple_loc {M : Mem} {n : Nat} {l : List D} (h : M[n]? = some (some (.lst l))) : bltD .tuple [.loc n] M = .ok (.tup l) M := by
  simp [bltD, lstD, h]
theorem len_loc {M : Mem} {n : Nat} {l : List D} (h : M[n]? = some (some (.lst l))) : bltD .len [.loc n] M = .ok (.int l.length) M := by
  simp [bltD, lenD, h]
section
variable {M : Mem} {a b c : Option MO}
@[simp] theorem mem_0 : (M ++ [a])[M.length]? = some a := by simp
@[simp] theorem mem2_0 : (M ++ [a, b])[M.length]? = some a := by simp
@[simp] theorem mem2_1 : (M ++ [a, b])[M.length + 1]? = some b := by
  rw [List.getElem?_append_right (by omega), Nat.add_sub_cancel_left]; rfl
@[simp] theorem set_0 : (M ++ [a]).set M.length c = M ++ [c] := by simp
@[simp] theorem set2_0 : (M ++ [a, b]).set M.length c = M ++ [c, b] := by simp
@[simp] theorem set2_1 : (M ++ [a, b]).set (M.length + 1) c = M ++ [a, c] := by
  rw [List.set_append, if_neg (by omega), Nat.add_sub_cancel_left]; rfl
end
theorem oldOk_refl {n : Nat} : ∀ M : Mem, oldOk n M M = true
  | [] => rfl
  | none :: r => by simp only [oldOk]; exact oldOk_refl r
  | some u :: r => by simp only [oldOk, MO.beq_refl, Bool.true_or, Bool.true_and]; exact oldOk_refl r
theorem oldOk_set {n : Nat} {m : MO} (hm : m.bel n = true) : ∀ (M : Mem) (i : Nat), oldOk n M (M.set i (some m)) = true
  | [], _ => rfl
  | none :: r, 0 => by simp only [List.set_cons_zero, oldOk, hm, Bool.true_and]; exact oldOk_refl r
  | some u :: r, 0 => by simp only [List.set_cons_zero, oldOk, hm, Bool.or_true, Bool.true_and]; exact oldOk_refl r
  | none :: r, i + 1 => by simp only [List.set_cons_succ, oldOk]; exact oldOk_set hm r i
  | some u :: r, i + 1 => by simp only [List.set_cons_succ, oldOk, MO.beq_refl, Bool.true_or, Bool.true_and]; exact oldOk_set hm r i
section
variable {M X : Mem} {d : D} {xs : List D} {j : Nat} {ρ : Env'}
/-- the end of a call that has made places -/
theorem fin_rtL (h1 : X[j]? = some (some (.lst xs))) (h2 : D.bels M.length xs = true) : fin false M (.rt (.loc (M.length + j)) (M ++ X)) = .ok (.lst xs) M := by
  have e : (M ++ X)[M.length + j]? = some (some (.lst xs)) := by rw [List.getElem?_append_right (by omega), Nat.add_sub_cancel_left]; exact h1
  show trim M _ _ = _
  unfold trim res
  have e2 : ¬ M.length + j < M.length := by omega
  simp only [if_neg e2, e, h2, if_true, List.take_left, oldOk_refl]
theorem res_bel {n : Nat} (h : d.bel n = true) : res M n d = some d := by
  cases d <;> simp only [res] <;> first | exact if_pos h | (rw [if_pos]; simpa [D.bel] using h)
theorem fin_rtD (h : d.bel M.length = true) : fin false M (.rt d (M ++ X)) = .ok d M := by
  show trim M _ _ = _
  unfold trim
  rw [res_bel h]
  simp only [List.take_left, oldOk_refl, if_true]
theorem fin_rtD0 (h : d.bel M.length = true) : fin false M (.rt d M) = .ok d M := by
  have := fin_rtD (X := []) h
  rwa [List.append_nil] at this
theorem fin_nxD : fin false M (.nx ρ (M ++ X)) = .ok .non M := fin_rtD (d := .non) rfl
end
@[simp] theorem fin_er {M0 M : Mem} {x : Ex} {ρ : Env'} : fin true M0 (.er x ρ M) = .err x M := Eq.trans rfl rfl
/-! ### texts joined -/
theorem glue_list : ∀ (l : List Str) (a : Array Nat), (l.foldl (fun acc p => acc ++ (#[] : Array Nat) ++ p.cps) a).toList = a.toList ++ l.flatMap (·.cps.toList)
  | [], a => by simp
  | x :: r, a => by
    rw [List.foldl_cons, glue_list r]
    simp
theorem join_list (l : List Str) : (Txt.join (Str.ofString "") l).cps.toList = l.flatMap (·.cps.toList) := by
  have e : (Str.ofString "").cps = #[] := by decide
  show ((l.drop 1).foldl (fun acc p => acc ++ (Str.ofString "").cps ++ p.cps) (l.headD Str.empty).cps).toList = _
  rw [e, glue_list]
  cases l with
  | nil => rfl
  | cons x r => simp
theorem strs_ones {P : Nat → Prop} : ∀ {ys : List Dv.D}, (∀ y ∈ ys, ∃ c, y = .str ⟨#[c]⟩ ∧ P c) → ∃ cs : List Nat, ys = cs.map (fun c => Dv.D.str ⟨#[c]⟩) ∧ ∀ c ∈ cs, P c
  | [], _ => ⟨[], rfl, by simp⟩
  | y :: r, h => by
    obtain ⟨c, rfl, hc⟩ := h y (List.mem_cons_self ..)
    obtain ⟨cs, rfl, hcs⟩ := strs_ones (ys := r) fun z hz => h z (List.mem_cons_of_mem _ hz)
    exact ⟨c :: cs, rfl, fun d hd => by rcases List.mem_cons.mp hd with rfl | hd; exact hc; exact hcs d hd⟩
theorem strsOf_ones : ∀ cs : List Nat, strsOf (cs.map fun c => Dv.D.str ⟨#[c]⟩) = some (cs.map fun c => (⟨#[c]⟩ : Str))
  | [] => rfl
  | c :: r => by
    show (strsOf (r.map fun c => Dv.D.str ⟨#[c]⟩)).map (_ :: ·) = _
    rw [strsOf_ones r]
    rfl
theorem flat_ones : ∀ cs : List Nat, (cs.map fun c => (⟨#[c]⟩ : Str)).flatMap (·.cps.toList) = cs
  | [] => rfl
  | c :: r => by
    rw [List.map_cons, List.flatMap_cons, flat_ones r]
    rfl
theorem join_ok {P : Nat → Prop} {ys : List Dv.D} (h : ∀ y ∈ ys, ∃ c, y = .str ⟨#[c]⟩ ∧ P c) (hl : ys.length ≤ 100000) :
    ∃ x : Str, mthD .join (.str (Str.ofString "")) [.lst ys] M = .ok (.str x) M ∧ x.length = ys.length ∧ ∀ c ∈ x.cps.toList, P c := by
  obtain ⟨cs, rfl, hcs⟩ := strs_ones h
  rw [List.length_map] at hl
  have e1 : (Txt.join (Str.ofString "") (cs.map fun c => (⟨#[c]⟩ : Str))).cps.toList = cs := by rw [join_list, flat_ones]
  refine ⟨Txt.join (Str.ofString "") (cs.map fun c => (⟨#[c]⟩ : Str)), ?_, ?_, fun c hc => hcs c (by rw [e1] at hc; exact hc)⟩
  · have e2 : (((cs.map fun c => (⟨#[c]⟩ : Str)).map (·.length)).sum + (cs.map fun c => (⟨#[c]⟩ : Str)).length * (Str.ofString "").length ≤ 16777216) := by
      have q1 : ((cs.map fun c => (⟨#[c]⟩ : Str)).map (·.length)).sum = cs.length := by
        rw [List.map_map]
        clear hl e1 h hcs
        induction cs with
        | nil => rfl
        | cons c r ih => rw [List.map_cons, List.sum_cons, ih, List.length_cons]; show 1 + r.length = _; omega
      have q2 : (Str.ofString "").length = 0 := by decide
      rw [q1, q2]
      omega
    simp only [mthD, lstD, strsOf_ones, joinS]
    rw [if_pos e2]
    rfl
  · have := congrArg List.length e1
    rw [List.length_map]
    exact this
/-! ### a name -/
def low (c : Nat) : Bool := decide (97 ≤ c) && decide (c ≤ 122)
abbrev abc : Str := Str.ofString "abcdefghijklmnopqrstuvwxyz"
theorem abc_list : abc.cps.toList = [97, 98, 99, 100, 101, 102, 103, 104, 105, 106, 107, 108, 109, 110, 111, 112, 113, 114, 115, 116, 117, 118, 119, 120, 121, 122] := by decide +kernel
theorem abc_len : abc.length = 26 := by decide +kernel
theorem abc_low {c : Nat} (h : c ∈ abc.cps.toList) : low c = true := by
  rw [abc_list] at h
  have : ∀ c ∈ [97, 98, 99, 100, 101, 102, 103, 104, 105, 106, 107, 108, 109, 110, 111, 112, 113, 114, 115, 116, 117, 118, 119, 120, 121, 122], low c = true := by decide
  exact this c h
end Dv
end L2
/-! the urn that the first laws draw from -/
namespace L2.Dv.P
open PySem PySem.Spec PyProof.Rows
/-- _law_urn(script, at): 0 script, 1 at, 2 cell, 3 great, 4 seed -/
def b17 : List Dv.S := [.set (.nm 2) (.ife (.cmp (.var 1) .Lt (.blt .len [.var 0])) (.sub (.var 0) (.var 1)) (.bop .Add (.bop .Mult (.cst (.int 83)) (.var 1)) (.cst (.int 37)))),
  .set (.nm 3) (.bop .Mod (.blt .int [.blt .abs [.var 2]]) (.bop .Pow (.bop .Pow (.cst (.int 10)) (.cst (.int 60))) (.cst (.int 9)))),
  .set (.nm 4) (.bop .Mod (.blt .int [.bop .Add (.bop .Add (.bop .Add (.bop .Mult (.var 3) (.cst (.int 104651))) (.bop .Mult (.cst (.int 15331)) (.var 1))) (.bop .Mult (.cst (.int 43)) (.blt .int [.cmp (.var 2) .Lt (.cst (.int 0))]))) (.cst (.int 19))]) (.cst (.int 2305843009213693921))),
  .ret (.lst false [.blt .max [.cst (.int 0), .bop .Sub (.var 3) (.bop .Pow (.cst (.int 10)) (.cst (.int 17)))], .var 4, .cst (.int 0)])]
def f17 : FnE := { name := (Str.ofString "_law_urn"), ps := [(Str.ofString "script"), (Str.ofString "at")], N := [(Str.ofString "script"), (Str.ofString "at"), (Str.ofString "cell"), (Str.ofString "great"), (Str.ofString "seed")], keep := true, body := b17 }
/-- _law_take(urn, total): 0 urn, 1 total, 2 found, 3 one, 4 two, 5 three -/
def b18 : List Dv.S := [.ite (.cmp (.sub (.var 0) (.cst (.int 0))) .Gt (.cst (.int 0))) [.set (.nm 2) (.bop .Mod (.blt .int [.sub (.var 0) (.cst (.int 0))]) (.var 1)), .sst (.var 0) (.cst (.int 0)) (.bop .FloorDiv (.sub (.var 0) (.cst (.int 0))) (.var 1)), .ret (.var 2)] [],
  .sst (.var 0) (.cst (.int 2)) (.bop .Add (.sub (.var 0) (.cst (.int 2))) (.cst (.int 1))),
  .set (.nm 3) (.bop .Mod (.blt .int [.bop .Add (.sub (.var 0) (.cst (.int 1))) (.bop .Mult (.cst (.int 1299709)) (.sub (.var 0) (.cst (.int 2))))]) (.cst (.int 2305843009213693951))),
  .set (.nm 4) (.bop .Mod (.blt .int [.bop .Add (.bop .Mult (.var 3) (.var 3)) (.bop .Mult (.cst (.int 7919)) (.sub (.var 0) (.cst (.int 2))))]) (.cst (.int 1000000000039))),
  .set (.nm 5) (.bop .Mod (.blt .int [.bop .Add (.bop .Mult (.var 4) (.var 4)) (.var 3)]) (.cst (.int 998244353))),
  .ret (.bop .Mod (.blt .int [.bop .FloorDiv (.var 5) (.cst (.int 61))]) (.var 1))]
def f18 : FnE := { name := (Str.ofString "_law_take"), ps := [(Str.ofString "urn"), (Str.ofString "total")], N := [(Str.ofString "urn"), (Str.ofString "total"), (Str.ofString "found"), (Str.ofString "one"), (Str.ofString "two"), (Str.ofString "three")], keep := true, body := b18 }
/-- _law_one(urn, items): 0 urn, 1 items -/
def b19 : List Dv.S := [.ret (.sub (.var 1) (.call 18 [.var 0, .blt .len [.var 1]]))]
def f19 : FnE := { name := (Str.ofString "_law_one"), ps := [(Str.ofString "urn"), (Str.ofString "items")], N := [(Str.ofString "urn"), (Str.ofString "items")], keep := true, body := b19 }
/-- _law_some(urn, items, many): 0 urn, 1 items, 2 many, 3 stock, 4 found, 5 turn -/
def b20_0 : List Dv.S := [.exp (.mth .append (.var 4) [.mth .pop (.var 3) [.call 18 [.var 0, .blt .len [.var 3]]]])]
def b20 : List Dv.S := [.par 3 4 (.blt .listM [.var 1]) (.lst false []),
  .fr (.nm 5) (.rng [.blt .min [.var 2, .blt .len [.var 1]]]) b20_0,
  .ret (.var 4)]
def f20 : FnE := { name := (Str.ofString "_law_some"), ps := [(Str.ofString "urn"), (Str.ofString "items"), (Str.ofString "many")], N := [(Str.ofString "urn"), (Str.ofString "items"), (Str.ofString "many"), (Str.ofString "stock"), (Str.ofString "found"), (Str.ofString "turn")], keep := false, body := b20 }
/-- _law_name(urn): 0 urn, 1 letters, 2 turn -/
def c21_0 : Dv.E := .sub (.var 1) (.call 18 [.var 0, .cst (.int 26)])
def d21_0 : List Dv.E := []
def b21 : List Dv.S := [.set (.nm 1) (.cst (.str (Str.ofString "abcdefghijklmnopqrstuvwxyz"))),
  .ret (.mth .join (.cst (.str (Str.ofString ""))) [.lc true c21_0 (.nm 2) (.rng [.bop .Add (.cst (.int 1)) (.call 18 [.var 0, .cst (.int 8)])]) d21_0 [2]])]
def f21 : FnE := { name := (Str.ofString "_law_name"), ps := [(Str.ofString "urn")], N := [(Str.ofString "urn"), (Str.ofString "letters"), (Str.ofString "turn")], keep := true, body := b21 }
/-- _law_names(urn, many): 0 urn, 1 many, 2 found, 3 turn, 4 name, 5 spare, 6 one -/
def c22_0 : Dv.E := .var 6
def d22_0 : List Dv.E := [.cmp (.var 6) .NotIn (.var 2)]
def b22_0 : List Dv.S := [.set (.nm 4) (.call 21 [.var 0]), .set (.nm 5) (.lc true c22_0 (.nm 6) (.lst true [.cst (.str (Str.ofString "qa")), .cst (.str (Str.ofString "qb")), .cst (.str (Str.ofString "qc")), .cst (.str (Str.ofString "qd")), .cst (.str (Str.ofString "qe")), .cst (.str (Str.ofString "qf")), .cst (.str (Str.ofString "qg"))]) d22_0 [6]), .exp (.mth .append (.var 2) [.ife (.cmp (.var 4) .NotIn (.var 2)) (.var 4) (.sub (.var 5) (.cst (.int 0)))])]
def b22 : List Dv.S := [.set (.nm 2) (.lst false []),
  .fr (.nm 3) (.rng [.var 1]) b22_0,
  .ret (.var 2)]
def f22 : FnE := { name := (Str.ofString "_law_names"), ps := [(Str.ofString "urn"), (Str.ofString "many")], N := [(Str.ofString "urn"), (Str.ofString "many"), (Str.ofString "found"), (Str.ofString "turn"), (Str.ofString "name"), (Str.ofString "spare"), (Str.ofString "one")], keep := false, body := b22 }

/-- a good urn -/
def Good (u : List Dv.D) : Prop := ∃ g s c : Int, u = [.int g, .int s, .int c] ∧ 0 ≤ g ∧ g < 10 ^ 600 ∧ 0 ≤ s ∧ s < 2 ^ 62 ∧ 0 ≤ c
/-- at place n stands an urn, all else stands as in M0 -/
def Urn (n : Nat) (M0 M : Mem) : Prop := ∃ u, M = M0.set n (some (.lst u)) ∧ n < M0.length ∧ Good u
section
variable {T : Tb} {k n : Nat} {M M0 M1 M2 X : Mem} {u : List Dv.D}
theorem Urn.at_ (h : Urn n M0 M) : ∃ u, M[n]? = some (some (.lst u)) ∧ Good u := by
  obtain ⟨u, rfl, hn, g⟩ := h
  exact ⟨u, List.getElem?_set_self hn, g⟩
theorem Urn.set {u : List Dv.D} (h : Urn n M0 M) (g : Good u) : Urn n M0 (M.set n (some (.lst u))) := by
  obtain ⟨v, rfl, hn, _⟩ := h
  exact ⟨u, by rw [List.set_set], hn, g⟩
theorem Urn.self (h : Urn n M0 M) : Urn n M M := by
  obtain ⟨u, rfl, hn, g⟩ := h
  exact ⟨u, by rw [List.set_set], by simpa using hn, g⟩
theorem Urn.trans (a : Urn n M0 M1) (b : Urn n M1 M2) : Urn n M0 M2 := by
  obtain ⟨u, rfl, hn, _⟩ := a
  obtain ⟨v, rfl, _, g⟩ := b
  exact ⟨v, by rw [List.set_set], hn, g⟩
theorem Urn.lt (h : Urn n M0 M) : n < M.length := by
  obtain ⟨u, rfl, hn, g⟩ := h
  simpa using hn
theorem Urn.len (h : Urn n M0 M) : M.length = M0.length := by
  obtain ⟨u, rfl, hn, g⟩ := h
  simp
theorem Urn.app (h : Urn n M0 M) (X : Mem) : Urn n (M0 ++ X) (M ++ X) := by
  obtain ⟨u, rfl, hn, g⟩ := h
  exact ⟨u, by rw [List.set_append, if_pos hn], by simp; omega, g⟩
theorem Urn.unapp (h : Urn n (M0 ++ X) M) (hn : n < M0.length) : ∃ M', M = M' ++ X ∧ Urn n M0 M' := by
  obtain ⟨u, rfl, _, g⟩ := h
  exact ⟨M0.set n (some (.lst u)), by rw [List.set_append, if_pos hn], u, rfl, hn, g⟩
theorem Urn.ok {m : Nat} (h : Urn n M0 M) : oldOk m M0 M = true := by
  obtain ⟨u, rfl, hn, g, s, c, rfl, _⟩ := h
  exact oldOk_set rfl _ _
/-- a call's end -/
theorem Urn.finL {xs : List Dv.D} {j : Nat} (h : Urn n M0 M) (h1 : X[j]? = some (some (.lst xs))) (h2 : D.bels M0.length xs = true) (hl : l = M0.length + j) : fin false M0 (.rt (.loc l) (M ++ X)) = .ok (.lst xs) M := by
  subst hl
  have e : (M ++ X)[M0.length + j]? = some (some (.lst xs)) := by rw [List.getElem?_append_right (by rw [h.len]; omega), h.len, Nat.add_sub_cancel_left]; exact h1
  show trim M0 _ _ = _
  unfold trim res
  have e2 : ¬ M0.length + j < M0.length := by omega
  have e3 : (M ++ X).take M0.length = M := by rw [← h.len, List.take_left]
  simp only [if_neg e2, e, h2, if_true, e3, h.ok]
theorem Urn.finD {d : Dv.D} (h : Urn n M0 M) (hd : d.bel M0.length = true) : fin false M0 (.rt d (M ++ X)) = .ok d M := by
  show trim M0 _ _ = _
  unfold trim
  have e3 : (M ++ X).take M0.length = M := by rw [← h.len, List.take_left]
  rw [res_bel hd]
  simp only [e3, h.ok, if_true]
theorem sub_loc {j : Int} {l : List Dv.D} (h : M[n]? = some (some (.lst l))) : subD M (.loc n) (.int j) = atI l j := by
  simp [subD, seqD, h]
theorem at1 {α : Type} {a b c : α} : atI [a, b, c] 1 = some b := rfl
theorem at2 {α : Type} {a b c : α} : atI [a, b, c] 2 = some c := rfl
@[simp] theorem at0 {α : Type} {a : α} {l : List α} : atI (a :: l) 0 = some a := by
  unfold atI ixN
  simp
theorem ix0 : ixN 3 0 = some 0 := rfl
theorem ix2 : ixN 3 2 = some 2 := rfl
theorem set_self {l : Option MO} (h : M[n]? = some l) (x : Option MO) : (M.set n x)[n]? = some x := List.getElem?_set_self (List.getElem?_eq_some_iff.mp h).1
theorem mul_l {M : Mem} {i j : Int} (h : -18446744073709551616 < i ∧ i < 18446744073709551616) : bopD M .Mult (.int i) (.int j) = some (.int (i * j)) := by
  simp only [bopD]
  rw [if_pos (.inl h)]
theorem mul_r {M : Mem} {i j : Int} (h : -18446744073709551616 < j ∧ j < 18446744073709551616) : bopD M .Mult (.int i) (.int j) = some (.int (i * j)) := by
  simp only [bopD]
  rw [if_pos (.inr (.inl h))]
theorem div_ok {M : Mem} {i j : Int} (h0 : 0 < j) (hj : j.natAbs < 2 ^ 240) : bopD M .FloorDiv (.int i) (.int j) = some (.int (i / j)) := by
  have h2 := log_lt (k := 240) (by decide) hj
  have h3 : 0 < j ∧ j.natAbs.log2 < 9000 := ⟨h0, by omega⟩
  simp only [bopD]
  rw [if_pos h3]
theorem mod_ok {M : Mem} {i j : Int} (h0 : 0 < j) : bopD M .Mod (.int i) (.int j) = some (.int (i % j)) := by
  simp only [bopD]
  rw [if_pos h0]
theorem pow_ok {i j r : Int} (h : 0 ≤ j ∧ (Builtin.Int.intBits i : Int) * j ≤ 2 ^ 27) (e : i ^ j.toNat = r) : bopD M .Pow (.int i) (.int j) = some (.int r) := by
  simp only [bopD]
  rw [if_pos h, e]
theorem take_ok [HF T 18 f18] {total : Int} (hu : Urn n M0 M) (h1 : 0 < total) (h2 : total < 10 ^ 60) :
    ∃ (v : Nat) (M' : Mem), Phi T (k + 1) 18 [.loc n, .int total] M = .ok (.int v) M' ∧ Urn n M0 M' ∧ (v : Int) < total := by
  have key : ∃ v : Int, ∃ M' : Mem, Phi T (k + 1) 18 [.loc n, .int total] M = .ok (.int v) M' ∧ Urn n M0 M' ∧ 0 ≤ v ∧ v < total := by
    obtain ⟨u, hM, g, s, c, rfl, hg, hg2, hs, hs2, hc⟩ := hu.at_
    rw [phi_fn (e := f18) rfl]
    have ht : total.natAbs < 2 ^ 240 := Nat.lt_of_lt_of_le (by omega : total.natAbs < 10 ^ 60) (by decide)
    show ∃ v : Int, ∃ M' : Mem, fin true M (xs (Phi T k) T b18 [some (.loc n), some (.int total), none, none, none, none] M) = .ok (.int v) M' ∧ _
    by_cases hz : 0 < g
    · refine ⟨g % total, M.set n (some (.lst [.int (g / total), .int s, .int c])), ?_, hu.set ⟨_, _, _, rfl, Int.ediv_nonneg hg (Int.le_of_lt h1), Int.lt_of_le_of_lt (Int.ediv_le_self _ hg) hg2, hs, hs2, hc⟩, Int.emod_nonneg _ (by omega), Int.emod_lt_of_pos _ h1⟩
      simp [b18, sub_loc hM, hz, mod_ok h1, div_ok h1 ht, hM, ix0]
    · have hg0 : g = 0 := by omega
      have e1 := set_self hM (some (.lst [.int g, .int s, .int (c + 1)]))
      obtain ⟨one, ho⟩ : ∃ one, one = (s + 1299709 * (c + 1)) % 2305843009213693951 := ⟨_, rfl⟩
      obtain ⟨two, hw⟩ : ∃ two, two = (one * one + 7919 * (c + 1)) % 1000000000039 := ⟨_, rfl⟩
      have b1 : 0 ≤ one ∧ one < 2305843009213693951 := by rw [ho]; exact ⟨Int.emod_nonneg _ (by decide), Int.emod_lt_of_pos _ (by decide)⟩
      have b2 : 0 ≤ two ∧ two < 1000000000039 := by rw [hw]; exact ⟨Int.emod_nonneg _ (by decide), Int.emod_lt_of_pos _ (by decide)⟩
      refine ⟨((two * two + one) % 998244353) / 61 % total, M.set n (some (.lst [.int g, .int s, .int (c + 1)])), ?_, hu.set ⟨_, _, _, rfl, hg, hg2, hs, hs2, by omega⟩, Int.emod_nonneg _ (by omega), Int.emod_lt_of_pos _ h1⟩
      have m1 : ∀ (N : Mem) (j : Int), bopD N .Mult (.int 1299709) (.int j) = some (.int (1299709 * j)) := fun N j => mul_l (by decide)
      have m2 : ∀ (N : Mem) (j : Int), bopD N .Mult (.int one) (.int j) = some (.int (one * j)) := fun N j => mul_l (by omega)
      have m3 : ∀ (N : Mem) (j : Int), bopD N .Mult (.int 7919) (.int j) = some (.int (7919 * j)) := fun N j => mul_l (by decide)
      have m4 : ∀ (N : Mem) (j : Int), bopD N .Mult (.int two) (.int j) = some (.int (two * j)) := fun N j => mul_l (by omega)
      have p1 : ∀ (N : Mem) (j : Int), bopD N .Mod (.int j) (.int 2305843009213693951) = some (.int (j % 2305843009213693951)) := fun N j => mod_ok (by decide)
      have p2 : ∀ (N : Mem) (j : Int), bopD N .Mod (.int j) (.int 1000000000039) = some (.int (j % 1000000000039)) := fun N j => mod_ok (by decide)
      have p3 : ∀ (N : Mem) (j : Int), bopD N .Mod (.int j) (.int 998244353) = some (.int (j % 998244353)) := fun N j => mod_ok (by decide)
      have p4 : ∀ (N : Mem) (j : Int), bopD N .FloorDiv (.int j) (.int 61) = some (.int (j / 61)) := fun N j => div_ok (by decide) (by decide)
      simp [b18, sub_loc hM, hz, hM, ix2, at1, at2, sub_loc e1, m1, p1, ← ho, m2, m3, p2, ← hw, m4, p3, p4, mod_ok h1]
  obtain ⟨v, M', e, hu', a, b⟩ := key
  obtain ⟨w, rfl⟩ := Int.eq_ofNat_of_zero_le a
  exact ⟨w, M', e, hu', b⟩
theorem urn_ok [HF T 17 f17] {ns : List Int} {at_ : Int} (h0 : 0 ≤ at_) (h1 : at_ < 1000) : ∃ u, Phi T (k + 1) 17 [.ro (ns.map D.int), .int at_] M = .ok (.loc M.length) (M ++ [some (.lst u)]) ∧ Good u := by
  rw [phi_fn (e := f17) rfl]
  show ∃ u, fin true M (xs (Phi T k) T b17 [some (.ro (ns.map D.int)), some (.int at_), none, none, none] M) = _ ∧ Good u
  have p1 : bopD M .Pow (.int 10) (.int 60) = some (.int (10 ^ 60)) := pow_ok (by decide +kernel) rfl
  have p2 : bopD M .Pow (.int (10 ^ 60)) (.int 9) = some (.int (10 ^ 540)) := pow_ok (by decide +kernel) (by decide +kernel)
  have p3 : bopD M .Pow (.int 10) (.int 17) = some (.int (10 ^ 17)) := pow_ok (by decide +kernel) rfl
  have cellE : ∃ cell : Int, ev (Phi T k) T (.ife (.cmp (.var 1) .Lt (.blt .len [.var 0])) (.sub (.var 0) (.var 1)) (.bop .Add (.bop .Mult (.cst (.int 83)) (.var 1)) (.cst (.int 37)))) [some (.ro (ns.map D.int)), some (.int at_), none, none, none] M = .ok (.int cell) M := by
    by_cases hl : at_ < (ns.map D.int).length
    · obtain ⟨x, e, hx⟩ := at_get h0 hl
      obtain ⟨i, _, rfl⟩ := List.mem_map.mp hx
      have hl' : at_ < (ns.length : Int) := by simpa using hl
      exact ⟨i, by simp [hl', e]⟩
    · have hl' : ¬ at_ < (ns.length : Int) := by simpa using hl
      have m : bopD M .Mult (.int 83) (.int at_) = some (.int (83 * at_)) := mul_l (by decide)
      exact ⟨83 * at_ + 37, by simp [hl', m]⟩
  obtain ⟨cell, e⟩ := cellE
  obtain ⟨a, ha⟩ : ∃ a : Int, a = if cell < 0 then -cell else cell := ⟨_, rfl⟩
  have pos : (0 : Int) < 10 ^ 540 := by decide +kernel
  obtain ⟨g, hg⟩ : ∃ g : Int, g = a % 10 ^ 540 := ⟨_, rfl⟩
  have g0 : 0 ≤ g := by rw [hg]; exact Int.emod_nonneg _ (Int.ne_of_gt pos)
  have g1 : g < 10 ^ 540 := by rw [hg]; exact Int.emod_lt_of_pos _ pos
  have m1 : bopD M .Mult (.int g) (.int 104651) = some (.int (g * 104651)) := mul_r (by decide)
  have m2 : bopD M .Mult (.int 15331) (.int at_) = some (.int (15331 * at_)) := mul_l (by decide)
  have m3 : ∀ b : Bool, bopD M .Mult (.int 43) (.int (if b then 1 else 0)) = some (.int (43 * (if b then 1 else 0))) := fun b => mul_l (by decide)
  obtain ⟨s, hs⟩ : ∃ s : Int, s = (g * 104651 + 15331 * at_ + 43 * (if decide (cell < 0) = true then 1 else 0) + 19) % 2305843009213693921 := ⟨_, rfl⟩
  have s0 : 0 ≤ s ∧ s < 2305843009213693921 := by rw [hs]; exact ⟨Int.emod_nonneg _ (by decide), Int.emod_lt_of_pos _ (by decide)⟩
  refine ⟨[.int (if g - 10 ^ 17 > 0 then g - 10 ^ 17 else 0), .int s, .int 0], ?_, ⟨_, _, _, rfl, ?_, ?_, s0.1, by omega, by decide⟩⟩
  · have mm1 : bopD M .Mod (.int a) (.int (10 ^ 540)) = some (.int g) := by rw [mod_ok pos, hg]
    have mm2 : bopD M .Mod (.int (g * 104651 + 15331 * at_ + 43 * (if decide (cell < 0) = true then 1 else 0) + 19)) (.int 2305843009213693921) = some (.int s) := by rw [mod_ok (by decide), hs]
    unfold b17
    rw [xs_cons, xc_set, e]
    simp only [R.st_ok, put_nm, List.set_cons_succ, List.set_cons_zero, xs_cons, xc_set, xc_ret, ev_lst, ev_bop, ev_blt, evs_cons, evs_nil, ev_var, ev_cst, ev_cmp, lt_ok, Option.map_some, cst_int, R.of_some, R.bnd_ok, List.getElem?_cons_succ, List.getElem?_cons_zero, abs_int, int_int, int_bl, p1, p2, ← ha, mm1, m1, m2, m3, add_ok, mm2, p3, sub_ok, max_int]
    rw [mkL_false (by simp)]
    rfl
  · split <;> omega
  · have q : (10 : Int) ^ 540 < 10 ^ 600 := by decide +kernel
    split <;> omega
theorem urn_new {M : Mem} {u : List Dv.D} (h : Good u) : Urn M.length (M ++ [some (.lst u)]) (M ++ [some (.lst u)]) := ⟨u, by simp, by simp, h⟩
theorem one_ok [HF T 18 f18] [HF T 19 f19] {ds : List Dv.D} (hu : Urn n M0 M) (h0 : ds ≠ []) (hl : ds.length < 1000000000) :
    ∃ v M', Phi T (k + 2) 19 [.loc n, .lst ds] M = .ok v M' ∧ Urn n M0 M' ∧ v ∈ ds := by
  have hp : 0 < ds.length := List.length_pos_iff.mpr h0
  obtain ⟨v, M', e, hu', b⟩ := take_ok (T := T) (k := k) hu (total := (ds.length : Int)) (by omega) (by omega)
  have hv : v < ds.length := by omega
  refine ⟨ds[v], M', ?_, hu', List.getElem_mem hv⟩
  rw [phi_fn (e := f19) rfl]
  show fin true M (xs (Phi T (k + 1)) T b19 [some (.loc n), some (.lst ds)] M) = _
  simp [b19, e, List.getElem?_eq_getElem hv]
theorem one_tup [HF T 18 f18] [HF T 19 f19] {ds : List Dv.D} (hu : Urn n M0 M) (h0 : ds ≠ []) (hl : ds.length < 1000000000) :
    ∃ v M', Phi T (k + 2) 19 [.loc n, .tup ds] M = .ok v M' ∧ Urn n M0 M' ∧ v ∈ ds := by
  have hp : 0 < ds.length := List.length_pos_iff.mpr h0
  obtain ⟨v, M', e, hu', b⟩ := take_ok (T := T) (k := k) hu (total := (ds.length : Int)) (by omega) (by omega)
  have hv : v < ds.length := by omega
  refine ⟨ds[v], M', ?_, hu', List.getElem_mem hv⟩
  rw [phi_fn (e := f19) rfl]
  show fin true M (xs (Phi T (k + 1)) T b19 [some (.loc n), some (.tup ds)] M) = _
  simp [b19, e, List.getElem?_eq_getElem hv]
/-! ### names -/
def low (c : Nat) : Bool := decide (97 ≤ c) && decide (c ≤ 122)
abbrev abc : Str := Str.ofString "abcdefghijklmnopqrstuvwxyz"
theorem abc_list : abc.cps.toList = [97, 98, 99, 100, 101, 102, 103, 104, 105, 106, 107, 108, 109, 110, 111, 112, 113, 114, 115, 116, 117, 118, 119, 120, 121, 122] := by decide +kernel
theorem abc_len : abc.length = 26 := by decide +kernel
theorem abc_low {c : Nat} (h : c ∈ abc.cps.toList) : low c = true := by
  rw [abc_list] at h
  have : ∀ c ∈ [97, 98, 99, 100, 101, 102, 103, 104, 105, 106, 107, 108, 109, 110, 111, 112, 113, 114, 115, 116, 117, 118, 119, 120, 121, 122], low c = true := by decide
  exact this c h
/-- a name by its form -/
def isNm (x : Str) : Bool := decide (1 ≤ x.length) && decide (x.length ≤ 8) && x.cps.toList.all low
theorem isNm_ok {x : Str} (h : isNm x = true) : PyData.strOk x = true ∧ x.length ≤ 8 := by
  unfold isNm at h
  simp only [Bool.and_eq_true, decide_eq_true_eq, List.all_eq_true] at h
  refine ⟨?_, h.1.2⟩
  unfold PyData.strOk
  rw [Array.all_eq_true']
  intro c hc
  have := h.2 c (by simpa using hc)
  unfold low at this
  simp at this
  simp
  omega
theorem name_ok [HF T 18 f18] [HF T 21 f21] (hu : Urn n M0 M) :
    ∃ x M', Phi T (k + 2) 21 [.loc n] M = .ok (.str x) M' ∧ Urn n M0 M' ∧ isNm x = true := by
  obtain ⟨v, M1, e1, hu1, b⟩ := take_ok (T := T) (k := k) hu (total := 8) (by decide) (by decide)
  have hr : ∀ M, rng1 (.int (1 + (v : Int))) M = .ok ((List.range (1 + v)).map fun (i : Nat) => Dv.D.int (i : Int)) M := fun M => rng1_int (by omega) (by omega)
  have hlen : ((List.range (1 + v)).map fun (i : Nat) => Dv.D.int (i : Int)).length = 1 + v := by simp
  obtain ⟨ys, M2, e2, hy, hp, hu2⟩ := foldC_draw (N := 8) (f := lcF (Phi T (k + 1)) T c21_0 (.nm 2) d21_0 [2] [some (.loc n), some (.str abc), none]) (I := fun i M => Urn n M0 M) (P := fun y => ∃ c, y = .str ⟨#[c]⟩ ∧ low c = true)
    (xs := (List.range (1 + v)).map fun (i : Nat) => Dv.D.int (i : Int)) (acc := []) (i := 0) (M := M1) (fun x i M _ hi hI => by
      obtain ⟨w, M', e, hu', d⟩ := take_ok (T := T) (k := k) hI (total := 26) (by decide) (by decide)
      have hw : w < abc.cps.toList.length := by have := abc_len; simp only [Str.length] at this; simp [this]; omega
      have hs : abc.length ≤ sizeLine := by rw [abc_len]; decide
      obtain ⟨ch, e3, hch⟩ := get_lt hw
      refine ⟨.str ⟨#[ch]⟩, M', ?_, ⟨_, rfl, abc_low hch⟩, hu'⟩
      simp only [lcF, c21_0, d21_0, put_nm, wipe_cons, wipe_nil, evF_nil, R.bnd_ok, if_true, ev_sub, ev_var, ev_call, evs_cons, evs_nil, ev_cst, cst_int, R.of_some, List.set_cons_succ, List.set_cons_zero, List.getElem?_cons_succ, List.getElem?_cons_zero, e, subD, hs, if_true, at_natN, e3, Option.map_some]) (by rw [List.length_nil, hlen]; exact sl (by omega)) (by rw [hlen]; omega) hu1
  rw [hlen] at hy
  obtain ⟨x, e4, hx, hlow⟩ := join_ok (M := M2) hp (by omega)
  refine ⟨x, M2, ?_, hu2, ?_⟩
  · have e2' := e2
    simp only [List.nil_append] at e2'
    rw [phi_fn (e := f21) rfl]
    show fin true M (xs (Phi T (k + 1)) T b21 [some (.loc n), none, none] M) = _
    simp only [b21, xs_cons, xs_nil, xc_set, xc_ret, ev_cst, cst_str, R.of_some, R.st_ok, put_nm, List.set_cons_succ, List.set_cons_zero, ev_mth, R.bnd_ok, rcvB, if_true, evs_cons, evs_nil, ev_lc, wlk_rng1, ev_bop, ev_call, ev_var, List.getElem?_cons_succ, List.getElem?_cons_zero, cst_int, e1, add_ok, hr, e2', mkL_true (by omega : ys.length ≤ 1000000), e4, fin_rt]
  · unfold isNm
    simp only [Bool.and_eq_true, decide_eq_true_eq, List.all_eq_true]
    exact ⟨⟨by omega, by omega⟩, hlow⟩
theorem nodup_le {α : Type} [BEq α] [LawfulBEq α] : ∀ {g l : List α}, g.Nodup → (∀ y ∈ g, y ∈ l) → g.length ≤ l.length
  | [], _, _, _ => Nat.zero_le _
  | a :: r, l, hd, h => by
    have ha : a ∈ l := h a (List.mem_cons_self ..)
    have hd' := List.nodup_cons.mp hd
    have := nodup_le (g := r) (l := l.erase a) hd'.2 fun y hy => by
      have hne : y ≠ a := fun z => hd'.1 (z ▸ hy)
      exact (List.mem_erase_of_ne hne).mpr (h y (List.mem_cons_of_mem _ hy))
    rw [List.length_erase_of_mem ha] at this
    have hp := List.length_pos_of_mem ha
    simp only [List.length_cons]
    omega
theorem filt_strs {l : List Str} : ∀ g : List Str, (g.map D.str).filterMap (fun d => match d with | .str y => if y ∈ l then none else some (D.str y) | _ => none) = (g.filter (fun y => !decide (y ∈ l))).map D.str
  | [] => rfl
  | y :: q => by
    by_cases h : y ∈ l
    · simp [h, ← filt_strs q]
    · simp [h, ← filt_strs q]
/-- drawn names, all different -/
theorem names_ok [HF T 18 f18] [HF T 21 f21] [HF T 22 f22] (hu : Urn n M0 M) {many : Nat} (hm : many ≤ 7) {mi : Int} (hmi : mi = many) :
    ∃ (l : List Str) (M' : Mem), Phi T (k + 3) 22 [.loc n, .int mi] M = .ok (.lst (l.map D.str)) M' ∧ Urn n M0 M' ∧ l.length = many ∧ l.Nodup ∧ ∀ x ∈ l, isNm x = true := by
  subst hmi
  have hn := hu.lt
  have hlen : ((List.range many).map fun (i : Nat) => Dv.D.int (i : Int)).length = many := by simp
  obtain ⟨g, eg⟩ : ∃ g : List Str, g = [Str.ofString "qa", Str.ofString "qb", Str.ofString "qc", Str.ofString "qd", Str.ofString "qe", Str.ofString "qf", Str.ofString "qg"] := ⟨_, rfl⟩
  have hg : g.length = 7 ∧ g.Nodup ∧ ∀ x ∈ g, isNm x = true := by subst eg; decide +kernel
  obtain ⟨ρ', M', e, a, b, c, d, l, N', e1, e2, hN, hl, hnd, hnm⟩ := loopF_inv (N := many) (g := frF (Phi T (k + 2)) T (.nm 3) b22_0)
    (I := fun i ρ N => ∃ (a b c d : Option Dv.D) (l : List Str) (N' : Mem), ρ = [some (.loc n), some (.int many), some (.loc M.length), a, b, c, d] ∧ N = N' ++ [some (.lst (l.map D.str))] ∧ Urn n M N' ∧ l.length = i ∧ l.Nodup ∧ ∀ x ∈ l, isNm x = true)
    (xs := (List.range many).map fun (i : Nat) => Dv.D.int (i : Int)) (i := 0) (ρ := [some (.loc n), some (.int many), some (.loc M.length), none, none, none, none]) (M := M ++ [some (.lst [])])
    (fun x i ρ N hx hi ⟨a, b, c, d, l, N', e1, e2, hN, hl, hnd, hnm⟩ => by
      subst e1 e2
      obtain ⟨nm, N1, e3, hu1, hnm1⟩ := name_ok (T := T) (k := k) (hN.self.app [some (.lst (l.map D.str))])
      obtain ⟨N2, rfl, hu2⟩ := hu1.unapp hN.lt
      have hL : M.length = N2.length := by rw [hu2.len, hN.len]
      obtain ⟨z, r, ez⟩ : ∃ z r, g.filter (fun y => !decide (y ∈ l)) = z :: r := by
        cases e : g.filter (fun y => !decide (y ∈ l)) with
        | cons z r => exact ⟨z, r, rfl⟩
        | nil =>
          exfalso
          have := nodup_le hg.2.1 (l := l) fun y hy => by
            have := List.filter_eq_nil_iff.mp e y hy
            simpa using this
          omega
      have hz : z ∈ g ∧ z ∉ l := by
        have : z ∈ g.filter (fun y => !decide (y ∈ l)) := by rw [ez]; exact List.mem_cons_self ..
        simpa using this
      have hni : ∀ w, cmpD (N2 ++ [some (.lst (l.map D.str))]) .NotIn (.str w) (.loc M.length) = some (!decide (w ∈ l)) := fun w => notin_strs (seq_loc (by rw [hL]; exact mem_0))
      have loop : foldC (lcF (Phi T (k + 2)) T c22_0 (.nm 6) d22_0 [6] [some (.loc n), some (.int many), some (.loc M.length), some x, some (.str nm), c, d]) (g.map D.str) [] (N2 ++ [some (.lst (l.map D.str))]) = .ok (.str z :: r.map D.str) (N2 ++ [some (.lst (l.map D.str))]) := by
        rw [foldC_pure (g := fun d => match d with | .str y => if y ∈ l then none else some (.str y) | _ => none) (fun y hy => ?_) (by simp; exact sl (by omega))]
        · rw [List.nil_append, filt_strs, ez, List.map_cons]
        · obtain ⟨w, _, rfl⟩ := List.mem_map.mp hy
          by_cases hw : w ∈ l <;> simp [lcF, c22_0, d22_0, hni, hw]
      rw [eg] at loop
      simp only [List.map_cons, List.map_nil] at loop
      have hr : r.length ≤ 7 := by
        have := congrArg List.length ez
        have := List.length_filter_le (fun y => !decide (y ∈ l)) g
        simp only [List.length_cons] at *
        omega
      have hap : ∀ w, mthD .append (.loc M.length) [.str w] (N2 ++ [some (.lst (l.map D.str))]) = .ok .non (N2 ++ [some (.lst ((l ++ [w]).map D.str))]) := fun w => by
        rw [app_loc (l := l.map D.str) (by rw [hL]; exact mem_0) (by simp; omega), hL, set_0]
        simp
      have hrc : rcvB .append (N2 ++ [some (.lst (l.map D.str))]) (.loc M.length) = true := rcv_app (l := l.map D.str) (by rw [hL]; exact mem_0)
      by_cases hw : nm ∈ l
      · refine ⟨[some (.loc n), some (.int many), some (.loc M.length), some x, some (.str nm), some (.lst (.str z :: r.map D.str)), d], N2 ++ [some (.lst ((l ++ [z]).map D.str))], .inl ?_, _, _, _, _, l ++ [z], N2, rfl, rfl, hN.trans hu2, by simp [hl], ?_, ?_⟩
        · simp only [fr_nm, put_nm, List.set_cons_succ, List.set_cons_zero, b22_0, xs_cons, xs_nil, xc_set, ev_call, evs_cons, evs_nil, ev_var, List.getElem?_cons_succ, List.getElem?_cons_zero, R.bnd_ok, e3, R.st_ok, ev_lc, wlk_lst, ev_lst, ev_cst, cst_str, R.of_some]
          rw [mkL_true (by simp)]
          simp only [R.bnd_ok, it_lst, R.of_some, loop]
          rw [mkL_true (by simp; omega)]
          simp only [R.bnd_ok, R.st_ok, put_nm, List.set_cons_succ, List.set_cons_zero, xc_exp, ev_mth, ev_var, List.getElem?_cons_succ, List.getElem?_cons_zero, hrc, if_true, evs_cons, evs_nil, ev_ife, tst_cmp, hni, hw, decide_true, Bool.not_true, R.of_some, Bool.false_eq_true, if_false, ev_sub, ev_cst, cst_int, sub_lst, at0, hap]
        · rw [List.nodup_append]
          exact ⟨hnd, by simp, fun x hx y hy e => by rw [List.mem_singleton.mp hy] at e; exact hz.2 (e ▸ hx)⟩
        · intro y hy
          rcases List.mem_append.mp hy with hy | hy
          · exact hnm y hy
          · rw [List.mem_singleton.mp hy]
            exact hg.2.2 z hz.1
      · refine ⟨[some (.loc n), some (.int many), some (.loc M.length), some x, some (.str nm), some (.lst (.str z :: r.map D.str)), d], N2 ++ [some (.lst ((l ++ [nm]).map D.str))], .inl ?_, _, _, _, _, l ++ [nm], N2, rfl, rfl, hN.trans hu2, by simp [hl], ?_, ?_⟩
        · simp only [fr_nm, put_nm, List.set_cons_succ, List.set_cons_zero, b22_0, xs_cons, xs_nil, xc_set, ev_call, evs_cons, evs_nil, ev_var, List.getElem?_cons_succ, List.getElem?_cons_zero, R.bnd_ok, e3, R.st_ok, ev_lc, wlk_lst, ev_lst, ev_cst, cst_str, R.of_some]
          rw [mkL_true (by simp)]
          simp only [R.bnd_ok, it_lst, R.of_some, loop]
          rw [mkL_true (by simp; omega)]
          simp only [R.bnd_ok, R.st_ok, put_nm, List.set_cons_succ, List.set_cons_zero, xc_exp, ev_mth, ev_var, List.getElem?_cons_succ, List.getElem?_cons_zero, hrc, if_true, evs_cons, evs_nil, ev_ife, tst_cmp, hni, hw, decide_false, Bool.not_false, R.of_some, hap]
        · rw [List.nodup_append]
          exact ⟨hnd, by simp, fun x hx y hy e => by rw [List.mem_singleton.mp hy] at e; exact hw (e ▸ hx)⟩
        · intro y hy
          rcases List.mem_append.mp hy with hy | hy
          · exact hnm y hy
          · rw [List.mem_singleton.mp hy]
            exact hnm1) (by omega) ⟨none, none, none, none, [], M, rfl, rfl, hu.self, rfl, List.nodup_nil, fun _ h => nomatch h⟩
  subst e1 e2
  refine ⟨l, N', ?_, hu.trans hN, by omega, hnd, hnm⟩
  rw [phi_fn (e := f22) rfl]
  show fin false M (xs (Phi T (k + 2)) T b22 [some (.loc n), some (.int many), none, none, none, none, none] M) = _
  simp only [b22, xs_cons, xs_nil, xc_set, ev_lst, evs_nil, R.bnd_ok, mkL_nilF, R.st_ok, put_nm, List.set_cons_succ, List.set_cons_zero, xc_fr, wlk_rng1, ev_var, List.getElem?_cons_succ, List.getElem?_cons_zero, rng1_ok (by omega : many ≤ 1000000000)]
  simp only [e]
  simp only [xc_ret, ev_var, List.getElem?_cons_succ, List.getElem?_cons_zero, R.st_ok]
  exact hN.finL (j := 0) rfl (pls_bel (pls_of fun x hx => by
    obtain ⟨w, hw, rfl⟩ := List.mem_map.mp hx
    exact (isNm_ok (hnm w hw)).1)) rfl
end
end L2.Dv.P
/-! words: integers, names, lines, logs by their forms -/
namespace L2.Dv.P
open PySem PySem.Spec PyProof.Rows
/-- is_integer(value): 0 value -/
def b10 : List Dv.S := [.ret (.boo true [.isi (.var 0) (.bt "int"), .not (.isi (.var 0) (.bt "bool")), .chn (.neg (.glo 0)) .Lt (.var 0) .Lt (.glo 0)])]
def f10 : FnE := { name := (Str.ofString "is_integer"), ps := [(Str.ofString "value")], N := [(Str.ofString "value")], keep := true, body := b10 }
/-- is_below(value, size): 0 value, 1 size -/
def b11 : List Dv.S := [.ret (.boo true [.call 10 [.var 0], .chn (.cst (.int 0)) .LtE (.var 0) .Lt (.var 1)])]
def f11 : FnE := { name := (Str.ofString "is_below"), ps := [(Str.ofString "value"), (Str.ofString "size")], N := [(Str.ofString "value"), (Str.ofString "size")], keep := true, body := b11 }
/-- is_name(value): 0 value, 1 letter -/
def c12_0 : Dv.E := .cmp (.var 1) .In (.glo 2)
def d12_0 : List Dv.E := []
def b12 : List Dv.S := [.ite (.boo false [.not (.isi (.var 0) (.bt "str")), .not (.chn (.cst (.int 0)) .Lt (.blt .len [.var 0]) .LtE (.glo 1))]) [.ret (.cst (.bool false))] [],
  .ret (.blt .all [.lc true c12_0 (.nm 1) (.var 0) d12_0 [1]])]
def f12 : FnE := { name := (Str.ofString "is_name"), ps := [(Str.ofString "value")], N := [(Str.ofString "value"), (Str.ofString "letter")], keep := true, body := b12 }
/-- is_line(value): 0 value, 1 name, 2 word, 3 number -/
def b13 : List Dv.S := [.ite (.not (.isi (.var 0) (.bt "tuple"))) [.ret (.cst (.bool false))] [],
  .mat (.var 0) [.seq [.alt [.val (.str (Str.ofString "enter")), .val (.str (Str.ofString "leave")), .val (.str (Str.ofString "say"))], .cap 1], .seq [.alt [.val (.str (Str.ofString "ask")), .val (.str (Str.ofString "say"))], .cap 2, .cap 3]] [[.ret (.call 12 [.var 1])], [.ret (.boo true [.call 12 [.var 2], .call 11 [.var 3, .glo 3]])]],
  .ret (.cst (.bool false))]
def f13 : FnE := { name := (Str.ofString "is_line"), ps := [(Str.ofString "value")], N := [(Str.ofString "value"), (Str.ofString "name"), (Str.ofString "word"), (Str.ofString "number")], keep := true, body := b13 }
/-- calls_in(value): 0 value, 1 found, 2 at, 3 line -/
def b14_0 : List Dv.S := [.ite (.boo false [.not (.call 13 [.var 3]), .boo true [.cmp (.blt .len [.var 1]) .Eq (.cst (.int 0)), .boo false [.cmp (.var 2) .Gt (.cst (.int 0)), .cmp (.sub (.var 3) (.cst (.int 0))) .NotEq (.cst (.str (Str.ofString "enter")))]]]) [.ret (.cst .none)] [], .ite (.cmp (.sub (.var 3) (.cst (.int 0))) .Eq (.cst (.str (Str.ofString "enter")))) [.exp (.mth .append (.var 1) [.sub (.var 3) (.cst (.int 1))])] [.ite (.boo true [.cmp (.sub (.var 3) (.cst (.int 0))) .Eq (.cst (.str (Str.ofString "leave"))), .cmp (.mth .pop (.var 1) []) .NotEq (.sub (.var 3) (.cst (.int 1)))]) [.ret (.cst .none)] []]]
def b14 : List Dv.S := [.ite (.boo false [.not (.isi (.var 0) (.bt "tuple")), .cmp (.blt .len [.var 0]) .Eq (.cst (.int 0))]) [.ret (.cst .none)] [],
  .set (.nm 1) (.lst false []),
  .fr (.tp [.nm 2, .nm 3]) (.enm (.var 0)) b14_0,
  .ret (.var 1)]
def f14 : FnE := { name := (Str.ofString "calls_in"), ps := [(Str.ofString "value")], N := [(Str.ofString "value"), (Str.ofString "found"), (Str.ofString "at"), (Str.ofString "line")], keep := false, body := b14 }
/-- is_log(value): 0 value -/
def b15 : List Dv.S := [.ret (.cmp (.call 14 [.var 0]) .IsNot (.cst .none))]
def f15 : FnE := { name := (Str.ofString "is_log"), ps := [(Str.ofString "value")], N := [(Str.ofString "value")], keep := true, body := b15 }
/-- open_calls(log): 0 log, 1 found -/
def b16 : List Dv.S := [.set (.nm 1) (.call 14 [.var 0]),
  .ite (.cmp (.var 1) .Is (.cst .none)) [.rai 0 (Str.ofString "a log is expected")] [],
  .ret (.blt .tuple [.var 1])]
def f16 : FnE := { name := (Str.ofString "open_calls"), ps := [(Str.ofString "log")], N := [(Str.ofString "log"), (Str.ofString "found")], keep := true, body := b16 }

abbrev vTOP : Dv.D := .int 10000000000000000000000000000000000000000
/-- what isinstance can be asked of -/
def kn : Dv.D → Bool
  | .obj _ _ _ => false | .loc _ => false | _ => true
theorem pl_kn {d : Dv.D} (h : d.pl = true) : kn d = true := by cases d <;> first | rfl | (simp [D.pl] at h)
def isI : Dv.D → Bool
  | .int i => decide (-10000000000000000000000000000000000000000 < i) && decide (i < 10000000000000000000000000000000000000000)
  | _ => false
/-- a number from 0 on, less than n -/
def belowD (d : Dv.D) (n : Int) : Bool := match d with
  | .int i => decide (0 ≤ i) && decide (i < n)
  | _ => false
def nmD : Dv.D → Bool
  | .str x => isNm x
  | _ => false
section
variable {T : Tb} {k n : Nat} {M M0 M1 M2 X : Mem} {d : Dv.D}
theorem is_integer_ok [HF T 10 f10] [HG T 0 vTOP] (h : kn d = true) : Phi T (k + 1) 10 [d] M = .ok (.bl (isI d)) M := by
  rw [phi_fn (e := f10) rfl]
  show fin true M (xs (Phi T k) T b10 [some d] M) = _
  cases d with
  | int i =>
    by_cases h1 : (-10000000000000000000000000000000000000000 : Int) < i <;> simp [b10, ev_gl, isI, h1]
  | obj _ _ _ => cases h
  | loc _ => cases h
  | _ => simp [b10, ev_gl, isI]
theorem is_below_ok [HF T 10 f10] [HF T 11 f11] [HG T 0 vTOP] {m : Int} (h : kn d = true) (hm : m ≤ 10 ^ 40) : Phi T (k + 2) 11 [d, .int m] M = .ok (.bl (belowD d m)) M := by
  rw [phi_fn (e := f11) rfl]
  show fin true M (xs (Phi T (k + 1)) T b11 [some d, some (.int m)] M) = _
  have e := is_integer_ok (T := T) (k := k) (M := M) h
  cases d with
  | int i =>
    by_cases h1 : isI (.int i) = true
    · by_cases h2 : 0 ≤ i <;> simp [b11, e, h1, belowD, h2]
    · have h2 : (decide (0 ≤ i) && decide (i < m)) = false := by
        simp [isI] at h1 ⊢
        omega
      simp [b11, e, h1, belowD, h2]
  | obj _ _ _ => cases h
  | loc _ => cases h
  | _ => simp [b11, e, isI, belowD]
theorem in_abc (c : Nat) : inS ⟨#[c]⟩ abc = low c := by
  have h := StrLaws.found_one abc c
  unfold inS
  rw [h, abc_list]
  by_cases hc : c < 123
  · have : ∀ c < 123, decide (c ∈ [97, 98, 99, 100, 101, 102, 103, 104, 105, 106, 107, 108, 109, 110, 111, 112, 113, 114, 115, 116, 117, 118, 119, 120, 121, 122]) = low c := by decide
    exact this c hc
  · have e1 : low c = false := by
      unfold low
      simp
      omega
    rw [e1]
    simp
    omega
theorem bls_map : ∀ l : List Bool, blsOf (l.map D.bl) = some l
  | [] => rfl
  | b :: r => by simp [blsOf, bls_map r]
theorem is_name_ok [HF T 12 f12] [HG T 1 (.int 8)] [HG T 2 (.str abc)] (h : kn d = true) (hs : ∀ x, d = .str x → x.length ≤ 1000000) : Phi T (k + 1) 12 [d] M = .ok (.bl (nmD d)) M := by
  rw [phi_fn (e := f12) rfl]
  show fin true M (xs (Phi T k) T b12 [some d, none] M) = _
  cases d with
  | str x =>
    have hl := hs x rfl
    have len : bltD .len [.str x] M = .ok (.int x.length) M := by simp [bltD, lenD, sl hl]
    by_cases h1 : 0 < x.length
    · by_cases h2 : x.length ≤ 8
      · have q : ¬ (8 : Int) < (x.length : Int) := by omega
        have loop : foldC (lcF (Phi T k) T c12_0 (.nm 1) d12_0 [1] [some (.str x), none]) (x.cps.toList.map fun c => .str ⟨#[c]⟩) [] M = .ok ((x.cps.toList.map low).map D.bl) M := by
          rw [foldC_pure (g := fun d => match d with | .str y => some (.bl (inS y abc)) | _ => none) (fun y hy => ?_) (by simp; exact sl hl)]
          · rw [List.nil_append, List.filterMap_map, List.map_map]
            congr 1
            induction x.cps.toList with
            | nil => rfl
            | cons c r ih => simp only [List.filterMap_cons, Function.comp_apply, in_abc, List.map_cons]; exact congrArg _ ih
          · obtain ⟨c, _, rfl⟩ := List.mem_map.mp hy
            simp [lcF, c12_0, d12_0, ev_gl, cmpD]
        simp [b12, len, ev_gl, h1, q, h2]
        rw [loop]
        simp only [R.bnd_ok]
        rw [mkL_true (by rw [List.length_map, List.length_map]; exact hl)]
        simp only [R.bnd_ok, bltD, lstD, Option.bind_some, bls_map, Option.map_some, R.of_some, fin_rt]
        have h1' : 1 ≤ x.length := h1
        simp [nmD, isNm, h1', h2]
      · have q : (8 : Int) < (x.length : Int) := by omega
        simp [b12, len, ev_gl, h1, q, h2, nmD, isNm]
    · have h0 : x.length = 0 := by omega
      simp [b12, len, ev_gl, h0, nmD, isNm]
  | obj _ _ _ => cases h
  | loc _ => cases h
  | _ => simp [b12, nmD]
/-! ### lines -/
abbrev sEnter : Str := Str.ofString "enter"
abbrev sLeave : Str := Str.ofString "leave"
abbrev sSay : Str := Str.ofString "say"
abbrev sAsk : Str := Str.ofString "ask"
/-- simple: plain, with no dict but the empty one itself -/
def sm (d : Dv.D) : Bool := d.pl && (!d.hD || (match d with | .dic _ _ => true | _ => false))
theorem sm_pl {d : Dv.D} (h : sm d = true) : d.pl = true := by unfold sm at h; simp at h; exact h.1
theorem eq_sm {d : Dv.D} {x : Str} (h : sm d = true) (hx : PyData.strOk x = true) : eqD M d (.str x) = some (isStr d x) := by
  unfold sm at h
  simp only [Bool.and_eq_true, Bool.or_eq_true, Bool.not_eq_true'] at h
  refine eqD_str h.1 hx ?_
  rcases h.2 with h2 | h2
  · exact .inl h2
  · cases d with
    | dic ks vs =>
      have := h.1
      simp only [D.pl, Bool.and_eq_true, List.isEmpty_iff] at this
      rw [this.1, this.2]
      exact .inr rfl
    | _ => cases h2
def lineD : Dv.D → Bool
  | .tup [a, b] => (isStr a sEnter || (isStr a sLeave || isStr a sSay)) && nmD b
  | .tup [a, b, c] => (isStr a sAsk || isStr a sSay) && (nmD b && belowD c 4)
  | _ => false
/-- simple, with short texts -/
structure Sh (d : Dv.D) : Prop where
  sm : sm d = true
  sh : ∀ s, d = .str s → s.length ≤ 1000000
theorem Sh.kn {d : Dv.D} (h : Sh d) : kn d = true := pl_kn (sm_pl h.sm)
theorem pt_val {c : Str} {d : Dv.D} (h : sm d = true) (hc : PyData.strOk c = true) : Pt.go M (.val (.str c)) d = some (if isStr d c then some [] else none) := by
  simp only [Pt.go, cst_str]
  rw [eq_sm h hc]
  cases isStr d c <;> rfl
theorem is_line_ok [HF T 10 f10] [HF T 11 f11] [HF T 12 f12] [HF T 13 f13] [HG T 0 vTOP] [HG T 1 (.int 8)] [HG T 2 (.str abc)] [HG T 3 (.int 4)] (h : kn d = true) (hs : ∀ xs, d = .tup xs → ∀ x ∈ xs, Sh x) :
    Phi T (k + 3) 13 [d] M = .ok (.bl (lineD d)) M := by
  rw [phi_fn (e := f13) rfl]
  show fin true M (xs (Phi T (k + 2)) T b13 [some d, none, none, none] M) = _
  have o1 : PyData.strOk sEnter = true := by decide +kernel
  have o2 : PyData.strOk sLeave = true := by decide +kernel
  have o3 : PyData.strOk sSay = true := by decide +kernel
  have o4 : PyData.strOk sAsk = true := by decide +kernel
  cases d with
  | tup xs =>
    have hx := hs xs rfl
    match xs, hx with
    | [], _ => simp [b13, lineD]
    | [a], _ => simp [b13, lineD]
    | [a, b], hx =>
      have ha := (hx a (by simp)).sm
      have hb := hx b (by simp)
      have e := is_name_ok (T := T) (k := k + 1) (M := M) hb.kn hb.sh
      cases e1 : isStr a sEnter <;> cases e2 : isStr a sLeave <;> cases e3 : isStr a sSay <;> simp [b13, lineD, pt_val ha o1, pt_val ha o2, pt_val ha o3, e1, e2, e3, e]
    | [a, b, c], hx =>
      have ha := (hx a (by simp)).sm
      have hb := hx b (by simp)
      have hc := hx c (by simp)
      have e := is_name_ok (T := T) (k := k + 1) (M := M) hb.kn hb.sh
      have e5 := is_below_ok (T := T) (k := k) (M := M) (m := 4) hc.kn (by decide)
      cases e1 : isStr a sAsk <;> cases e3 : isStr a sSay <;> cases e4 : nmD b <;> simp [b13, lineD, pt_val ha o4, pt_val ha o3, e1, e3, e, e4, e5]
    | a :: b :: c :: e :: r, _ => simp [b13, lineD]
  | obj _ _ _ => cases h
  | loc _ => cases h
  | _ => simp [b13, lineD]
/-! ### logs -/
def argS (d : Dv.D) : Str := match d with
  | .tup (_ :: .str b :: _) => b
  | _ => Str.empty
def tagIs (d : Dv.D) (x : Str) : Bool := match d with
  | .tup (a :: _) => isStr a x
  | _ => false
theorem strs_bel {n : Nat} : ∀ st : List Str, D.bels n (st.map D.str) = true
  | [] => rfl
  | x :: r => by
    simp only [List.map_cons, D.bels, strs_bel r]
    rfl
/-- a line more: the calls that are open then -/
def cstep (i : Nat) (st : List Str) (l : Dv.D) : Option (List Str) :=
  if lineD l then
    if st = [] ∧ (0 < i ∨ tagIs l sEnter = false) then none
    else if tagIs l sEnter then some (st ++ [argS l])
    else if tagIs l sLeave then (if st.getLast? = some (argS l) then some st.dropLast else none)
    else some st
  else none
theorem cstep_len {i : Nat} {st st' : List Str} {l : Dv.D} (e : cstep i st l = some st') : st'.length ≤ st.length + 1 := by
  simp only [cstep, Option.ite_none_right_eq_some, Option.ite_none_left_eq_some] at e
  obtain ⟨_, _, e⟩ := e
  split at e
  · cases e; simp
  · split at e
    · simp only [Option.ite_none_right_eq_some, Option.some.injEq] at e
      rw [← e.2]
      simp
      omega
    · cases e; omega
def cwalk : Nat → List Str → List Dv.D → Option (List Str)
  | _, st, [] => some st
  | i, st, l :: r => match cstep i st l with
    | some st' => cwalk (i + 1) st' r
    | none => none
def callsL (d : Dv.D) : Option (List Str) := match d with
  | .tup [] => none
  | .tup ls => cwalk 0 [] ls
  | _ => none
def optL : Option (List Str) → Dv.D
  | some l => .lst (l.map D.str)
  | none => .non
theorem line_form {l : Dv.D} (h : lineD l = true) : ∃ a b r, l = .tup (.str a :: .str b :: r) ∧ isNm b = true ∧ (a = sEnter ∨ a = sLeave ∨ a = sSay ∨ a = sAsk) := by
  unfold lineD at h
  split at h
  · rename_i a b
    simp only [Bool.and_eq_true, Bool.or_eq_true] at h
    obtain ⟨h1, h2⟩ := h
    cases b with
    | str b =>
      cases a with
      | str a =>
        simp only [isStr, decide_eq_true_eq] at h1
        refine ⟨a, b, [], rfl, h2, ?_⟩
        rcases h1 with h1 | h1 | h1
        · exact .inl h1
        · exact .inr (.inl h1)
        · exact .inr (.inr (.inl h1))
      | _ => simp [isStr] at h1
    | _ => cases h2
  · rename_i a b c
    simp only [Bool.and_eq_true, Bool.or_eq_true] at h
    obtain ⟨h1, h2, _⟩ := h
    cases b with
    | str b =>
      cases a with
      | str a =>
        simp only [isStr, decide_eq_true_eq] at h1
        refine ⟨a, b, [c], rfl, h2, ?_⟩
        rcases h1 with h1 | h1
        · exact .inr (.inr (.inr h1))
        · exact .inr (.inr (.inl h1))
      | _ => simp [isStr] at h1
    | _ => cases h2
  · cases h
/-- what is_line can be asked of -/
structure Lq (d : Dv.D) : Prop where
  kn : kn d = true
  sh : ∀ xs, d = .tup xs → ∀ x ∈ xs, Sh x
theorem tags_ne : sEnter ≠ sLeave ∧ sEnter ≠ sSay ∧ sEnter ≠ sAsk ∧ sLeave ≠ sEnter ∧ sLeave ≠ sSay ∧ sLeave ≠ sAsk ∧ sSay ≠ sEnter ∧ sSay ≠ sLeave ∧ sAsk ≠ sEnter ∧ sAsk ≠ sLeave := by decide +kernel
theorem calls_turn [HF T 10 f10] [HF T 11 f11] [HF T 12 f12] [HF T 13 f13] [HG T 0 vTOP] [HG T 1 (.int 8)] [HG T 2 (.str abc)] [HG T 3 (.int 4)] {l v : Dv.D} {i : Nat} {st : List Str} {a b : Option Dv.D} (h : Lq l) (hs : st.length < 1000000) :
    (∀ st', cstep i st l = some st' → frF (Phi T (k + 3)) T (.tp [.nm 2, .nm 3]) b14_0 (.tup [.int i, l]) [some v, some (.loc M.length), a, b] (M ++ [some (.lst (st.map D.str))]) = .nx [some v, some (.loc M.length), some (.int i), some l] (M ++ [some (.lst (st'.map D.str))])) ∧
    (cstep i st l = none → ∃ X, frF (Phi T (k + 3)) T (.tp [.nm 2, .nm 3]) b14_0 (.tup [.int i, l]) [some v, some (.loc M.length), a, b] (M ++ [some (.lst (st.map D.str))]) = .rt .non (M ++ [X])) := by
  have e := fun M => is_line_ok (T := T) (k := k) (M := M) h.kn h.sh
  cases hl : lineD l with
  | false =>
    refine ⟨fun st' z => by simp [cstep, hl] at z, fun _ => ⟨some (.lst (st.map D.str)), ?_⟩⟩
    simp [fr_def, b14_0, e, hl]
  | true =>
    obtain ⟨x, y, r, rfl, hy, hx⟩ := line_form hl
    have tg : ∀ z, tagIs (.tup (.str x :: .str y :: r)) z = decide (x = z) := fun z => rfl
    have ar : argS (.tup (.str x :: .str y :: r)) = y := rfl
    have len := len_loc (M := M ++ [some (.lst (st.map D.str))]) (n := M.length) mem_0
    rw [List.length_map] at len
    have a1 : ∀ l : List Dv.D, atI (.str x :: .str y :: l) 1 = some (.str y) := fun l => at_natN (j := 1)
    have cs : cstep i st (.tup (.str x :: .str y :: r)) = if st = [] ∧ (0 < i ∨ decide (x = sEnter) = false) then none else if decide (x = sEnter) = true then some (st ++ [y]) else if decide (x = sLeave) = true then (if st.getLast? = some y then some st.dropLast else none) else some st := by
      unfold cstep
      rw [hl, tg, tg, ar]
      rfl
    rw [cs]
    by_cases c1 : st = [] ∧ (0 < i ∨ decide (x = sEnter) = false)
    · rw [if_pos c1]
      refine ⟨(fun _ z => by cases z), fun _ => ⟨some (.lst (st.map D.str)), ?_⟩⟩
      obtain ⟨rfl, c1⟩ := c1
      simp only [List.map_nil, List.length_nil] at len
      by_cases hi : 0 < i
      · simp [fr_def, b14_0, e, hl, len, hi]
      · have c2 : x ≠ sEnter := by simpa [hi] using c1
        simp [fr_def, b14_0, e, hl, len, hi, c2]
    · rw [if_neg c1]
      have t1 : (st.length = 0 → i = 0 ∧ x = sEnter) := fun z => by
        have : st = [] := List.length_eq_zero_iff.mp z
        simp only [this, true_and, not_or, decide_eq_false_iff_not, Nat.not_lt, Nat.le_zero, Classical.not_not] at c1
        exact c1
      have step1 : xc (Phi T (k + 3)) T (.ite (.boo false [.not (.call 13 [.var 3]), .boo true [.cmp (.blt .len [.var 1]) .Eq (.cst (.int 0)), .boo false [.cmp (.var 2) .Gt (.cst (.int 0)), .cmp (.sub (.var 3) (.cst (.int 0))) .NotEq (.cst (.str (Str.ofString "enter")))]]]) [.ret (.cst .none)] []) [some v, some (.loc M.length), some (.int i), some (.tup (.str x :: .str y :: r))] (M ++ [some (.lst (st.map D.str))]) = .nx [some v, some (.loc M.length), some (.int i), some (.tup (.str x :: .str y :: r))] (M ++ [some (.lst (st.map D.str))]) := by
        by_cases hz : st.length = 0
        · obtain ⟨rfl, rfl⟩ := t1 hz
          have : st = [] := List.length_eq_zero_iff.mp hz
          subst this
          simp only [List.map_nil, List.length_nil] at len
          simp [e, hl, len]
        · simp [e, hl, len, hz]
      have fr : ∀ N, frF (Phi T (k + 3)) T (.tp [.nm 2, .nm 3]) b14_0 (.tup [.int i, .tup (.str x :: .str y :: r)]) [some v, some (.loc M.length), a, b] N = xs (Phi T (k + 3)) T b14_0 [some v, some (.loc M.length), some (.int i), some (.tup (.str x :: .str y :: r))] N := fun N => by simp [fr_def]
      rw [fr]
      unfold b14_0
      simp only [xs_cons, step1]
      by_cases c2 : x = sEnter
      · rw [if_pos (by simpa using c2)]
        refine ⟨fun st' z => ?_, fun z => by cases z⟩
        cases z
        have ap := app_loc (M := M ++ [some (.lst (st.map D.str))]) (n := M.length) (l := st.map D.str) (d := .str y) mem_0 (by simpa using hs)
        have rc := rcv_app (M := M ++ [some (.lst (st.map D.str))]) (n := M.length) (l := st.map D.str) mem_0
        simp [c2, ap, rc, a1]
      · rw [if_neg (by simpa using c2)]
        by_cases c3 : x = sLeave
        · rw [if_pos (by simpa using c3)]
          rcases List.eq_nil_or_concat st with rfl | ⟨L, z, rfl⟩
          · exact absurd (t1 rfl).2 c2
          · rw [List.concat_eq_append] at *
            have hp := pop_loc (M := M ++ [some (.lst ((L ++ [z]).map D.str))]) (n := M.length) (l := L.map D.str) (d := .str z) (by simp)
            have rc := rcv_pop (M := M ++ [some (.lst ((L ++ [z]).map D.str))]) (n := M.length) (l := (L ++ [z]).map D.str) (by simp)
            have nle := tags_ne.2.2.2.1
            by_cases c4 : z = y
            · subst c4
              refine ⟨fun st' w => ?_, fun w => by simp at w⟩
              have : L = st' := by simpa using w
              subst this
              simp only [List.map_append, List.map_cons, List.map_nil] at hp rc
              simp [c3, nle, rc, hp, a1]
            · refine ⟨fun st' w => by simp [c4] at w, fun w => ⟨some (.lst (L.map D.str)), ?_⟩⟩
              simp only [List.map_append, List.map_cons, List.map_nil] at hp rc
              simp [c3, nle, rc, hp, a1, c4]
        · rw [if_neg (by simpa using c3)]
          refine ⟨fun st' z => ?_, fun z => by cases z⟩
          cases z
          simp [c2, c3]
theorem calls_loop [HF T 10 f10] [HF T 11 f11] [HF T 12 f12] [HF T 13 f13] [HG T 0 vTOP] [HG T 1 (.int 8)] [HG T 2 (.str abc)] [HG T 3 (.int 4)] {v : Dv.D} : ∀ {ls : List Dv.D} {i : Nat} {st : List Str} {a b : Option Dv.D}, (∀ l ∈ ls, Lq l) → st.length + ls.length < 1000000 →
    (∀ st', cwalk i st ls = some st' → ∃ a' b', loopF (frF (Phi T (k + 3)) T (.tp [.nm 2, .nm 3]) b14_0) ((ls.zipIdx i).map fun p => .tup [.int p.2, p.1]) [some v, some (.loc M.length), a, b] (M ++ [some (.lst (st.map D.str))]) = .nx [some v, some (.loc M.length), a', b'] (M ++ [some (.lst (st'.map D.str))])) ∧
    (cwalk i st ls = none → ∃ X, loopF (frF (Phi T (k + 3)) T (.tp [.nm 2, .nm 3]) b14_0) ((ls.zipIdx i).map fun p => .tup [.int p.2, p.1]) [some v, some (.loc M.length), a, b] (M ++ [some (.lst (st.map D.str))]) = .rt .non (M ++ [X]))
  | [], i, st, a, b, _, _ => ⟨fun st' z => by
      cases z
      exact ⟨a, b, rfl⟩, fun z => by cases z⟩
  | l :: r, i, st, a, b, h, hn => by
    have hl := h l (List.mem_cons_self ..)
    rw [List.length_cons] at hn
    obtain ⟨t1, t2⟩ := calls_turn (T := T) (k := k) (M := M) (v := v) (i := i) (st := st) (a := a) (b := b) hl (by omega)
    simp only [cwalk, List.zipIdx_cons, List.map_cons]
    cases e : cstep i st l with
    | none =>
      refine ⟨(fun st' z => by cases z), fun _ => ?_⟩
      obtain ⟨X, q⟩ := t2 e
      exact ⟨X, by simp only [loopF, q]⟩
    | some st1 =>
      have hst : st1.length ≤ st.length + 1 := by
        exact cstep_len e
      have q := t1 st1 e
      obtain ⟨i1, i2⟩ := calls_loop (ls := r) (i := i + 1) (st := st1) (a := some (.int i)) (b := some l) (fun x hx => h x (List.mem_cons_of_mem _ hx)) (by omega)
      refine ⟨fun st' z => ?_, fun z => ?_⟩
      · obtain ⟨a', b', q2⟩ := i1 st' z
        exact ⟨a', b', by simp only [loopF, q]; exact q2⟩
      · obtain ⟨X, q2⟩ := i2 z
        exact ⟨X, by simp only [loopF, q]; exact q2⟩
/-- what is_log can be asked of -/
structure Gq (d : Dv.D) : Prop where
  kn : kn d = true
  ls : ∀ xs, d = .tup xs → xs.length < 1000000 ∧ ∀ x ∈ xs, Lq x
theorem calls_in_ok [HF T 10 f10] [HF T 11 f11] [HF T 12 f12] [HF T 13 f13] [HF T 14 f14] [HG T 0 vTOP] [HG T 1 (.int 8)] [HG T 2 (.str abc)] [HG T 3 (.int 4)] (h : Gq d) : Phi T (k + 4) 14 [d] M = .ok (optL (callsL d)) M := by
  rw [phi_fn (e := f14) rfl]
  show fin false M (xs (Phi T (k + 3)) T b14 [some d, none, none, none] M) = _
  cases d with
  | tup ls =>
    obtain ⟨h1, h2⟩ := h.ls ls rfl
    cases ls with
    | nil => simp [b14, callsL, optL, fin_rtD0 (d := Dv.D.non) rfl]
    | cons l r =>
      have nz : ¬ ((r.length : Int) + 1 = 0) := by omega
      obtain ⟨i1, i2⟩ := calls_loop (T := T) (k := k) (M := M) (v := .tup (l :: r)) (ls := l :: r) (i := 0) (st := []) (a := none) (b := none) h2 (by simpa using h1)
      simp only [b14, xs_cons, xc_ite, tst_boo, evTs_cons, evTs_one, tst_not, tst_isi, ev_isi, ev_var, List.getElem?_cons_succ, List.getElem?_cons_zero, R.bnd_ok, isi_tup_tuple, Option.map_some, R.of_some, tru_bl, Bool.not_true, Bool.false_eq_true, if_false, tst_cmp, ev_blt, evs_cons, evs_nil, len_tup, List.length_cons, Int.natCast_add, Int.natCast_one, ev_cst, cst_int, cmp_eq, eq_int, nz, decide_false, R.st_ok, xs_nil, xc_set, ev_lst, mkL_nilF, put_nm, List.set_cons_succ, List.set_cons_zero, xc_fr, wlk_enm, it_tup, if_true]
      have hc : callsL (.tup (l :: r)) = cwalk 0 [] (l :: r) := rfl
      rw [hc]
      simp only [List.map_nil] at i1 i2
      cases e : cwalk 0 [] (l :: r) with
      | none =>
        obtain ⟨X, q⟩ := i2 e
        rw [q]
        exact fin_rtD rfl
      | some st =>
        obtain ⟨a', b', q⟩ := i1 st e
        rw [q]
        simp only [xc_ret, ev_var, List.getElem?_cons_succ, List.getElem?_cons_zero, R.st_ok]
        exact fin_rtL (j := 0) rfl (strs_bel st)
  | obj _ _ _ => cases h.kn
  | loc _ => cases h.kn
  | _ => simp [b14, callsL, optL, fin_rtD0 (d := Dv.D.non) rfl]
theorem is_log_ok [HF T 10 f10] [HF T 11 f11] [HF T 12 f12] [HF T 13 f13] [HF T 14 f14] [HF T 15 f15] [HG T 0 vTOP] [HG T 1 (.int 8)] [HG T 2 (.str abc)] [HG T 3 (.int 4)] (h : Gq d) : Phi T (k + 5) 15 [d] M = .ok (.bl (callsL d).isSome) M := by
  rw [phi_fn (e := f15) rfl]
  show fin true M (xs (Phi T (k + 4)) T b15 [some d] M) = _
  have e := calls_in_ok (T := T) (k := k) (M := M) h
  cases hc : callsL d <;> simp [b15, e, hc, optL]
theorem open_calls_ok [HF T 10 f10] [HF T 11 f11] [HF T 12 f12] [HF T 13 f13] [HF T 14 f14] [HF T 16 f16] [HG T 0 vTOP] [HG T 1 (.int 8)] [HG T 2 (.str abc)] [HG T 3 (.int 4)] [HR T 0] (h : Gq d) :
    Phi T (k + 5) 16 [d] M = (match callsL d with | some l => .ok (.tup (l.map D.str)) M | none => .err ⟨0, [], []⟩ M) := by
  rw [phi_fn (e := f16) rfl]
  show fin true M (xs (Phi T (k + 4)) T b16 [some d, none] M) = _
  have e := calls_in_ok (T := T) (k := k) (M := M) h
  cases hc : callsL d <;> simp [b16, e, hc, optL]
theorem short_of {x : Dv.D} (h : x.wt ≤ 1000000) : ∀ s, x = .str s → s.length ≤ 1000000 := fun s z => by
  subst z
  simp only [D.wt] at h
  omega
theorem sh_of {x : Dv.D} (h : x.pl = true) (h1 : x.hD = false) (h2 : x.wt ≤ 1000000) : Sh x := ⟨by simp [sm, h, h1], short_of h2⟩
theorem gq_of {d : Dv.D} (h : sm d = true) (hw : d.wt < 1000000) : Gq d := by
  refine ⟨pl_kn (sm_pl h), fun xs z => ?_⟩
  subst z
  unfold sm at h
  simp only [Bool.and_eq_true, Bool.or_eq_true, Bool.not_eq_true', D.pl, D.hD] at h
  simp only [D.wt] at hw
  have h2 : D.hDs xs = false := by rcases h.2 with z | z; exact z; cases z
  have := wts_len xs
  refine ⟨by omega, fun x hx => ?_⟩
  have p := pls_mem h.1 x hx
  have q := hDs_mem h2 x hx
  have w := wts_mem hx
  refine ⟨pl_kn p, fun ys z y hy => ?_⟩
  subst z
  simp only [D.pl, D.hD, D.wt] at p q w
  have w2 := wts_mem hy
  exact sh_of (pls_mem p y hy) (hDs_mem q y hy) (by omega)
end
end L2.Dv.P
namespace L2.Dv.P
open PySem PySem.Spec PyProof.Rows
/-- _law_open_in(value): 0 value, 1 line, 2 stock, 3 at, 4 opened, 5 spot -/
def c23_0 : Dv.E := .cst (.int 1)
def d23_0 : List Dv.E := [.not (.call 13 [.var 1])]
def c23_1 : Dv.E := .var 5
def d23_1 : List Dv.E := [.boo true [.cmp (.sub (.sub (.var 0) (.var 5)) (.cst (.int 0))) .Eq (.cst (.str (Str.ofString "enter"))), .cmp (.var 5) .NotIn (.var 2)]]
def b23_0 : List Dv.S := [.set (.nm 4) (.lc true c23_1 (.nm 5) (.rng [.var 3]) d23_1 [5]), .ite (.boo true [.cmp (.var 4) .Eq (.lst true []), .boo false [.cmp (.var 3) .Gt (.cst (.int 0)), .cmp (.sub (.sub (.var 0) (.var 3)) (.cst (.int 0))) .NotEq (.cst (.str (Str.ofString "enter")))]]) [.ret (.cst .none)] [], .ite (.cmp (.sub (.sub (.var 0) (.var 3)) (.cst (.int 0))) .Eq (.cst (.str (Str.ofString "leave")))) [.ite (.cmp (.sub (.sub (.var 0) (.sub (.var 4) (.neg (.cst (.int 1))))) (.cst (.int 1))) .NotEq (.sub (.sub (.var 0) (.var 3)) (.cst (.int 1)))) [.ret (.cst .none)] [], .exp (.mth .append (.var 2) [.sub (.var 4) (.neg (.cst (.int 1)))])] []]
def c23_2 : Dv.E := .sub (.sub (.var 0) (.var 5)) (.cst (.int 1))
def d23_2 : List Dv.E := [.boo true [.cmp (.sub (.sub (.var 0) (.var 5)) (.cst (.int 0))) .Eq (.cst (.str (Str.ofString "enter"))), .cmp (.var 5) .NotIn (.var 2)]]
def b23 : List Dv.S := [.ite (.boo false [.not (.isi (.var 0) (.bt "tuple")), .cmp (.var 0) .Eq (.tup []), .cmp (.lc true c23_0 (.nm 1) (.var 0) d23_0 [1]) .NotEq (.lst true [])]) [.ret (.cst .none)] [],
  .set (.nm 2) (.lst false []),
  .fr (.nm 3) (.rng [.blt .len [.var 0]]) b23_0,
  .ret (.lc true c23_2 (.nm 5) (.rng [.blt .len [.var 0]]) d23_2 [5])]
def f23 : FnE := { name := (Str.ofString "_law_open_in"), ps := [(Str.ofString "value")], N := [(Str.ofString "value"), (Str.ofString "line"), (Str.ofString "stock"), (Str.ofString "at"), (Str.ofString "opened"), (Str.ofString "spot")], keep := false, body := b23 }
/-- _law_log(urn): 0 urn, 1 names, 2 words, 3 found, 4 opened, 5 turn, 6 way, 7 word, 8 number -/
def b24_0 : List Dv.S := [.set (.nm 6) (.call 18 [.var 0, .cst (.int 6)]), .ite (.boo true [.cmp (.var 4) .NotEq (.lst true []), .cmp (.var 6) .Lt (.cst (.int 2))]) [.exp (.mth .append (.var 4) [.call 19 [.var 0, .var 1]]), .exp (.mth .append (.var 3) [.tup [.cst (.str (Str.ofString "enter")), .sub (.var 4) (.neg (.cst (.int 1)))]])] [.ite (.boo true [.cmp (.var 4) .NotEq (.lst true []), .cmp (.var 6) .Lt (.cst (.int 4)), .boo false [.cmp (.blt .len [.var 4]) .Gt (.cst (.int 1)), .cmp (.call 18 [.var 0, .cst (.int 3)]) .Eq (.cst (.int 0))]]) [.exp (.mth .append (.var 3) [.tup [.cst (.str (Str.ofString "leave")), .mth .pop (.var 4) []]])] [.ite (.cmp (.var 4) .NotEq (.lst true [])) [.par 7 8 (.call 19 [.var 0, .var 2]) (.call 18 [.var 0, .cst (.int 4)]), .exp (.mth .append (.var 3) [.call 19 [.var 0, .lst true [.tup [.cst (.str (Str.ofString "say")), .var 7], .tup [.cst (.str (Str.ofString "say")), .var 7, .var 8], .tup [.cst (.str (Str.ofString "ask")), .var 7, .var 8]]]])] []]]]
def b24 : List Dv.S := [.par 1 2 (.call 22 [.var 0, .cst (.int 3)]) (.call 22 [.var 0, .cst (.int 2)]),
  .par 3 4 (.lst false [.tup [.cst (.str (Str.ofString "enter")), .sub (.var 1) (.cst (.int 0))]]) (.lst false [.sub (.var 1) (.cst (.int 0))]),
  .fr (.nm 5) (.rng [.call 18 [.var 0, .cst (.int 24)]]) b24_0,
  .ret (.blt .tuple [.var 3])]
def f24 : FnE := { name := (Str.ofString "_law_log"), ps := [(Str.ofString "urn")], N := [(Str.ofString "urn"), (Str.ofString "names"), (Str.ofString "words"), (Str.ofString "found"), (Str.ofString "opened"), (Str.ofString "turn"), (Str.ofString "way"), (Str.ofString "word"), (Str.ofString "number")], keep := false, body := b24 }
/-- _law_near(urn, log): 0 urn, 1 log, 2 at, 3 to, 4 line, 5 name, 6 rest, 7 odd, 8 none, 9 found, 10 leaves, 11 one, 12 whole -/
def c25_0 : Dv.E := .tup [.cst (.str (Str.ofString "leave")), .var 11]
def d25_0 : List Dv.E := []
def b25 : List Dv.S := [.par 2 3 (.call 18 [.var 0, .blt .len [.var 1]]) (.call 18 [.var 0, .bop .Add (.blt .len [.var 1]) (.cst (.int 1))]),
  .par 4 5 (.sub (.var 1) (.var 2)) (.call 21 [.var 0]),
  .set (.nm 6) (.bop .Add (.slc (.var 1) none (some (.var 2))) (.slc (.var 1) (some (.bop .Add (.var 2) (.cst (.int 1)))) none)),
  .set (.nm 7) (.call 19 [.var 0, .lst true [.tup [.cst (.str (Str.ofString "leave")), .var 5], .tup [.cst (.str (Str.ofString "enter")), .var 5], .tup [.cst (.str (Str.ofString "say")), .var 5], .tup [.cst (.str (Str.ofString "leave")), .sub (.sub (.var 1) (.cst (.int 0))) (.cst (.int 1))], .tup [.sub (.var 4) (.cst (.int 0)), .var 5]]]),
  .set (.nm 8) (.call 19 [.var 0, .lst true [.cst .none, .tup [], .tup [.cst (.str (Str.ofString "say"))], .tup [.cst (.str (Str.ofString "say")), .cst (.str (Str.ofString "a")), .cst (.int 4)], .blt .list [.var 4], .tup [.cst (.str (Str.ofString "tell")), .cst (.str (Str.ofString "a"))], .cst (.str (Str.ofString "enter a")), .cst (.int 0), .cst (.bool true)]]),
  .set (.nm 9) (.lst true [.var 1, .blt .list [.var 1], .var 6, .bop .Add (.bop .Add (.slc (.var 1) none (some (.var 2))) (.tup [.var 4])) (.slc (.var 1) (some (.var 2)) none), .bop .Add (.bop .Add (.slc (.var 6) none (some (.var 3))) (.tup [.var 4])) (.slc (.var 6) (some (.var 3)) none), .slc (.var 1) none (some (.var 3)), .slc (.var 1) (some (.var 3)) none]),
  .set (.nm 9) (.bop .Add (.var 9) (.lst true [.bop .Add (.bop .Add (.slc (.var 1) none (some (.var 3))) (.tup [.var 7])) (.slc (.var 1) (some (.var 3)) none), .bop .Add (.bop .Add (.slc (.var 1) none (some (.var 3))) (.tup [.var 8])) (.slc (.var 1) (some (.var 3)) none), .rev (.var 1), .bop .Add (.var 1) (.var 1), .bop .Add (.var 1) (.tup [.var 7])])),
  .set (.nm 10) (.blt .tuple [.lc true c25_0 (.nm 11) (.rev (.boo false [.call 23 [.var 1], .lst true []])) d25_0 [11]]),
  .set (.nm 12) (.bop .Add (.var 1) (.var 10)),
  .set (.nm 9) (.bop .Add (.var 9) (.lst true [.var 12, .bop .Add (.var 12) (.tup [.tup [.cst (.str (Str.ofString "say")), .cst (.str (Str.ofString "a"))]]), .bop .Add (.var 12) (.tup [.tup [.cst (.str (Str.ofString "enter")), .var 5]]), .bop .Add (.var 12) (.var 10), .slc (.var 12) none (some (.neg (.cst (.int 1))))])),
  .ret (.bop .Add (.var 9) (.lst true [.tup [.var 7], .tup [.var 8], .var 4, .cst .none, .cst (.int 0), .dis true [] [], .cst (.str (Str.ofString "log")), .tup [.tup [.var 4]]]))]
def f25 : FnE := { name := (Str.ofString "_law_near"), ps := [(Str.ofString "urn"), (Str.ofString "log")], N := [(Str.ofString "urn"), (Str.ofString "log"), (Str.ofString "at"), (Str.ofString "to"), (Str.ofString "line"), (Str.ofString "name"), (Str.ofString "rest"), (Str.ofString "odd"), (Str.ofString "none"), (Str.ofString "found"), (Str.ofString "leaves"), (Str.ofString "one"), (Str.ofString "whole")], keep := true, body := b25 }
/-- _law_refused(value): 0 value -/
def b26 : List Dv.S := [.tr1 [.exp (.call 16 [.var 0])] 0 (.bool true),
  .ret (.cst (.bool false))]
def f26 : FnE := { name := (Str.ofString "_law_refused"), ps := [(Str.ofString "value")], N := [(Str.ofString "value")], keep := true, body := b26 }
/-- _law_right(urn): 0 urn, 1 log, 2 value, 3 due, 4 text -/
def b27_0 : List Dv.S := [.par 3 4 (.call 23 [.var 2]) (.blt .repr [.var 2]), .ite (.boo false [.cmp (.call 15 [.var 2]) .NotEq (.cmp (.var 3) .IsNot (.cst .none)), .cmp (.call 26 [.var 2]) .NotEq (.cmp (.var 3) .Is (.cst .none))]) [.ret (.cst (.bool false))] [], .ite (.boo true [.cmp (.var 3) .IsNot (.cst .none), .cmp (.blt .repr [.call 16 [.var 2]]) .NotEq (.blt .repr [.blt .tuple [.var 3]])]) [.ret (.cst (.bool false))] [], .ite (.cmp (.blt .repr [.var 2]) .NotEq (.var 4)) [.ret (.cst (.bool false))] []]
def b27 : List Dv.S := [.set (.nm 1) (.call 24 [.var 0]),
  .fr (.nm 2) (.bop .Add (.call 25 [.var 0, .var 1]) (.lst true [.var 1])) b27_0,
  .ret (.boo true [.call 15 [.var 1], .not (.call 15 [.tup []]), .call 26 [.tup []]])]
def f27 : FnE := { name := (Str.ofString "_law_right"), ps := [(Str.ofString "urn")], N := [(Str.ofString "urn"), (Str.ofString "log"), (Str.ofString "value"), (Str.ofString "due"), (Str.ofString "text")], keep := true, body := b27 }
/-- law(script): 0 script, 1 at, 2 urn, 3 turn, 4 deep, 5 told -/
def b28_0 : List Dv.S := [.ite (.not (.call 27 [.var 2])) [.ret (.cst (.bool false))] []]
def b28_1 : List Dv.S := [.set (.nm 2) (.call 17 [.var 0, .var 1]), .fr (.nm 3) (.rng [.cst (.int 3)]) b28_0]
def b28 : List Dv.S := [.fr (.nm 1) (.rng [.blt .max [.cst (.int 1), .blt .min [.cst (.int 8), .blt .len [.var 0]]]]) b28_1,
  .set (.nm 4) (.blt .tuple [.bop .Add (.bop .Add (.bop .Mult (.lst true [.tup [.cst (.str (Str.ofString "enter")), .cst (.str (Str.ofString "p"))]]) (.cst (.int 60))) (.lst true [.tup [.cst (.str (Str.ofString "say")), .cst (.str (Str.ofString "a"))]])) (.bop .Mult (.lst true [.tup [.cst (.str (Str.ofString "leave")), .cst (.str (Str.ofString "p"))]]) (.cst (.int 60)))]),
  .set (.nm 5) (.lst true [.call 15 [.slc (.var 4) none (some (.cst (.int 120)))], .call 15 [.var 4], .call 15 [.bop .Add (.var 4) (.slc (.var 4) (some (.neg (.cst (.int 1)))) none)], .call 15 [.bop .Add (.var 4) (.slc (.var 4) none (some (.cst (.int 1))))]]),
  .ret (.boo true [.cmp (.var 5) .Eq (.lst true [.cst (.bool true), .cst (.bool true), .cst (.bool false), .cst (.bool false)]), .cmp (.lst true [.blt .len [.call 16 [.slc (.var 4) none (some (.cst (.int 119)))]], .call 16 [.var 4]]) .Eq (.lst true [.cst (.int 2), .tup []])])]
def f28 : FnE := { name := (Str.ofString "law"), ps := [(Str.ofString "script")], N := [(Str.ofString "script"), (Str.ofString "at"), (Str.ofString "urn"), (Str.ofString "turn"), (Str.ofString "deep"), (Str.ofString "told")], keep := true, body := b28 }
end L2.Dv.P
namespace L2.Dv.K02
open PySem PySem.Spec PyProof.Rows L2.Dv.P
def top (i : Nat) : Stmt := PySem.Challenge.pw_showncalls_k02_logs_by_their_form.main.body.getD i (.Pass ⟨0, 0, 0, 0⟩)
abbrev t10 : Stmt := top 8
abbrev t11 : Stmt := top 9
abbrev t12 : Stmt := top 10
abbrev t13 : Stmt := top 11
abbrev t14 : Stmt := top 12
abbrev t15 : Stmt := top 13
abbrev t16 : Stmt := top 14
abbrev t17 : Stmt := top 16
abbrev t18 : Stmt := top 17
abbrev t19 : Stmt := top 18
abbrev t21 : Stmt := top 20
abbrev t22 : Stmt := top 21
abbrev t23 : Stmt := top 22
abbrev t24 : Stmt := top 23
abbrev t25 : Stmt := top 24
abbrev t26 : Stmt := top 25
abbrev t27 : Stmt := top 26
abbrev t28 : Stmt := top 27
def fns : List (Nat × FnE) := [(10, f10), (11, f11), (12, f12), (13, f13), (14, f14), (15, f15), (16, f16), (17, f17), (18, f18), (19, f19), (21, f21), (22, f22), (23, f23), (24, f24), (25, f25), (26, f26), (27, f27), (28, f28)]
def gls : List (Nat × Str × Dv.D) := [(0, (Str.ofString "TOP"), (.int 10000000000000000000000000000000000000000)), (1, (Str.ofString "MAX_LETTERS"), (.int 8)), (2, (Str.ofString "LETTERS"), (.str (Str.ofString "abcdefghijklmnopqrstuvwxyz"))), (3, (Str.ofString "MAX_SIZE"), (.int 4))]
def cls : List (Nat × Str) := [(0, (Str.ofString "InvalidLog"))]
def exs : List ((Nat × Nat) × Bool) := [((0, 0), true)]
def raws : List (Nat × Unit) := [(0, ())]
def tb : Tb := { fn := fun i => fns.lookup i, gl := fun i => gls.lookup i, cl := fun i => cls.lookup i, raw := fun i => (raws.lookup i).isSome, ex := fun c h => exs.lookup (c, h) }
instance : HF tb 10 f10 := ⟨rfl⟩
instance : HF tb 11 f11 := ⟨rfl⟩
instance : HF tb 12 f12 := ⟨rfl⟩
instance : HF tb 13 f13 := ⟨rfl⟩
instance : HF tb 14 f14 := ⟨rfl⟩
instance : HF tb 15 f15 := ⟨rfl⟩
instance : HF tb 16 f16 := ⟨rfl⟩
instance : HF tb 17 f17 := ⟨rfl⟩
instance : HF tb 18 f18 := ⟨rfl⟩
instance : HF tb 19 f19 := ⟨rfl⟩
instance : HF tb 21 f21 := ⟨rfl⟩
instance : HF tb 22 f22 := ⟨rfl⟩
instance : HF tb 23 f23 := ⟨rfl⟩
instance : HF tb 24 f24 := ⟨rfl⟩
instance : HF tb 25 f25 := ⟨rfl⟩
instance : HF tb 26 f26 := ⟨rfl⟩
instance : HF tb 27 f27 := ⟨rfl⟩
instance : HF tb 28 f28 := ⟨rfl⟩
instance : HG tb 0 (.int 10000000000000000000000000000000000000000) := ⟨⟨(Str.ofString "TOP"), rfl⟩⟩
instance : HG tb 1 (.int 8) := ⟨⟨(Str.ofString "MAX_LETTERS"), rfl⟩⟩
instance : HG tb 2 (.str (Str.ofString "abcdefghijklmnopqrstuvwxyz")) := ⟨⟨(Str.ofString "LETTERS"), rfl⟩⟩
instance : HG tb 3 (.int 4) := ⟨⟨(Str.ofString "MAX_SIZE"), rfl⟩⟩
instance : HX tb 0 0 true := ⟨rfl⟩
instance : HR tb 0 := ⟨rfl⟩
theorem sc10 : FnScope f10.N f10.ps (defScope t10) := ⟨rfl, rfl, rfl, by decide +kernel, rfl, by decide +kernel, by decide +kernel⟩
theorem ch10 : chSs tb f10.N (defScope t10) f10.body (defBody t10) = true := by decide +kernel
theorem sc11 : FnScope f11.N f11.ps (defScope t11) := ⟨rfl, rfl, rfl, by decide +kernel, rfl, by decide +kernel, by decide +kernel⟩
theorem ch11 : chSs tb f11.N (defScope t11) f11.body (defBody t11) = true := by decide +kernel
theorem sc12 : FnScope f12.N f12.ps (defScope t12) := ⟨rfl, rfl, rfl, by decide +kernel, rfl, by decide +kernel, by decide +kernel⟩
theorem ch12 : chSs tb f12.N (defScope t12) f12.body (defBody t12) = true := by decide +kernel
theorem sc13 : FnScope f13.N f13.ps (defScope t13) := ⟨rfl, rfl, rfl, by decide +kernel, rfl, by decide +kernel, by decide +kernel⟩
theorem ch13 : chSs tb f13.N (defScope t13) f13.body (defBody t13) = true := by decide +kernel
theorem sc14 : FnScope f14.N f14.ps (defScope t14) := ⟨rfl, rfl, rfl, by decide +kernel, rfl, by decide +kernel, by decide +kernel⟩
theorem ch14 : chSs tb f14.N (defScope t14) f14.body (defBody t14) = true := by decide +kernel
theorem sc15 : FnScope f15.N f15.ps (defScope t15) := ⟨rfl, rfl, rfl, by decide +kernel, rfl, by decide +kernel, by decide +kernel⟩
theorem ch15 : chSs tb f15.N (defScope t15) f15.body (defBody t15) = true := by decide +kernel
theorem sc16 : FnScope f16.N f16.ps (defScope t16) := ⟨rfl, rfl, rfl, by decide +kernel, rfl, by decide +kernel, by decide +kernel⟩
theorem ch16 : chSs tb f16.N (defScope t16) f16.body (defBody t16) = true := by decide +kernel
theorem sc17 : FnScope f17.N f17.ps (defScope t17) := ⟨rfl, rfl, rfl, by decide +kernel, rfl, by decide +kernel, by decide +kernel⟩
theorem ch17 : chSs tb f17.N (defScope t17) f17.body (defBody t17) = true := by decide +kernel
theorem sc18 : FnScope f18.N f18.ps (defScope t18) := ⟨rfl, rfl, rfl, by decide +kernel, rfl, by decide +kernel, by decide +kernel⟩
theorem ch18 : chSs tb f18.N (defScope t18) f18.body (defBody t18) = true := by decide +kernel
theorem sc19 : FnScope f19.N f19.ps (defScope t19) := ⟨rfl, rfl, rfl, by decide +kernel, rfl, by decide +kernel, by decide +kernel⟩
theorem ch19 : chSs tb f19.N (defScope t19) f19.body (defBody t19) = true := by decide +kernel
theorem sc21 : FnScope f21.N f21.ps (defScope t21) := ⟨rfl, rfl, rfl, by decide +kernel, rfl, by decide +kernel, by decide +kernel⟩
theorem ch21 : chSs tb f21.N (defScope t21) f21.body (defBody t21) = true := by decide +kernel
theorem sc22 : FnScope f22.N f22.ps (defScope t22) := ⟨rfl, rfl, rfl, by decide +kernel, rfl, by decide +kernel, by decide +kernel⟩
theorem ch22 : chSs tb f22.N (defScope t22) f22.body (defBody t22) = true := by decide +kernel
theorem sc23 : FnScope f23.N f23.ps (defScope t23) := ⟨rfl, rfl, rfl, by decide +kernel, rfl, by decide +kernel, by decide +kernel⟩
theorem ch23 : chSs tb f23.N (defScope t23) f23.body (defBody t23) = true := by decide +kernel
theorem sc24 : FnScope f24.N f24.ps (defScope t24) := ⟨rfl, rfl, rfl, by decide +kernel, rfl, by decide +kernel, by decide +kernel⟩
theorem ch24 : chSs tb f24.N (defScope t24) f24.body (defBody t24) = true := by decide +kernel
theorem sc25 : FnScope f25.N f25.ps (defScope t25) := ⟨rfl, rfl, rfl, by decide +kernel, rfl, by decide +kernel, by decide +kernel⟩
theorem ch25 : chSs tb f25.N (defScope t25) f25.body (defBody t25) = true := by decide +kernel
theorem sc26 : FnScope f26.N f26.ps (defScope t26) := ⟨rfl, rfl, rfl, by decide +kernel, rfl, by decide +kernel, by decide +kernel⟩
theorem ch26 : chSs tb f26.N (defScope t26) f26.body (defBody t26) = true := by decide +kernel
theorem sc27 : FnScope f27.N f27.ps (defScope t27) := ⟨rfl, rfl, rfl, by decide +kernel, rfl, by decide +kernel, by decide +kernel⟩
theorem ch27 : chSs tb f27.N (defScope t27) f27.body (defBody t27) = true := by decide +kernel
theorem sc28 : FnScope f28.N f28.ps (defScope t28) := ⟨rfl, rfl, rfl, by decide +kernel, rfl, by decide +kernel, by decide +kernel⟩
theorem ch28 : chSs tb f28.N (defScope t28) f28.body (defBody t28) = true := by decide +kernel
theorem fits {K : PySem.W.Frag} {h : Heap} {mg : Str → Option Value} (X : K.In h) (G : h.Ns mainGlobals mg)
    {a10 : Addr} {od10 an10 : Option Addr} {sl10 : Array (Option Value)} {oc10 kV10 dc10 pm10 cd10 ct10 : Value}
    {a11 : Addr} {od11 an11 : Option Addr} {sl11 : Array (Option Value)} {oc11 kV11 dc11 pm11 cd11 ct11 : Value}
    {a12 : Addr} {od12 an12 : Option Addr} {sl12 : Array (Option Value)} {oc12 kV12 dc12 pm12 cd12 ct12 : Value}
    {a13 : Addr} {od13 an13 : Option Addr} {sl13 : Array (Option Value)} {oc13 kV13 dc13 pm13 cd13 ct13 : Value}
    {a14 : Addr} {od14 an14 : Option Addr} {sl14 : Array (Option Value)} {oc14 kV14 dc14 pm14 cd14 ct14 : Value}
    {a15 : Addr} {od15 an15 : Option Addr} {sl15 : Array (Option Value)} {oc15 kV15 dc15 pm15 cd15 ct15 : Value}
    {a16 : Addr} {od16 an16 : Option Addr} {sl16 : Array (Option Value)} {oc16 kV16 dc16 pm16 cd16 ct16 : Value}
    {a17 : Addr} {od17 an17 : Option Addr} {sl17 : Array (Option Value)} {oc17 kV17 dc17 pm17 cd17 ct17 : Value}
    {a18 : Addr} {od18 an18 : Option Addr} {sl18 : Array (Option Value)} {oc18 kV18 dc18 pm18 cd18 ct18 : Value}
    {a19 : Addr} {od19 an19 : Option Addr} {sl19 : Array (Option Value)} {oc19 kV19 dc19 pm19 cd19 ct19 : Value}
    {a21 : Addr} {od21 an21 : Option Addr} {sl21 : Array (Option Value)} {oc21 kV21 dc21 pm21 cd21 ct21 : Value}
    {a22 : Addr} {od22 an22 : Option Addr} {sl22 : Array (Option Value)} {oc22 kV22 dc22 pm22 cd22 ct22 : Value}
    {a23 : Addr} {od23 an23 : Option Addr} {sl23 : Array (Option Value)} {oc23 kV23 dc23 pm23 cd23 ct23 : Value}
    {a24 : Addr} {od24 an24 : Option Addr} {sl24 : Array (Option Value)} {oc24 kV24 dc24 pm24 cd24 ct24 : Value}
    {a25 : Addr} {od25 an25 : Option Addr} {sl25 : Array (Option Value)} {oc25 kV25 dc25 pm25 cd25 ct25 : Value}
    {a26 : Addr} {od26 an26 : Option Addr} {sl26 : Array (Option Value)} {oc26 kV26 dc26 pm26 cd26 ct26 : Value}
    {a27 : Addr} {od27 an27 : Option Addr} {sl27 : Array (Option Value)} {oc27 kV27 dc27 pm27 cd27 ct27 : Value}
    {a28 : Addr} {od28 an28 : Option Addr} {sl28 : Array (Option Value)} {oc28 kV28 dc28 pm28 cd28 ct28 : Value}
    {u0 : Tok}
    {u1 : Tok}
    {u2 : Tok}
    {u3 : Tok}
    (a10' : PySem.W.nsIn K mainGlobals "is_integer" = some (some (.ref a10))) (l10' : K.lookup a10 = some ⟨oc10, od10, .func (PySem.W.fnOf "is_integer" "is_integer" (defArgs t10) (defBody t10) (defScope t10) .none kV10 dc10 pm10 an10 cd10 ct10), sl10⟩) (c10' : PySem.W.codeIn K cd10 "is_integer" = true) (k10' : PySem.W.keepIn K (.ref a10) = true)
    (a11' : PySem.W.nsIn K mainGlobals "is_below" = some (some (.ref a11))) (l11' : K.lookup a11 = some ⟨oc11, od11, .func (PySem.W.fnOf "is_below" "is_below" (defArgs t11) (defBody t11) (defScope t11) .none kV11 dc11 pm11 an11 cd11 ct11), sl11⟩) (c11' : PySem.W.codeIn K cd11 "is_below" = true) (k11' : PySem.W.keepIn K (.ref a11) = true)
    (a12' : PySem.W.nsIn K mainGlobals "is_name" = some (some (.ref a12))) (l12' : K.lookup a12 = some ⟨oc12, od12, .func (PySem.W.fnOf "is_name" "is_name" (defArgs t12) (defBody t12) (defScope t12) .none kV12 dc12 pm12 an12 cd12 ct12), sl12⟩) (c12' : PySem.W.codeIn K cd12 "is_name" = true) (k12' : PySem.W.keepIn K (.ref a12) = true)
    (a13' : PySem.W.nsIn K mainGlobals "is_line" = some (some (.ref a13))) (l13' : K.lookup a13 = some ⟨oc13, od13, .func (PySem.W.fnOf "is_line" "is_line" (defArgs t13) (defBody t13) (defScope t13) .none kV13 dc13 pm13 an13 cd13 ct13), sl13⟩) (c13' : PySem.W.codeIn K cd13 "is_line" = true) (k13' : PySem.W.keepIn K (.ref a13) = true)
    (a14' : PySem.W.nsIn K mainGlobals "calls_in" = some (some (.ref a14))) (l14' : K.lookup a14 = some ⟨oc14, od14, .func (PySem.W.fnOf "calls_in" "calls_in" (defArgs t14) (defBody t14) (defScope t14) .none kV14 dc14 pm14 an14 cd14 ct14), sl14⟩) (c14' : PySem.W.codeIn K cd14 "calls_in" = true) (k14' : PySem.W.keepIn K (.ref a14) = true)
    (a15' : PySem.W.nsIn K mainGlobals "is_log" = some (some (.ref a15))) (l15' : K.lookup a15 = some ⟨oc15, od15, .func (PySem.W.fnOf "is_log" "is_log" (defArgs t15) (defBody t15) (defScope t15) .none kV15 dc15 pm15 an15 cd15 ct15), sl15⟩) (c15' : PySem.W.codeIn K cd15 "is_log" = true) (k15' : PySem.W.keepIn K (.ref a15) = true)
    (a16' : PySem.W.nsIn K mainGlobals "open_calls" = some (some (.ref a16))) (l16' : K.lookup a16 = some ⟨oc16, od16, .func (PySem.W.fnOf "open_calls" "open_calls" (defArgs t16) (defBody t16) (defScope t16) .none kV16 dc16 pm16 an16 cd16 ct16), sl16⟩) (c16' : PySem.W.codeIn K cd16 "open_calls" = true) (k16' : PySem.W.keepIn K (.ref a16) = true)
    (a17' : PySem.W.nsIn K mainGlobals "_law_urn" = some (some (.ref a17))) (l17' : K.lookup a17 = some ⟨oc17, od17, .func (PySem.W.fnOf "_law_urn" "_law_urn" (defArgs t17) (defBody t17) (defScope t17) .none kV17 dc17 pm17 an17 cd17 ct17), sl17⟩) (c17' : PySem.W.codeIn K cd17 "_law_urn" = true) (k17' : PySem.W.keepIn K (.ref a17) = true)
    (a18' : PySem.W.nsIn K mainGlobals "_law_take" = some (some (.ref a18))) (l18' : K.lookup a18 = some ⟨oc18, od18, .func (PySem.W.fnOf "_law_take" "_law_take" (defArgs t18) (defBody t18) (defScope t18) .none kV18 dc18 pm18 an18 cd18 ct18), sl18⟩) (c18' : PySem.W.codeIn K cd18 "_law_take" = true) (k18' : PySem.W.keepIn K (.ref a18) = true)
    (a19' : PySem.W.nsIn K mainGlobals "_law_one" = some (some (.ref a19))) (l19' : K.lookup a19 = some ⟨oc19, od19, .func (PySem.W.fnOf "_law_one" "_law_one" (defArgs t19) (defBody t19) (defScope t19) .none kV19 dc19 pm19 an19 cd19 ct19), sl19⟩) (c19' : PySem.W.codeIn K cd19 "_law_one" = true) (k19' : PySem.W.keepIn K (.ref a19) = true)
    (a21' : PySem.W.nsIn K mainGlobals "_law_name" = some (some (.ref a21))) (l21' : K.lookup a21 = some ⟨oc21, od21, .func (PySem.W.fnOf "_law_name" "_law_name" (defArgs t21) (defBody t21) (defScope t21) .none kV21 dc21 pm21 an21 cd21 ct21), sl21⟩) (c21' : PySem.W.codeIn K cd21 "_law_name" = true) (k21' : PySem.W.keepIn K (.ref a21) = true)
    (a22' : PySem.W.nsIn K mainGlobals "_law_names" = some (some (.ref a22))) (l22' : K.lookup a22 = some ⟨oc22, od22, .func (PySem.W.fnOf "_law_names" "_law_names" (defArgs t22) (defBody t22) (defScope t22) .none kV22 dc22 pm22 an22 cd22 ct22), sl22⟩) (c22' : PySem.W.codeIn K cd22 "_law_names" = true) (k22' : PySem.W.keepIn K (.ref a22) = true)
    (a23' : PySem.W.nsIn K mainGlobals "_law_open_in" = some (some (.ref a23))) (l23' : K.lookup a23 = some ⟨oc23, od23, .func (PySem.W.fnOf "_law_open_in" "_law_open_in" (defArgs t23) (defBody t23) (defScope t23) .none kV23 dc23 pm23 an23 cd23 ct23), sl23⟩) (c23' : PySem.W.codeIn K cd23 "_law_open_in" = true) (k23' : PySem.W.keepIn K (.ref a23) = true)
    (a24' : PySem.W.nsIn K mainGlobals "_law_log" = some (some (.ref a24))) (l24' : K.lookup a24 = some ⟨oc24, od24, .func (PySem.W.fnOf "_law_log" "_law_log" (defArgs t24) (defBody t24) (defScope t24) .none kV24 dc24 pm24 an24 cd24 ct24), sl24⟩) (c24' : PySem.W.codeIn K cd24 "_law_log" = true) (k24' : PySem.W.keepIn K (.ref a24) = true)
    (a25' : PySem.W.nsIn K mainGlobals "_law_near" = some (some (.ref a25))) (l25' : K.lookup a25 = some ⟨oc25, od25, .func (PySem.W.fnOf "_law_near" "_law_near" (defArgs t25) (defBody t25) (defScope t25) .none kV25 dc25 pm25 an25 cd25 ct25), sl25⟩) (c25' : PySem.W.codeIn K cd25 "_law_near" = true) (k25' : PySem.W.keepIn K (.ref a25) = true)
    (a26' : PySem.W.nsIn K mainGlobals "_law_refused" = some (some (.ref a26))) (l26' : K.lookup a26 = some ⟨oc26, od26, .func (PySem.W.fnOf "_law_refused" "_law_refused" (defArgs t26) (defBody t26) (defScope t26) .none kV26 dc26 pm26 an26 cd26 ct26), sl26⟩) (c26' : PySem.W.codeIn K cd26 "_law_refused" = true) (k26' : PySem.W.keepIn K (.ref a26) = true)
    (a27' : PySem.W.nsIn K mainGlobals "_law_right" = some (some (.ref a27))) (l27' : K.lookup a27 = some ⟨oc27, od27, .func (PySem.W.fnOf "_law_right" "_law_right" (defArgs t27) (defBody t27) (defScope t27) .none kV27 dc27 pm27 an27 cd27 ct27), sl27⟩) (c27' : PySem.W.codeIn K cd27 "_law_right" = true) (k27' : PySem.W.keepIn K (.ref a27) = true)
    (a28' : PySem.W.nsIn K mainGlobals "law" = some (some (.ref a28))) (l28' : K.lookup a28 = some ⟨oc28, od28, .func (PySem.W.fnOf "law" "law" (defArgs t28) (defBody t28) (defScope t28) .none kV28 dc28 pm28 an28 cd28 ct28), sl28⟩) (c28' : PySem.W.codeIn K cd28 "law" = true) (k28' : PySem.W.keepIn K (.ref a28) = true)
    (g0' : PySem.W.nsIn K mainGlobals "TOP" = some (some (.int 10000000000000000000000000000000000000000 u0)))
    (g1' : PySem.W.nsIn K mainGlobals "MAX_LETTERS" = some (some (.int 8 u1)))
    (g2' : PySem.W.nsIn K mainGlobals "LETTERS" = some (some (.str (Str.ofString "abcdefghijklmnopqrstuvwxyz") u2)))
    (g3' : PySem.W.nsIn K mainGlobals "MAX_SIZE" = some (some (.int 4 u3)))
    (z0' : PySem.W.nsIn K mainGlobals "len" = some none)
    (z1' : PySem.W.nsIn K mainGlobals "int" = some none)
    (z2' : PySem.W.nsIn K mainGlobals "abs" = some none)
    (z3' : PySem.W.nsIn K mainGlobals "max" = some none)
    (z4' : PySem.W.nsIn K mainGlobals "min" = some none)
    (z5' : PySem.W.nsIn K mainGlobals "all" = some none)
    (z6' : PySem.W.nsIn K mainGlobals "any" = some none)
    (z7' : PySem.W.nsIn K mainGlobals "sorted" = some none)
    (z8' : PySem.W.nsIn K mainGlobals "list" = some none)
    (z9' : PySem.W.nsIn K mainGlobals "tuple" = some none)
    (z10' : PySem.W.nsIn K mainGlobals "str" = some none)
    (z11' : PySem.W.nsIn K mainGlobals "repr" = some none)
    (z12' : PySem.W.nsIn K mainGlobals "bool" = some none)
    (z13' : PySem.W.nsIn K mainGlobals "sum" = some none)
    (z14' : PySem.W.nsIn K mainGlobals "set" = some none)
    (z15' : PySem.W.nsIn K mainGlobals "dict" = some none)
    (z16' : PySem.W.nsIn K mainGlobals "range" = some none)
    (z17' : PySem.W.nsIn K mainGlobals "zip" = some none)
    (z18' : PySem.W.nsIn K mainGlobals "enumerate" = some none)
    (z19' : PySem.W.nsIn K mainGlobals "isinstance" = some none)
    {C0 : Addr} (y0' : PySem.W.nsIn K mainGlobals "InvalidLog" = some (some (.ref C0))) (yk0' : PySem.W.keepIn K (.ref C0) = true) (ys0' : PySem.W.subIn K (.ref C0) (.type "BaseException") = some true) (yt0' : PySem.W.typeIn K (.ref C0) = some (.type "type")) (yi0' : PySem.W.isClsIn K C0 = true)
    {yb0 : List Value} {yn0 : String} (yf0 : ∃ n2, ExcBaseFacts "ValueError" yn0 n2 yb0) (yx0' : PySem.W.excIn K C0 yb0 yn0 = true)
    (ye0_0' : PySem.W.subIn K (.ref C0) (.ref C0) = some true)
    : Fits tb ⟨K, fun i => ([(0, C0)] : List (Nat × Addr)).lookup i⟩ mg := by
  refine ⟨fun f e hf => ?_, fun g x d hg => ?_, fun x hx => ?_, fun c x hc => ?_, fun c C hr hc => ?_, fun c d b C D he hc hd => ?_⟩
  · refine look_all (P := fun f e => ∃ a fd st, mg e.name = some (.ref a) ∧ Fun K e.name e.name st a fd ∧ Binds K fd e.ps [] ∧ FnScope e.N e.ps (defScope st) ∧ chSs tb e.N (defScope st) e.body (defBody st) = true) (l := fns) ?_ hf
    refine .cons ?_ ?_
    · have F := fun_mk (K := K) (st := t10) l10' c10' k10'
      exact ⟨_, _, t10, PySem.W.mg_of X G a10', F, F.binds (ps := f10.ps) (fun _ _ _ _ _ _ us hl => match us, hl with | [_], _ => rfl), sc10, ch10⟩
    refine .cons ?_ ?_
    · have F := fun_mk (K := K) (st := t11) l11' c11' k11'
      exact ⟨_, _, t11, PySem.W.mg_of X G a11', F, F.binds (ps := f11.ps) (fun _ _ _ _ _ _ us hl => match us, hl with | [_, _], _ => rfl), sc11, ch11⟩
    refine .cons ?_ ?_
    · have F := fun_mk (K := K) (st := t12) l12' c12' k12'
      exact ⟨_, _, t12, PySem.W.mg_of X G a12', F, F.binds (ps := f12.ps) (fun _ _ _ _ _ _ us hl => match us, hl with | [_], _ => rfl), sc12, ch12⟩
    refine .cons ?_ ?_
    · have F := fun_mk (K := K) (st := t13) l13' c13' k13'
      exact ⟨_, _, t13, PySem.W.mg_of X G a13', F, F.binds (ps := f13.ps) (fun _ _ _ _ _ _ us hl => match us, hl with | [_], _ => rfl), sc13, ch13⟩
    refine .cons ?_ ?_
    · have F := fun_mk (K := K) (st := t14) l14' c14' k14'
      exact ⟨_, _, t14, PySem.W.mg_of X G a14', F, F.binds (ps := f14.ps) (fun _ _ _ _ _ _ us hl => match us, hl with | [_], _ => rfl), sc14, ch14⟩
    refine .cons ?_ ?_
    · have F := fun_mk (K := K) (st := t15) l15' c15' k15'
      exact ⟨_, _, t15, PySem.W.mg_of X G a15', F, F.binds (ps := f15.ps) (fun _ _ _ _ _ _ us hl => match us, hl with | [_], _ => rfl), sc15, ch15⟩
    refine .cons ?_ ?_
    · have F := fun_mk (K := K) (st := t16) l16' c16' k16'
      exact ⟨_, _, t16, PySem.W.mg_of X G a16', F, F.binds (ps := f16.ps) (fun _ _ _ _ _ _ us hl => match us, hl with | [_], _ => rfl), sc16, ch16⟩
    refine .cons ?_ ?_
    · have F := fun_mk (K := K) (st := t17) l17' c17' k17'
      exact ⟨_, _, t17, PySem.W.mg_of X G a17', F, F.binds (ps := f17.ps) (fun _ _ _ _ _ _ us hl => match us, hl with | [_, _], _ => rfl), sc17, ch17⟩
    refine .cons ?_ ?_
    · have F := fun_mk (K := K) (st := t18) l18' c18' k18'
      exact ⟨_, _, t18, PySem.W.mg_of X G a18', F, F.binds (ps := f18.ps) (fun _ _ _ _ _ _ us hl => match us, hl with | [_, _], _ => rfl), sc18, ch18⟩
    refine .cons ?_ ?_
    · have F := fun_mk (K := K) (st := t19) l19' c19' k19'
      exact ⟨_, _, t19, PySem.W.mg_of X G a19', F, F.binds (ps := f19.ps) (fun _ _ _ _ _ _ us hl => match us, hl with | [_, _], _ => rfl), sc19, ch19⟩
    refine .cons ?_ ?_
    · have F := fun_mk (K := K) (st := t21) l21' c21' k21'
      exact ⟨_, _, t21, PySem.W.mg_of X G a21', F, F.binds (ps := f21.ps) (fun _ _ _ _ _ _ us hl => match us, hl with | [_], _ => rfl), sc21, ch21⟩
    refine .cons ?_ ?_
    · have F := fun_mk (K := K) (st := t22) l22' c22' k22'
      exact ⟨_, _, t22, PySem.W.mg_of X G a22', F, F.binds (ps := f22.ps) (fun _ _ _ _ _ _ us hl => match us, hl with | [_, _], _ => rfl), sc22, ch22⟩
    refine .cons ?_ ?_
    · have F := fun_mk (K := K) (st := t23) l23' c23' k23'
      exact ⟨_, _, t23, PySem.W.mg_of X G a23', F, F.binds (ps := f23.ps) (fun _ _ _ _ _ _ us hl => match us, hl with | [_], _ => rfl), sc23, ch23⟩
    refine .cons ?_ ?_
    · have F := fun_mk (K := K) (st := t24) l24' c24' k24'
      exact ⟨_, _, t24, PySem.W.mg_of X G a24', F, F.binds (ps := f24.ps) (fun _ _ _ _ _ _ us hl => match us, hl with | [_], _ => rfl), sc24, ch24⟩
    refine .cons ?_ ?_
    · have F := fun_mk (K := K) (st := t25) l25' c25' k25'
      exact ⟨_, _, t25, PySem.W.mg_of X G a25', F, F.binds (ps := f25.ps) (fun _ _ _ _ _ _ us hl => match us, hl with | [_, _], _ => rfl), sc25, ch25⟩
    refine .cons ?_ ?_
    · have F := fun_mk (K := K) (st := t26) l26' c26' k26'
      exact ⟨_, _, t26, PySem.W.mg_of X G a26', F, F.binds (ps := f26.ps) (fun _ _ _ _ _ _ us hl => match us, hl with | [_], _ => rfl), sc26, ch26⟩
    refine .cons ?_ ?_
    · have F := fun_mk (K := K) (st := t27) l27' c27' k27'
      exact ⟨_, _, t27, PySem.W.mg_of X G a27', F, F.binds (ps := f27.ps) (fun _ _ _ _ _ _ us hl => match us, hl with | [_], _ => rfl), sc27, ch27⟩
    refine .cons ?_ ?_
    · have F := fun_mk (K := K) (st := t28) l28' c28' k28'
      exact ⟨_, _, t28, PySem.W.mg_of X G a28', F, F.binds (ps := f28.ps) (fun _ _ _ _ _ _ us hl => match us, hl with | [_], _ => rfl), sc28, ch28⟩
    exact .nil
  · refine look_all (P := fun g p => ∃ u v, mg p.1 = some u ∧ RelV v u ∧ Rp _ (fun _ => none) [] v p.2) (l := gls) ?_ hg
    refine .cons ⟨_, .int _, PySem.W.mg_of X G g0', ⟨_, rfl⟩, .int _⟩ ?_
    refine .cons ⟨_, .int _, PySem.W.mg_of X G g1', ⟨_, rfl⟩, .int _⟩ ?_
    refine .cons ⟨_, .str _, PySem.W.mg_of X G g2', ⟨_, rfl⟩, .str _⟩ ?_
    refine .cons ⟨_, .int _, PySem.W.mg_of X G g3', ⟨_, rfl⟩, .int _⟩ ?_
    exact .nil
  · simp only [bnames, List.mem_cons, List.not_mem_nil, or_false] at hx
    rcases hx with rfl | rfl | rfl | rfl | rfl | rfl | rfl | rfl | rfl | rfl | rfl | rfl | rfl | rfl | rfl | rfl | rfl | rfl | rfl | rfl
    · exact PySem.W.mg_none_of X G z0'
    · exact PySem.W.mg_none_of X G z1'
    · exact PySem.W.mg_none_of X G z2'
    · exact PySem.W.mg_none_of X G z3'
    · exact PySem.W.mg_none_of X G z4'
    · exact PySem.W.mg_none_of X G z5'
    · exact PySem.W.mg_none_of X G z6'
    · exact PySem.W.mg_none_of X G z7'
    · exact PySem.W.mg_none_of X G z8'
    · exact PySem.W.mg_none_of X G z9'
    · exact PySem.W.mg_none_of X G z10'
    · exact PySem.W.mg_none_of X G z11'
    · exact PySem.W.mg_none_of X G z12'
    · exact PySem.W.mg_none_of X G z13'
    · exact PySem.W.mg_none_of X G z14'
    · exact PySem.W.mg_none_of X G z15'
    · exact PySem.W.mg_none_of X G z16'
    · exact PySem.W.mg_none_of X G z17'
    · exact PySem.W.mg_none_of X G z18'
    · exact PySem.W.mg_none_of X G z19'
  · refine look_all (P := fun c x => ∃ C, ([(0, C0)] : List (Nat × Addr)).lookup c = some C ∧ mg x = some (.ref C) ∧ PySem.W.keepIn K (.ref C) = true ∧ PySem.W.subIn K (.ref C) (.type "BaseException") = some true ∧ PySem.W.typeIn K (.ref C) = some (.type "type")) (l := cls) ?_ hc
    refine .cons ⟨C0, rfl, PySem.W.mg_of X G y0', yk0', ys0', yt0'⟩ ?_
    exact .nil
  · obtain ⟨q, hq⟩ := Option.isSome_iff_exists.mp hr
    refine look_all (P := fun c _ => ∀ C, ([(0, C0)] : List (Nat × Addr)).lookup c = some C → ∃ B newId initId bmB, ExcBaseFacts B newId initId bmB ∧ PySem.W.excIn K C bmB newId = true) (l := raws) ?_ hq C hc
    refine .cons (fun C hc => ?_) ?_
    · cases hc; obtain ⟨n2, f⟩ := yf0; exact ⟨_, _, n2, _, f, yx0'⟩
    exact .nil
  · refine look_all (P := fun c b => ∀ C D, ([(0, C0)] : List (Nat × Addr)).lookup c.1 = some C → ([(0, C0)] : List (Nat × Addr)).lookup c.2 = some D → PySem.W.exmOne K (.ref C) (.ref D) = some b) (l := exs) ?_ he C D hc hd
    refine .cons (fun C D hc hd => by cases hc; cases hd; exact exm_of ys0' yi0' yt0' ye0_0') ?_
    exact .nil
end L2.Dv.K02
namespace L2.Dv.K02
open PySem PySem.Spec PyProof.Rows L2.Dv.P
/-! ### the law's own look at the open calls -/
section
variable {T : Tb} [HF T 10 f10] [HF T 11 f11] [HF T 12 f12] [HF T 13 f13] [HF T 14 f14] [HF T 15 f15] [HF T 16 f16] [HF T 17 f17] [HF T 18 f18] [HF T 19 f19] [HF T 21 f21] [HF T 22 f22] [HF T 23 f23] [HF T 24 f24] [HF T 25 f25] [HF T 26 f26] [HF T 27 f27] [HF T 28 f28] [HG T 0 (.int 10000000000000000000000000000000000000000)] [HG T 1 (.int 8)] [HG T 2 (.str (Str.ofString "abcdefghijklmnopqrstuvwxyz"))] [HG T 3 (.int 4)] [HR T 0] [HX T 0 0 true]
variable {k n : Nat} {M M0 : Mem} {d : Dv.D}
def tgS (d : Dv.D) : Str := match d with
  | .tup (.str a :: _) => a
  | _ => Str.empty
def ent (ls : List Dv.D) (s : Nat) : Bool := match ls[s]? with
  | some l => decide (tgS l = sEnter)
  | none => false
def arg (ls : List Dv.D) (s : Nat) : Str := match ls[s]? with
  | some l => argS l
  | none => Str.empty
/-- the places of calls that are open, where some have been left -/
def opn (ls : List Dv.D) (i : Nat) (stock : List Nat) : List Nat := (List.range i).filter fun s => ent ls s && !decide (s ∈ stock)
theorem sub_line {ls : List Dv.D} {s : Nat} {l : Dv.D} (h : ls[s]? = some l) : subD M (.tup ls) (.int s) = some l := by
  rw [sub_tup, at_natN, h]
theorem tag_line {l : Dv.D} (h : lineD l = true) : subD M l (.int 0) = some (.str (tgS l)) ∧ subD M l (.int 1) = some (.str (argS l)) := by
  obtain ⟨a, b, r, rfl, _, _⟩ := line_form h
  simp [tgS, argS]
abbrev dns (l : List Nat) : List Dv.D := l.map fun (i : Nat) => Dv.D.int (i : Int)
theorem nat_ints (l : List Nat) : dns l = (l.map fun (i : Nat) => (i : Int)).map Dv.D.int := by simp
theorem notin_nat {M : Mem} {d : Dv.D} {s : Nat} {l : List Nat} (h : seqD M d = some (dns l)) : cmpD M .NotIn (.int s) d = some (!decide (s ∈ l)) := by
  rw [nat_ints] at h
  rw [notin_ints h]
  have e : ((s : Int) ∈ l.map fun (i : Nat) => (i : Int)) ↔ s ∈ l := by
    rw [List.mem_map]
    exact ⟨fun ⟨a, h1, h2⟩ => by rw [← (Int.ofNat_inj.mp h2)]; exact h1, fun h => ⟨s, h, rfl⟩⟩
  simp only [e]
theorem d23_eq : d23_2 = d23_1 := rfl
theorem opened_ok {ls : List Dv.D} {stock : List Nat} {i : Nat} {Φ : Calls} {elt : E} {f : Nat → Dv.D} (hl : ∀ l ∈ ls, lineD l = true) (hi : i ≤ ls.length) (hs : seqD M (.loc n) = some (dns stock)) (hsz : i ≤ 1000000)
    {a1 a3 a4 a5 : Option Dv.D} (he : ∀ (s : Nat) (l : Dv.D), ls[s]? = some l → ev Φ T elt [some (.tup ls), a1, some (.loc n), a3, a4, some (.int s)] M = .ok (f s) M) :
    foldC (lcF Φ T elt (.nm 5) d23_1 [5] [some (.tup ls), a1, some (.loc n), a3, a4, a5]) (dns (List.range i)) [] M = .ok ((opn ls i stock).map f) M := by
  rw [foldC_pure (g := fun d => match d with | .int s => (if ent ls s.toNat && !decide (s.toNat ∈ stock) then some (f s.toNat) else none) | _ => none) (fun y hy => ?_) (by simp; exact sl (by omega))]
  · rw [List.nil_append, List.filterMap_map]
    congr 1
    unfold opn
    induction List.range i with
    | nil => rfl
    | cons s r ih =>
      rw [List.filterMap_cons, List.filter_cons, ih]
      simp only [Function.comp_apply, Int.toNat_natCast]
      cases h : (ent ls s && !decide (s ∈ stock)) <;> simp only [if_true, Bool.false_eq_true, if_false, List.map_cons]
  · obtain ⟨s, hs', rfl⟩ := List.mem_map.mp hy
    have hs2 : s < ls.length := by have := List.mem_range.mp hs'; omega
    have e1 : ls[s]? = some ls[s] := List.getElem?_eq_getElem hs2
    have hll := hl ls[s] (List.getElem_mem hs2)
    have t := (tag_line (M := M) hll).1
    have e2 : ent ls s = decide (tgS ls[s] = sEnter) := by unfold ent; rw [e1]
    have ni := notin_nat (s := s) hs
    have sl1 := sub_line (M := M) e1
    have e3 := he s _ e1
    cases h1 : decide (tgS ls[s] = sEnter) <;> cases h2 : decide (s ∈ stock) <;> simp only [h1] at e2 <;> simp only [decide_eq_true_eq, decide_eq_false_iff_not] at h1 h2 <;>
      simp only [lcF, d23_1, put_nm, wipe_cons, wipe_nil, List.set_cons_succ, List.set_cons_zero, evF_one, tst_boo, evTs_cons, evTs_one, tst_cmp, ev_sub, ev_var, List.getElem?_cons_succ, List.getElem?_cons_zero, R.bnd_ok, sl1, R.of_some, ev_cst, cst_int, t, cst_str, cmp_eq, eq_str, h1, decide_true, decide_false, ni, h2, Bool.not_true, Bool.not_false, if_true, Bool.false_eq_true, if_false, e3, e2, Int.toNat_natCast, Bool.true_and, Bool.false_and]
theorem opn_succ {ls : List Dv.D} {i : Nat} {stock : List Nat} : opn ls (i + 1) stock = opn ls i stock ++ (if ent ls i && !decide (i ∈ stock) then [i] else []) := by
  unfold opn
  rw [List.range_succ, List.filter_append]
  congr 1
  rw [List.filter_cons]
  simp
theorem opn_leave {ls : List Dv.D} {i m : Nat} {stock L : List Nat} (h : opn ls i stock = L ++ [m]) : opn ls i (stock ++ [m]) = L := by
  have e : opn ls i (stock ++ [m]) = (opn ls i stock).filter fun s => !decide (s = m) := by
    unfold opn
    rw [List.filter_filter]
    apply List.filter_congr
    intro s _
    by_cases h1 : s ∈ stock <;> by_cases h2 : s = m <;> simp [h1, h2]
  have nd : (L ++ [m]).Nodup := by
    rw [← h]
    exact List.nodup_range.sublist List.filter_sublist
  rw [e, h, List.filter_append]
  have h1 : L.filter (fun s => !decide (s = m)) = L := List.filter_eq_self.mpr fun s hs => by
    have := (List.nodup_append.mp nd).2.2 s hs m (by simp)
    simp [this]
  rw [h1]
  simp
theorem opn_lt {ls : List Dv.D} {i m : Nat} {stock : List Nat} (h : m ∈ opn ls i stock) : m < i := by
  unfold opn at h
  exact List.mem_range.mp (List.mem_filter.mp h).1
theorem open_turn {ls : List Dv.D} {i : Nat} {stock : List Nat} {l : Dv.D} (hl : ∀ l ∈ ls, lineD l = true) (hi : ls[i]? = some l) (hsz : ls.length ≤ 100000) (hst : ∀ m ∈ stock, m < i) (hsl : stock.length ≤ 100000) {Φ : Calls} {a1 a3 a4 a5 : Option Dv.D} :
    (∀ st', cstep i ((opn ls i stock).map (arg ls)) l = some st' → ∃ (stock' : List Nat) (a4' : Option Dv.D), frF Φ T (.nm 3) b23_0 (.int i) [some (.tup ls), a1, some (.loc M.length), a3, a4, a5] (M ++ [some (.lst (dns stock))]) = .nx [some (.tup ls), a1, some (.loc M.length), some (.int i), a4', a5] (M ++ [some (.lst (dns stock'))]) ∧ st' = (opn ls (i + 1) stock').map (arg ls) ∧ (∀ m ∈ stock', m < i + 1) ∧ stock'.length ≤ stock.length + 1) ∧
    (cstep i ((opn ls i stock).map (arg ls)) l = none → ∃ X, frF Φ T (.nm 3) b23_0 (.int i) [some (.tup ls), a1, some (.loc M.length), a3, a4, a5] (M ++ [some (.lst (dns stock))]) = .rt .non (M ++ [X])) := by
  have hil : i < ls.length := (List.getElem?_eq_some_iff.mp hi).1
  have hll : lineD l = true := hl l (List.mem_of_getElem? hi)
  obtain ⟨x, y, r, hlf, hy, hx⟩ := line_form hll
  have op := opened_ok (T := T) (M := M ++ [some (.lst (dns stock))]) (n := M.length) (ls := ls) (stock := stock) (i := i) (Φ := Φ) (elt := c23_1) (f := fun s => .int s) (a1 := a1) (a3 := some (.int i)) (a4 := a4) (a5 := a5) hl (by omega) (seq_loc mem_0) (by omega) (fun s l _ => by simp [c23_1])
  have sl0 := fun N => sub_line (M := N) hi
  have tg := fun N => (tag_line (M := N) hll).1
  have ag := fun N => (tag_line (M := N) hll).2
  have tx : tgS l = x := by rw [hlf]; rfl
  have ay : argS l = y := by rw [hlf]; rfl
  rw [tx] at tg
  rw [ay] at ag
  have hon : (opn ls i stock).length ≤ 100000 := by
    have := List.length_filter_le (fun s => ent ls s && !decide (s ∈ stock)) (List.range i)
    unfold opn
    rw [List.length_range] at this
    omega
  have hpl : D.pls (dns (opn ls i stock)) = true := pls_of fun z hz => by
    obtain ⟨m, hm, rfl⟩ := List.mem_map.mp hz
    have := opn_lt hm
    simp only [D.pl, decide_eq_true_eq, Int.natAbs_natCast]
    exact Nat.lt_of_lt_of_le (by omega : m < 100000) (by decide)
  have hhd : D.hDs (dns (opn ls i stock)) = false := hDs_of fun z hz => by
    obtain ⟨m, hm, rfl⟩ := List.mem_map.mp hz
    rfl
  have enil := fun N => eq_lst_nil (M := N) hpl hhd
  have st1 : ∀ N, xs Φ T b23_0 [some (.tup ls), a1, some (.loc M.length), some (.int i), a4, a5] (M ++ [some (.lst (dns stock))]) = N → frF Φ T (.nm 3) b23_0 (.int i) [some (.tup ls), a1, some (.loc M.length), a3, a4, a5] (M ++ [some (.lst (dns stock))]) = N := fun N h => by rw [fr_nm]; exact h
  have cs : cstep i ((opn ls i stock).map (arg ls)) l = if (opn ls i stock).map (arg ls) = [] ∧ (0 < i ∨ decide (x = sEnter) = false) then none else if decide (x = sEnter) = true then some ((opn ls i stock).map (arg ls) ++ [y]) else if decide (x = sLeave) = true then (if ((opn ls i stock).map (arg ls)).getLast? = some y then some ((opn ls i stock).map (arg ls)).dropLast else none) else some ((opn ls i stock).map (arg ls)) := by
    unfold cstep
    rw [hll, if_pos rfl, ay, hlf]
    rfl
  rw [cs]
  have entI : ent ls i = decide (x = sEnter) := by unfold ent; rw [hi]; simp only [tx]
  have argI : arg ls i = y := by unfold arg; rw [hi]; exact ay
  have niI : decide (i ∈ stock) = false := by
    rw [decide_eq_false_iff_not]
    exact fun z => Nat.lt_irrefl _ (hst i z)
  simp only [List.map_eq_nil_iff]
  -- the first two statements
  have pre : xs Φ T b23_0 [some (.tup ls), a1, some (.loc M.length), some (.int i), a4, a5] (M ++ [some (.lst (dns stock))]) =
      if opn ls i stock = [] ∧ (0 < i ∨ x ≠ sEnter) then .rt .non (M ++ [some (.lst (dns stock))]) else
      xs Φ T [.ite (.cmp (.sub (.sub (.var 0) (.var 3)) (.cst (.int 0))) .Eq (.cst (.str (Str.ofString "leave")))) [.ite (.cmp (.sub (.sub (.var 0) (.sub (.var 4) (.neg (.cst (.int 1))))) (.cst (.int 1))) .NotEq (.sub (.sub (.var 0) (.var 3)) (.cst (.int 1)))) [.ret (.cst .none)] [], .exp (.mth .append (.var 2) [.sub (.var 4) (.neg (.cst (.int 1)))])] []]
        [some (.tup ls), a1, some (.loc M.length), some (.int i), some (.lst (dns (opn ls i stock))), a5] (M ++ [some (.lst (dns stock))]) := by
    unfold b23_0
    rw [xs_cons, xc_set]
    simp only [ev_lc, wlk_rng1, ev_var, List.getElem?_cons_succ, List.getElem?_cons_zero, R.bnd_ok, rng1_ok (by omega : i ≤ 1000000000), op]
    rw [mkL_true (by rw [List.length_map]; omega)]
    simp only [R.st_ok, put_nm, List.set_cons_succ, List.set_cons_zero]
    rw [xs_cons, xc_ite]
    by_cases c1 : opn ls i stock = []
    · by_cases c2 : 0 < i
      · simp [enil, c1, c2]
      · by_cases c3 : x = sEnter <;> simp [enil, c1, c2, sl0, tg, c3]
    · have : (dns (opn ls i stock)).isEmpty = false := by simp [c1]
      simp [enil, this, c1]
  by_cases c1 : opn ls i stock = [] ∧ (0 < i ∨ x ≠ sEnter)
  · have c1' : opn ls i stock = [] ∧ (0 < i ∨ decide (x = sEnter) = false) := by simpa using c1
    rw [if_pos c1']
    refine ⟨(fun _ z => by cases z), fun _ => ⟨_, st1 _ (by rw [pre, if_pos c1])⟩⟩
  · have c1' : ¬ (opn ls i stock = [] ∧ (0 < i ∨ decide (x = sEnter) = false)) := by simpa using c1
    rw [if_neg c1']
    rw [if_neg c1] at pre
    by_cases c2 : x = sEnter
    · rw [if_pos (by simpa using c2)]
      refine ⟨fun st' z => ⟨stock, some (.lst (dns (opn ls i stock))), st1 _ (by rw [pre]; simp [sl0, tg, c2, tags_ne.1]), ?_, fun m hm => Nat.lt_succ_of_lt (hst m hm), by omega⟩, fun z => by cases z⟩
      cases z
      rw [opn_succ, entI, niI]
      simp [c2, argI]
    · rw [if_neg (by simpa using c2)]
      by_cases c3 : x = sLeave
      · rw [if_pos (by simpa using c3)]
        rcases List.eq_nil_or_concat (opn ls i stock) with h0 | ⟨L, m, h0⟩
        · exact absurd ⟨h0, .inr c2⟩ c1
        · rw [List.concat_eq_append] at h0
          have hm : m < i := opn_lt (ls := ls) (stock := stock) (by rw [h0]; simp)
          have em : ls[m]? = some ls[m] := List.getElem?_eq_getElem (by omega)
          have sl2 := fun N => sub_line (M := N) em
          have ag2 := fun N => (tag_line (M := N) (hl ls[m] (List.getElem_mem _))).2
          have argM : arg ls m = argS ls[m] := by unfold arg; rw [em]
          have last : ∀ N, subD N (.lst (dns (L ++ [m]))) (.int (-1)) = some (.int m) := fun N => by simp [dns]
          rw [h0] at pre
          rw [h0]
          by_cases c4 : argS ls[m] = y
          · have ap := app_loc (M := M ++ [some (.lst (dns stock))]) (n := M.length) (l := dns stock) (d := .int m) mem_0 (by rw [List.length_map]; omega)
            have rc := rcv_app (M := M ++ [some (.lst (dns stock))]) (n := M.length) (l := dns stock) mem_0
            rw [if_pos (by simp [argM, c4])]
            refine ⟨fun st' z => ⟨stock ++ [m], some (.lst (dns (L ++ [m]))), st1 _ ?_, ?_, fun q hq => ?_, by simp⟩, fun z => by cases z⟩
            · rw [pre]
              simp only [xs_cons, xs_nil, xc_ite, tst_cmp, ev_sub, ev_var, List.getElem?_cons_succ, List.getElem?_cons_zero, R.bnd_ok, sl0, R.of_some, ev_cst, cst_int, tg, cst_str, cmp_eq, eq_str, c3, decide_true, R.st_ok, if_true, ev_neg, last, sl2, ag2, ag, cmp_ne, ne_str, c4, Bool.not_true, Bool.false_eq_true, if_false, xc_exp, ev_mth, rc, evs_cons, evs_nil, ap, set_0]
              simp [dns]
            · cases z
              rw [opn_succ, entI, opn_leave h0]
              simp [c2]
            · rcases List.mem_append.mp hq with hq | hq
              · exact Nat.lt_succ_of_lt (hst q hq)
              · rw [List.mem_singleton.mp hq]; omega
          · rw [if_neg (by simp [argM, c4])]
            refine ⟨(fun st' z => by cases z), fun _ => ⟨some (.lst (dns stock)), st1 _ ?_⟩⟩
            rw [pre]
            simp only [xs_cons, xs_nil, xc_ite, tst_cmp, ev_sub, ev_var, List.getElem?_cons_succ, List.getElem?_cons_zero, R.bnd_ok, sl0, R.of_some, ev_cst, cst_int, tg, cst_str, cmp_eq, eq_str, c3, decide_true, R.st_ok, if_true, ev_neg, last, sl2, ag2, ag, cmp_ne, ne_str, c4, decide_false, Bool.not_false, xc_ret, cst_none]
      · rw [if_neg (by simpa using c3)]
        refine ⟨fun st' z => ⟨stock, some (.lst (dns (opn ls i stock))), st1 _ (by rw [pre]; simp [sl0, tg, c3]), ?_, fun m hm => Nat.lt_succ_of_lt (hst m hm), by omega⟩, fun z => by cases z⟩
        cases z
        rw [opn_succ, entI]
        simp [c2]
end
end L2.Dv.K02
namespace L2.Dv.K02
open PySem PySem.Spec PyProof.Rows L2.Dv.P
section
variable {T : Tb} [HF T 10 f10] [HF T 11 f11] [HF T 12 f12] [HF T 13 f13] [HF T 14 f14] [HF T 15 f15] [HF T 16 f16] [HF T 17 f17] [HF T 18 f18] [HF T 19 f19] [HF T 21 f21] [HF T 22 f22] [HF T 23 f23] [HF T 24 f24] [HF T 25 f25] [HF T 26 f26] [HF T 27 f27] [HF T 28 f28] [HG T 0 (.int 10000000000000000000000000000000000000000)] [HG T 1 (.int 8)] [HG T 2 (.str (Str.ofString "abcdefghijklmnopqrstuvwxyz"))] [HG T 3 (.int 4)] [HR T 0] [HX T 0 0 true]
variable {k n : Nat} {M M0 : Mem} {d : Dv.D}
theorem drop_cons {ls : List Dv.D} {i : Nat} (h : i < ls.length) : ls.drop i = ls[i] :: ls.drop (i + 1) := List.drop_eq_getElem_cons h
theorem open_loop {ls : List Dv.D} (hl : ∀ l ∈ ls, lineD l = true) (hsz : ls.length ≤ 50000) {Φ : Calls} {a1 a5 : Option Dv.D} : ∀ (m i : Nat) (stock : List Nat) (a3 a4 : Option Dv.D), i + m = ls.length → (∀ q ∈ stock, q < i) → stock.length ≤ i →
    (∀ st', cwalk i ((opn ls i stock).map (arg ls)) (ls.drop i) = some st' → ∃ (stock' : List Nat) (a3' a4' : Option Dv.D), loopF (frF Φ T (.nm 3) b23_0) (dns (List.range' i m)) [some (.tup ls), a1, some (.loc M.length), a3, a4, a5] (M ++ [some (.lst (dns stock))]) = .nx [some (.tup ls), a1, some (.loc M.length), a3', a4', a5] (M ++ [some (.lst (dns stock'))]) ∧ st' = (opn ls ls.length stock').map (arg ls)) ∧
    (cwalk i ((opn ls i stock).map (arg ls)) (ls.drop i) = none → ∃ X, loopF (frF Φ T (.nm 3) b23_0) (dns (List.range' i m)) [some (.tup ls), a1, some (.loc M.length), a3, a4, a5] (M ++ [some (.lst (dns stock))]) = .rt .non (M ++ [X]))
  | 0, i, stock, a3, a4, hm, hs, hs2 => by
    have e : i = ls.length := by omega
    subst e
    rw [List.drop_length]
    exact ⟨fun st' z => ⟨stock, a3, a4, rfl, by cases z; rfl⟩, fun z => by cases z⟩
  | m + 1, i, stock, a3, a4, hm, hs, hs2 => by
    have hi : i < ls.length := by omega
    rw [drop_cons hi]
    obtain ⟨t1, t2⟩ := open_turn (T := T) (M := M) (Φ := Φ) (a1 := a1) (a3 := a3) (a4 := a4) (a5 := a5) hl (List.getElem?_eq_getElem hi) (by omega) hs (by omega)
    simp only [cwalk, List.range'_succ, dns, List.map_cons]
    cases e : cstep i ((opn ls i stock).map (arg ls)) ls[i] with
    | none =>
      obtain ⟨X, q⟩ := t2 e
      refine ⟨(fun st' z => by cases z), fun _ => ⟨X, by simp only [loopF_cons]; rw [q]⟩⟩
    | some st1 =>
      obtain ⟨stock', a4', q, rfl, q3, q4⟩ := t1 st1 e
      obtain ⟨i1, i2⟩ := open_loop hl hsz m (i + 1) stock' (some (.int i)) a4' (by omega) q3 (by omega)
      refine ⟨fun st' z => ?_, fun z => ?_⟩
      · obtain ⟨s2, b3, b4, q5, q6⟩ := i1 st' z
        exact ⟨s2, b3, b4, by simp only [loopF_cons]; rw [q]; exact q5, q6⟩
      · obtain ⟨X, q5⟩ := i2 z
        exact ⟨X, by simp only [loopF_cons]; rw [q]; exact q5⟩
theorem walk_lines : ∀ {ls : List Dv.D} {i : Nat} {st st' : List Str}, cwalk i st ls = some st' → ∀ l ∈ ls, lineD l = true
  | x :: r, i, st, st', h, l, hl => by
    simp only [cwalk] at h
    split at h
    · rename_i st1 e
      rcases List.mem_cons.mp hl with rfl | hl
      · simp only [cstep, Option.ite_none_right_eq_some] at e
        exact e.1
      · exact walk_lines h l hl
    · cases h
/-- what the law looks at -/
structure Vq (d : Dv.D) : Prop where
  sm : sm d = true
  wt : d.wt < 7000
  dp : d.dp ≤ 60
theorem Vq.gq (h : Vq d) : Gq d := gq_of h.sm (by have := h.wt; omega)
theorem open_in_ok (h : Vq d) : Phi T (k + 4) 23 [d] M = .ok (optL (callsL d)) M := by
  have g := h.gq
  rw [phi_fn (e := f23) rfl]
  show fin false M (xs (Phi T (k + 3)) T b23 [some d, none, none, none, none, none] M) = _
  cases d with
  | tup ls =>
    have hsm := h.sm
    unfold P.sm at hsm
    simp only [Bool.and_eq_true, Bool.or_eq_true, Bool.not_eq_true', D.pl, D.hD] at hsm
    have hd : D.hDs ls = false := by rcases hsm.2 with z | z; exact z; cases z
    have hw := h.wt
    simp only [D.wt] at hw
    have hlen := wts_len ls
    have g2 := (g.ls ls rfl).2
    have ent := fun N => eq_tup_nil (M := N) hsm.1 hd
    have bad : foldC (lcF (Phi T (k + 3)) T c23_0 (.nm 1) d23_0 [1] [some (.tup ls), none, none, none, none, none]) ls [] M = .ok ((ls.filter fun l => !lineD l).map fun _ => .int 1) M := by
      rw [foldC_pure (g := fun l => if lineD l then none else some (.int 1)) (fun y hy => ?_) (by simp; exact sl (by omega))]
      · rw [List.nil_append]
        congr 1
        clear g2 hlen ent hw hd hsm g h
        induction ls with
        | nil => rfl
        | cons x r ih =>
          rw [List.filterMap_cons, List.filter_cons, ih]
          cases lineD x <;> rfl
      · have e := is_line_ok (T := T) (k := k) (M := M) (g2 y hy).kn (g2 y hy).sh
        cases hy' : lineD y <;> simp [lcF, c23_0, d23_0, e, hy']
    have bad2 : neD M (.lst ((ls.filter fun l => !lineD l).map fun _ => .int 1)) (.lst []) = some (!((ls.filter fun l => !lineD l).map fun _ => Dv.D.int 1).isEmpty) := ne_lst_nil (pls_of fun x hx => by obtain ⟨_, _, rfl⟩ := List.mem_map.mp hx; rfl) (hDs_of fun x hx => by obtain ⟨_, _, rfl⟩ := List.mem_map.mp hx; rfl)
    have hmk : mkL true ((ls.filter fun l => !lineD l).map fun _ => Dv.D.int 1) M = .ok (.lst ((ls.filter fun l => !lineD l).map fun _ => .int 1)) M := mkL_true (by have := List.length_filter_le (fun l => !lineD l) ls; rw [List.length_map]; omega)
    by_cases hnil : ls = []
    · subst hnil
      simp [b23, ent, callsL, optL, fin_rtD0 (d := Dv.D.non) rfl]
    · have hemp : ls.isEmpty = false := by simpa using hnil
      have hc : callsL (.tup ls) = cwalk 0 [] ls := by cases ls <;> first | exact absurd rfl hnil | rfl
      by_cases hall : ∀ l ∈ ls, lineD l = true
      · have hf : ls.filter (fun l => !lineD l) = [] := List.filter_eq_nil_iff.mpr fun l hl => by simp [hall l hl]
        simp only [hf, List.map_nil] at bad bad2 hmk
        obtain ⟨i1, i2⟩ := open_loop (T := T) (M := M) hall (by omega) (Φ := Phi T (k + 3)) (a1 := none) (a5 := none) ls.length 0 [] none none (by omega) (fun _ z => nomatch z) (by simp)
        have e0 : opn ls 0 [] = [] := rfl
        rw [e0, List.drop_zero] at i1 i2
        simp only [List.map_nil, dns] at i1 i2
        rw [hc]
        have pre : xs (Phi T (k + 3)) T b23 [some (.tup ls), none, none, none, none, none] M = xs (Phi T (k + 3)) T [.fr (.nm 3) (.rng [.blt .len [.var 0]]) b23_0, .ret (.lc true c23_2 (.nm 5) (.rng [.blt .len [.var 0]]) d23_2 [5])] [some (.tup ls), none, some (.loc M.length), none, none, none] (M ++ [some (.lst [])]) := by
          simp [b23, ent, hemp, bad, bad2]
        rw [pre]
        simp only [xs_cons, xc_fr, wlk_rng1, ev_blt, evs_cons, evs_nil, ev_var, List.getElem?_cons_succ, List.getElem?_cons_zero, R.bnd_ok, len_tup, rng1_ok (by omega : ls.length ≤ 1000000000), R.st_ok]
        rw [List.range_eq_range']
        cases e : cwalk 0 [] ls with
        | none =>
          obtain ⟨X, q⟩ := i2 e
          rw [q]
          exact fin_rtD rfl
        | some st =>
          obtain ⟨stock, a3, a4, q, rfl⟩ := i1 st e
          rw [q]
          have op := opened_ok (T := T) (M := M ++ [some (.lst (dns stock))]) (n := M.length) (ls := ls) (stock := stock) (i := ls.length) (Φ := Phi T (k + 3)) (elt := c23_2) (f := fun s => .str (arg ls s)) (a1 := none) (a3 := a3) (a4 := a4) (a5 := none) hall (Nat.le_refl _) (seq_loc mem_0) (by omega) (fun s l hs => by
            have sl2 := fun N => sub_line (M := N) hs
            have ag2 := fun N => (tag_line (M := N) (hall l (List.mem_of_getElem? hs))).2
            have argM : arg ls s = argS l := by unfold arg; rw [hs]
            simp [c23_2, sl2, ag2, argM])
          rw [d23_eq]
          simp only [xc_ret, ev_lc, wlk_rng1, ev_blt, evs_cons, evs_nil, ev_var, List.getElem?_cons_succ, List.getElem?_cons_zero, R.bnd_ok, len_tup, rng1_ok (by omega : ls.length ≤ 1000000000), op]
          rw [mkL_true (by
            have := List.length_filter_le (fun s => K02.ent ls s && !decide (s ∈ stock)) (List.range ls.length)
            rw [List.length_map]
            unfold opn
            rw [List.length_range] at this
            omega)]
          simp only [R.st_ok, optL, List.map_map]
          exact fin_rtD (by
            simp only [D.bel]
            have := strs_bel (n := M.length) ((opn ls ls.length stock).map (arg ls))
            rwa [List.map_map] at this)
      · have hn : callsL (.tup ls) = none := by
          rw [hc]
          cases e : cwalk 0 [] ls with
          | none => rfl
          | some st => exact absurd (walk_lines e) hall
        have hne : ((ls.filter fun l => !lineD l).map fun _ => Dv.D.int 1).isEmpty = false := by
          cases hf : ls.filter fun l => !lineD l with
          | nil =>
            exfalso
            apply hall
            intro l hl
            have := List.filter_eq_nil_iff.mp hf l hl
            simpa using this
          | cons _ _ => rfl
        rw [hn]
        simp only [hne] at bad2
        simp [b23, ent, hemp, bad, hmk, bad2, optL, fin_rtD0 (d := Dv.D.non) rfl]
  | obj _ _ _ => cases g.kn
  | loc _ => cases g.kn
  | _ => simp [b23, callsL, optL, fin_rtD0 (d := Dv.D.non) rfl]
end
end L2.Dv.K02
namespace L2.Dv.K02
open PySem PySem.Spec PyProof.Rows L2.Dv.P
section
variable {T : Tb} [HF T 10 f10] [HF T 11 f11] [HF T 12 f12] [HF T 13 f13] [HF T 14 f14] [HF T 15 f15] [HF T 16 f16] [HF T 17 f17] [HF T 18 f18] [HF T 19 f19] [HF T 21 f21] [HF T 22 f22] [HF T 23 f23] [HF T 24 f24] [HF T 25 f25] [HF T 26 f26] [HF T 27 f27] [HF T 28 f28] [HG T 0 (.int 10000000000000000000000000000000000000000)] [HG T 1 (.int 8)] [HG T 2 (.str (Str.ofString "abcdefghijklmnopqrstuvwxyz"))] [HG T 3 (.int 4)] [HR T 0] [HX T 0 0 true]
variable {k n : Nat} {M M0 : Mem} {d : Dv.D}
/-! ### a drawn log -/
/-- a line that is drawn -/
structure Ln (l : Dv.D) : Prop where
  ln : lineD l = true
  pl : l.pl = true
  hd : l.hD = false
  hl : l.hL = false
  wt : l.wt ≤ 30
  dp : l.dp ≤ 1
  ne : ∃ a b r, l = .tup (.str a :: .str b :: r) ∧ PyData.strOk a = true ∧ a.length ≤ 5
theorem tag_ok {t : Str} (h : t = sEnter ∨ t = sLeave ∨ t = sSay ∨ t = sAsk) : PyData.strOk t = true ∧ t.length ≤ 5 := by
  rcases h with rfl | rfl | rfl | rfl <;> decide +kernel
theorem ln2 {t nm : Str} (h : t = sEnter ∨ t = sLeave ∨ t = sSay) (hn : isNm nm = true) : Ln (.tup [.str t, .str nm]) := by
  have a := tag_ok (t := t) (by rcases h with h | h | h <;> simp [h])
  have b := isNm_ok hn
  refine ⟨?_, by simp [D.pl, D.pls, a.1, b.1], rfl, rfl, by simp only [D.wt, D.wts]; omega, by simp [D.dp, D.dps], _, _, _, rfl, a⟩
  simp only [lineD, isStr, nmD, hn, Bool.and_true, Bool.or_eq_true, decide_eq_true_eq]
  exact h
theorem ln3 {t nm : Str} {v : Nat} (h : t = sAsk ∨ t = sSay) (hn : isNm nm = true) (hv : v < 4) : Ln (.tup [.str t, .str nm, .int v]) := by
  have a := tag_ok (t := t) (by rcases h with h | h <;> simp [h])
  have b := isNm_ok hn
  refine ⟨?_, ?_, rfl, rfl, by simp only [D.wt, D.wts]; omega, by simp [D.dp, D.dps], _, _, _, rfl, a⟩
  · simp only [lineD, isStr, nmD, hn, belowD, Bool.true_and, Bool.and_eq_true, Bool.or_eq_true, decide_eq_true_eq]
    exact ⟨h, by omega, by omega⟩
  · have : v < 2 ^ 240 := Nat.lt_of_lt_of_le hv (by decide)
    simp only [D.pl, D.pls, a.1, b.1, Int.natAbs_natCast, this, decide_true, Bool.and_self]
theorem walk_snoc : ∀ {ls : List Dv.D} {i : Nat} {st st1 : List Str} {l : Dv.D}, cwalk i st ls = some st1 → cwalk i st (ls ++ [l]) = cstep (i + ls.length) st1 l
  | [], i, st, st1, l, h => by
    cases h
    simp only [List.nil_append, cwalk, List.length_nil, Nat.add_zero]
    cases cstep i st l <;> rfl
  | x :: r, i, st, st1, l, h => by
    simp only [List.cons_append, cwalk] at h ⊢
    cases e : cstep i st x with
    | none => rw [e] at h; cases h
    | some s2 =>
      rw [e] at h
      have := walk_snoc (l := l) h
      simp only [List.length_cons]
      rw [show i + (r.length + 1) = i + 1 + r.length by omega]
      exact this
theorem step_enter {i : Nat} {O : List Str} {nm : Str} (h : O ≠ []) (hn : isNm nm = true) : cstep i O (.tup [.str sEnter, .str nm]) = some (O ++ [nm]) := by
  unfold cstep
  rw [if_pos (ln2 (.inl rfl) hn).ln, if_neg (fun z => h z.1), if_pos (by simp [tagIs, isStr])]
  rfl
theorem step_leave {i : Nat} {O : List Str} {nm : Str} (hn : isNm nm = true) : cstep i (O ++ [nm]) (.tup [.str sLeave, .str nm]) = some O := by
  unfold cstep
  have h2 : tagIs (.tup [.str sLeave, .str nm]) sEnter = false := by simp [tagIs, isStr, tags_ne.2.2.2.1]
  rw [if_pos (ln2 (.inr (.inl rfl)) hn).ln, if_neg (fun z => by simp at z), h2, if_neg Bool.false_ne_true, if_pos (by simp [tagIs, isStr])]
  simp [argS]
theorem step_other {i : Nat} {O : List Str} {l : Dv.D} (h : O ≠ []) (hl : lineD l = true) (h1 : tagIs l sEnter = false) (h2 : tagIs l sLeave = false) : cstep i O l = some O := by
  unfold cstep
  rw [if_pos hl, if_neg (fun z => h z.1), h1, if_neg Bool.false_ne_true, h2, if_neg Bool.false_ne_true]
structure Inv (F : List Dv.D) (O : List Str) (i : Nat) : Prop where
  w : cwalk 0 [] F = some O
  nf : F ≠ []
  len : F.length ≤ i + 1
  ln : ∀ l ∈ F, Ln l
  nm : ∀ x ∈ O, isNm x = true
  lo : O.length ≤ i + 1
theorem Inv.add {F : List Dv.D} {O O' : List Str} {i : Nat} {l : Dv.D} (h : Inv F O i) (hl : Ln l) (e : ∀ j, cstep j O l = some O') (hn : ∀ x ∈ O', isNm x = true) : Inv (F ++ [l]) O' (i + 1) := by
  refine ⟨?_, by simp, by have := h.len; simp; omega, fun x hx => ?_, hn, ?_⟩
  · rw [walk_snoc h.w, e]
  · rcases List.mem_append.mp hx with hx | hx
    · exact h.ln x hx
    · rw [List.mem_singleton.mp hx]; exact hl
  · have := cstep_len (e 0)
    have := h.lo
    omega
theorem Inv.succ {F : List Dv.D} {O : List Str} {i : Nat} (h : Inv F O i) : Inv F O (i + 1) := ⟨h.w, h.nf, by have := h.len; omega, h.ln, h.nm, by have := h.lo; omega⟩
theorem Inv.le {F : List Dv.D} {O : List Str} {i j : Nat} (h : Inv F O i) (l : i ≤ j) : Inv F O j := ⟨h.w, h.nf, by have := h.len; omega, h.ln, h.nm, by have := h.lo; omega⟩
theorem strs_pl {O : List Str} (h : ∀ x ∈ O, isNm x = true) : D.pls (O.map D.str) = true := pls_of fun x hx => by
  obtain ⟨w, hw, rfl⟩ := List.mem_map.mp hx
  exact (isNm_ok (h w hw)).1
theorem strs_hd {O : List Str} : D.hDs (O.map D.str) = false := hDs_of fun x hx => by
  obtain ⟨w, hw, rfl⟩ := List.mem_map.mp hx
  rfl
abbrev LogI (n : Nat) (M : Mem) (names words : List Str) (i : Nat) (ρ : Env') (N : Mem) : Prop :=
  ∃ (a b c e : Option Dv.D) (F : List Dv.D) (O : List Str) (N' : Mem), ρ = [some (.loc n), some (.lst (names.map D.str)), some (.lst (words.map D.str)), some (.loc M.length), some (.loc (M.length + 1)), a, b, c, e] ∧ N = N' ++ [some (.lst F), some (.lst (O.map D.str))] ∧ Urn n M N' ∧ Inv F O i
theorem log_turn {names words : List Str} (hn : names.length = 3) (hn2 : ∀ x ∈ names, isNm x = true) (hw : words.length = 2) (hw2 : ∀ x ∈ words, isNm x = true) {i : Nat} {ρ : Env'} {N : Mem} {x : Dv.D} (hi : i < 100) (h : LogI n M names words i ρ N) :
    ∃ ρ' N', (frF (Phi T (k + 2)) T (.nm 5) b24_0 x ρ N = .nx ρ' N' ∨ frF (Phi T (k + 2)) T (.nm 5) b24_0 x ρ N = .ct ρ' N') ∧ LogI n M names words (i + 1) ρ' N' := by
  obtain ⟨a, b, c, e, F, O, N0, rfl, rfl, hu, inv⟩ := h
  obtain ⟨way, N1, e1, hu1, hway⟩ := take_ok (T := T) (k := k + 1) (hu.self.app [some (.lst F), some (.lst (O.map D.str))]) (total := 6) (by decide) (by decide)
  obtain ⟨N2, rfl, hu2⟩ := hu1.unapp hu.lt
  have hL : M.length = N2.length := by rw [hu2.len, hu.len]
  have hlo := inv.lo
  have hlf := inv.len
  rw [fr_nm, hL]
  have ne : neD (N2 ++ [some (.lst F), some (.lst (O.map D.str))]) (.loc (N2.length + 1)) (.lst []) = some (!O.isEmpty) := by
    rw [ne_loc_nil mem2_1 (strs_pl inv.nm) strs_hd]
    cases O <;> rfl
  have mk : ∀ (F' : List Dv.D) (O' : List Str) (N3 : Mem) (s5 s6 s7 s8 : Option Dv.D), Urn n M N3 → N3.length = N2.length → Inv F' O' (i + 1) →
      LogI n M names words (i + 1) [some (.loc n), some (.lst (names.map D.str)), some (.lst (words.map D.str)), some (.loc N2.length), some (.loc (N2.length + 1)), s5, s6, s7, s8] (N3 ++ [some (.lst F'), some (.lst (O'.map D.str))]) :=
    fun F' O' N3 s5 s6 s7 s8 h1 h2 h3 => ⟨s5, s6, s7, s8, F', O', N3, by rw [hL], rfl, h1, h3⟩
  by_cases hO : O = []
  · subst hO
    simp only [List.map_nil] at ne e1
    refine ⟨_, _, .inl ?_, mk F [] N2 (some x) (some (.int way)) c e (hu.trans hu2) rfl inv.succ⟩
    simp [b24_0, e1, ne]
  · have hne : O.isEmpty = false := by simpa using hO
    rw [hne] at ne
    have apF : ∀ (N3 : Mem) (F' : List Dv.D) (O' : List Dv.D) (l : Dv.D), F'.length < 1000 → N3.length = N2.length → mthD .append (.loc N2.length) [l] (N3 ++ [some (.lst F'), some (.lst O')]) = .ok .non (N3 ++ [some (.lst (F' ++ [l])), some (.lst O')]) := fun N3 F' O' l hf h3 => by
      rw [← h3, app_loc mem2_0 (by omega), set2_0]
    have apO : ∀ (N3 : Mem) (F' : List Dv.D) (O' : List Dv.D) (l : Dv.D), O'.length < 1000 → N3.length = N2.length → mthD .append (.loc (N2.length + 1)) [l] (N3 ++ [some (.lst F'), some (.lst O')]) = .ok .non (N3 ++ [some (.lst F'), some (.lst (O' ++ [l]))]) := fun N3 F' O' l hf h3 => by
      rw [← h3, app_loc mem2_1 (by omega), set2_1]
    have rcF : ∀ (N3 : Mem) (F' : List Dv.D) (O' : List Dv.D), N3.length = N2.length → rcvB .append (N3 ++ [some (.lst F'), some (.lst O')]) (.loc N2.length) = true := fun N3 F' O' h3 => by
      rw [← h3]; exact rcv_app mem2_0
    have rcO : ∀ (N3 : Mem) (F' : List Dv.D) (O' : List Dv.D), N3.length = N2.length → rcvB .append (N3 ++ [some (.lst F'), some (.lst O')]) (.loc (N2.length + 1)) = true := fun N3 F' O' h3 => by
      rw [← h3]; exact rcv_app mem2_1
    have ne3 : ∀ N3 : Mem, N3.length = N2.length → neD (N3 ++ [some (.lst F), some (.lst (O.map D.str))]) (.loc (N2.length + 1)) (.lst []) = some true := fun N3 h3 => by
      rw [← h3, ne_loc_nil mem2_1 (strs_pl inv.nm) strs_hd]
      cases O <;> first | exact absurd rfl hO | rfl
    have hOl : (O.map Dv.D.str).length < 1000 := by rw [List.length_map]; omega
    have other : ∀ (N3 : Mem), Urn n N2 N3 → ∃ ρ' N', xs (Phi T (k + 2)) T [.ite (.cmp (.var 4) .NotEq (.lst true [])) [.par 7 8 (.call 19 [.var 0, .var 2]) (.call 18 [.var 0, .cst (.int 4)]), .exp (.mth .append (.var 3) [.call 19 [.var 0, .lst true [.tup [.cst (.str (Str.ofString "say")), .var 7], .tup [.cst (.str (Str.ofString "say")), .var 7, .var 8], .tup [.cst (.str (Str.ofString "ask")), .var 7, .var 8]]]])] []]
        [some (.loc n), some (.lst (names.map D.str)), some (.lst (words.map D.str)), some (.loc N2.length), some (.loc (N2.length + 1)), some x, some (.int way), c, e] (N3 ++ [some (.lst F), some (.lst (O.map D.str))]) = .nx ρ' N' ∧ LogI n M names words (i + 1) ρ' N' := fun N3 h3 => by
      obtain ⟨wd, Na, e3, ha, hwd⟩ := one_ok (T := T) (k := k) (h3.self.app [some (.lst F), some (.lst (O.map D.str))]) (ds := words.map D.str) (by cases words <;> first | cases hw | simp) (by simp [hw])
      obtain ⟨w, hw', rfl⟩ := List.mem_map.mp hwd
      obtain ⟨N4, rfl, h4⟩ := ha.unapp h3.lt
      obtain ⟨num, Nb, e4, hb, hnum⟩ := take_ok (T := T) (k := k + 1) (h4.self.app [some (.lst F), some (.lst (O.map D.str))]) (total := 4) (by decide) (by decide)
      obtain ⟨N5, rfl, h5⟩ := hb.unapp h4.lt
      obtain ⟨ln, Nc, e5, hc, hln⟩ := one_ok (T := T) (k := k) (h5.self.app [some (.lst F), some (.lst (O.map D.str))]) (ds := [.tup [.str sSay, .str w], .tup [.str sSay, .str w, .int num], .tup [.str sAsk, .str w, .int num]]) (by simp) (by simp)
      obtain ⟨N6, rfl, h6⟩ := hc.unapp h5.lt
      have l3 := h3.len
      have l4 := h4.len
      have l5 := h5.len
      have l6 := h6.len
      have lnL : Ln ln ∧ tagIs ln sEnter = false ∧ tagIs ln sLeave = false := by
        simp only [List.mem_cons, List.not_mem_nil, or_false] at hln
        have hv : num < 4 := by omega
        rcases hln with rfl | rfl | rfl
        · exact ⟨ln2 (.inr (.inr rfl)) (hw2 w hw'), by simp [tagIs, isStr, tags_ne.2.2.2.2.2.2.1], by simp [tagIs, isStr, tags_ne.2.2.2.2.2.2.2.1]⟩
        · exact ⟨ln3 (.inr rfl) (hw2 w hw') hv, by simp [tagIs, isStr, tags_ne.2.2.2.2.2.2.1], by simp [tagIs, isStr, tags_ne.2.2.2.2.2.2.2.1]⟩
        · exact ⟨ln3 (.inl rfl) (hw2 w hw') hv, by simp [tagIs, isStr, tags_ne.2.2.2.2.2.2.2.2.1], by simp [tagIs, isStr, tags_ne.2.2.2.2.2.2.2.2.2]⟩
      refine ⟨_, _, ?_, mk (F ++ [ln]) O N6 (some x) (some (.int way)) (some (.str w)) (some (.int num)) ((((hu.trans hu2).trans h3).trans h4).trans (h5.trans h6)) (by omega) (inv.add lnL.1 (fun j => step_other hO lnL.1.ln lnL.2.1 lnL.2.2) inv.nm)⟩
      simp only [xs_cons, xs_nil, xc_ite, tst_cmp, ev_var, List.getElem?_cons_succ, List.getElem?_cons_zero, R.bnd_ok, ev_lst, evs_nil, mkL_nil, cmp_ne, ne3 N3 (by omega), R.of_some, R.st_ok, if_true, xc_par, ev_call, evs_cons, e3, ev_cst, cst_int, e4, List.set_cons_succ, List.set_cons_zero, xc_exp, ev_mth, rcF N5 _ _ (by omega), ev_tup, cst_str]
      simp only [tupD_2, tupD_3, R.bnd_ok]
      rw [mkL_true (by simp)]
      simp only [R.bnd_ok, e5, tupD_2, tupD_3, apF N6 _ _ _ (by omega : F.length < 1000) (by omega), R.st_ok]
    have leave : ∀ (N3 : Mem), Urn n N2 N3 → ∃ ρ' N', xs (Phi T (k + 2)) T [.exp (.mth .append (.var 3) [.tup [.cst (.str (Str.ofString "leave")), .mth .pop (.var 4) []]])]
        [some (.loc n), some (.lst (names.map D.str)), some (.lst (words.map D.str)), some (.loc N2.length), some (.loc (N2.length + 1)), some x, some (.int way), c, e] (N3 ++ [some (.lst F), some (.lst (O.map D.str))]) = .nx ρ' N' ∧ LogI n M names words (i + 1) ρ' N' := fun N3 h3 => by
      have l3 := h3.len
      rcases List.eq_nil_or_concat O with rfl | ⟨O', z, rfl⟩
      · exact absurd rfl hO
      · rw [List.concat_eq_append] at *
        have hz : isNm z = true := inv.nm z (by simp)
        have pp : mthD .pop (.loc (N2.length + 1)) [] (N3 ++ [some (.lst F), some (.lst ((O' ++ [z]).map D.str))]) = .ok (.str z) (N3 ++ [some (.lst F), some (.lst (O'.map D.str))]) := by
          rw [← l3, pop_loc (l := O'.map D.str) (d := .str z) (by rw [mem2_1]; simp), set2_1]
        have rp : rcvB .pop (N3 ++ [some (.lst F), some (.lst ((O' ++ [z]).map D.str))]) (.loc (N2.length + 1)) = true := by rw [← l3]; exact rcv_pop mem2_1
        refine ⟨_, _, ?_, mk (F ++ [.tup [.str sLeave, .str z]]) O' N3 (some x) (some (.int way)) c e ((hu.trans hu2).trans h3) l3 (inv.add (ln2 (.inr (.inl rfl)) hz) (fun j => step_leave hz) (fun q hq => inv.nm q (by simp [hq])))⟩
        simp only [xs_cons, xs_nil, xc_exp, ev_mth, ev_var, List.getElem?_cons_succ, List.getElem?_cons_zero, R.bnd_ok, rcF N3 _ _ l3, if_true, evs_cons, evs_nil, ev_tup, ev_cst, cst_str, R.of_some, rp, pp, tupD_2, tupD_3, apF N3 _ _ _ (by omega : F.length < 1000) l3, R.st_ok]
    have len4 : ∀ N3 : Mem, N3.length = N2.length → bltD .len [.loc (N2.length + 1)] (N3 ++ [some (.lst F), some (.lst (O.map D.str))]) = .ok (.int O.length) (N3 ++ [some (.lst F), some (.lst (O.map D.str))]) := fun N3 h3 => by
      rw [← h3, len_loc mem2_1, List.length_map]
    by_cases w2 : (way : Int) < 2
    · obtain ⟨nm, Na, e3, ha, hnm⟩ := one_ok (T := T) (k := k) (hu2.self.app [some (.lst F), some (.lst (O.map D.str))]) (ds := names.map D.str) (by cases names <;> first | cases hn | simp) (by simp [hn])
      obtain ⟨w, hw', rfl⟩ := List.mem_map.mp hnm
      obtain ⟨N4, rfl, h4⟩ := ha.unapp hu2.lt
      have l4 := h4.len
      have last : subD (N4 ++ [some (.lst F), some (.lst (O.map D.str ++ [.str w]))]) (.loc (N2.length + 1)) (.int (-1)) = some (.str w) := by
        rw [← l4]
        rw [sub_loc mem2_1, at_last]
      refine ⟨_, _, .inl ?_, mk (F ++ [.tup [.str sEnter, .str w]]) (O ++ [w]) N4 (some x) (some (.int way)) c e ((hu.trans hu2).trans h4) l4 (inv.add (ln2 (.inl rfl) (hn2 w hw')) (fun j => step_enter hO (hn2 w hw')) (fun q hq => by
        rcases List.mem_append.mp hq with hq | hq
        · exact inv.nm q hq
        · rw [List.mem_singleton.mp hq]; exact hn2 w hw'))⟩
      unfold b24_0
      simp only [List.map_append, List.map_cons, List.map_nil]
      simp only [xs_cons, xs_nil, List.set_cons_succ, List.set_cons_zero, xc_set, ev_call, evs_cons, evs_nil, ev_var, List.getElem?_cons_succ, List.getElem?_cons_zero, R.bnd_ok, ev_cst, cst_int, R.of_some, e1, R.st_ok, put_nm, xc_ite, tst_boo, evTs_cons, evTs_one, tst_cmp, ev_lst, mkL_nil, cmp_ne, ne3 N2 rfl, if_true, lt_ok, w2, decide_true, xc_exp, ev_mth, rcO N2 _ _ rfl, e3, apO N4 _ _ _ hOl l4, rcF N4 _ _ l4, ev_tup, cst_str, ev_sub, ev_neg, last, tupD_2, tupD_3, apF N4 _ _ _ (by omega : F.length < 1000) l4]
    · have fst : xs (Phi T (k + 2)) T b24_0 ([some (.loc n), some (.lst (names.map D.str)), some (.lst (words.map D.str)), some (.loc N2.length), some (.loc (N2.length + 1)), a, b, c, e].set 5 (some x)) (N0 ++ [some (.lst F), some (.lst (O.map D.str))]) = xc (Phi T (k + 2)) T (.ite (.boo true [.cmp (.var 4) .NotEq (.lst true []), .cmp (.var 6) .Lt (.cst (.int 4)), .boo false [.cmp (.blt .len [.var 4]) .Gt (.cst (.int 1)), .cmp (.call 18 [.var 0, .cst (.int 3)]) .Eq (.cst (.int 0))]]) [.exp (.mth .append (.var 3) [.tup [.cst (.str (Str.ofString "leave")), .mth .pop (.var 4) []]])] [.ite (.cmp (.var 4) .NotEq (.lst true [])) [.par 7 8 (.call 19 [.var 0, .var 2]) (.call 18 [.var 0, .cst (.int 4)]), .exp (.mth .append (.var 3) [.call 19 [.var 0, .lst true [.tup [.cst (.str (Str.ofString "say")), .var 7], .tup [.cst (.str (Str.ofString "say")), .var 7, .var 8], .tup [.cst (.str (Str.ofString "ask")), .var 7, .var 8]]]])] []])
          [some (.loc n), some (.lst (names.map D.str)), some (.lst (words.map D.str)), some (.loc N2.length), some (.loc (N2.length + 1)), some x, some (.int way), c, e] (N2 ++ [some (.lst F), some (.lst (O.map D.str))]) := by
        unfold b24_0
        rw [xs_cons]
        simp only [List.set_cons_succ, List.set_cons_zero, xc_set, ev_call, evs_cons, evs_nil, ev_var, List.getElem?_cons_succ, List.getElem?_cons_zero, R.bnd_ok, ev_cst, cst_int, R.of_some, e1, R.st_ok, put_nm]
        rw [xs_one, xc_ite]
        simp only [tst_boo, evTs_cons, evTs_one, tst_cmp, ev_var, ev_lst, evs_nil, mkL_nil, List.getElem?_cons_succ, List.getElem?_cons_zero, R.bnd_ok, cmp_ne, ne3 N2 rfl, R.of_some, if_true, ev_cst, cst_int, lt_ok, w2, decide_false, R.st_ok, Bool.false_eq_true, if_false]
        rw [xs_one]
      rw [fst, xc_ite]
      by_cases w4 : (way : Int) < 4
      · by_cases o1 : (1 : Int) < O.length
        · obtain ⟨ρ', N', q1, q2⟩ := leave N2 hu2.self
          refine ⟨ρ', N', .inl ?_, q2⟩
          rw [← q1]
          simp only [tst_boo, evTs_cons, evTs_one, tst_cmp, ev_var, ev_lst, evs_nil, mkL_nil, List.getElem?_cons_succ, List.getElem?_cons_zero, R.bnd_ok, cmp_ne, ne3 N2 rfl, R.of_some, if_true, ev_cst, cst_int, lt_ok, w4, decide_true, ev_blt, evs_cons, len4 N2 rfl, gt_ok, o1, Bool.true_eq_false, if_false, R.st_ok]
        · obtain ⟨t, Na, e3, ha, ht⟩ := take_ok (T := T) (k := k + 1) (hu2.self.app [some (.lst F), some (.lst (O.map D.str))]) (total := 3) (by decide) (by decide)
          obtain ⟨N3, rfl, h3⟩ := ha.unapp hu2.lt
          by_cases t0 : (t : Int) = 0
          · obtain ⟨ρ', N', q1, q2⟩ := leave N3 h3
            refine ⟨ρ', N', .inl ?_, q2⟩
            rw [← q1]
            simp only [tst_boo, evTs_cons, evTs_one, tst_cmp, ev_var, ev_lst, evs_nil, mkL_nil, List.getElem?_cons_succ, List.getElem?_cons_zero, R.bnd_ok, cmp_ne, ne3 N2 rfl, R.of_some, if_true, ev_cst, cst_int, lt_ok, w4, decide_true, ev_blt, evs_cons, len4 N2 rfl, gt_ok, o1, decide_false, ev_call, e3, cmp_eq, eq_int, t0, R.st_ok]
          · obtain ⟨ρ', N', q1, q2⟩ := other N3 h3
            refine ⟨ρ', N', .inl ?_, q2⟩
            rw [← q1]
            simp only [tst_boo, evTs_cons, evTs_one, tst_cmp, ev_var, ev_lst, evs_nil, mkL_nil, List.getElem?_cons_succ, List.getElem?_cons_zero, R.bnd_ok, cmp_ne, ne3 N2 rfl, R.of_some, if_true, ev_cst, cst_int, lt_ok, w4, decide_true, ev_blt, evs_cons, len4 N2 rfl, gt_ok, o1, decide_false, ev_call, e3, cmp_eq, eq_int, t0, R.st_ok, Bool.false_eq_true, if_false]
      · obtain ⟨ρ', N', q1, q2⟩ := other N2 hu2.self
        refine ⟨ρ', N', .inl ?_, q2⟩
        rw [← q1]
        simp only [tst_boo, evTs_cons, evTs_one, tst_cmp, ev_var, ev_lst, evs_nil, mkL_nil, List.getElem?_cons_succ, List.getElem?_cons_zero, R.bnd_ok, cmp_ne, ne3 N2 rfl, R.of_some, if_true, ev_cst, cst_int, lt_ok, w4, decide_false, Bool.false_eq_true, if_false, R.st_ok]
theorem log_ok (hu : Urn n M0 M) : ∃ (F : List Dv.D) (O : List Str) (M' : Mem), Phi T (k + 4) 24 [.loc n] M = .ok (.tup F) M' ∧ Urn n M0 M' ∧ Inv F O 24 := by
  obtain ⟨names, M1, e1, hu1, hn, _, hn2⟩ := names_ok (T := T) (k := k) hu.self (many := 3) (by decide) (mi := 3) rfl
  obtain ⟨words, M2, e2, hu2, hw, _, hw2⟩ := names_ok (T := T) (k := k) hu1 (many := 2) (by decide) (mi := 2) rfl
  match names, hn, hn2 with
  | x :: r, hn, hn2 =>
    have hx := hn2 x (by simp)
    have start : Inv [.tup [.str sEnter, .str x]] [x] 0 := ⟨by
      unfold cwalk cstep
      rw [if_pos (ln2 (.inl rfl) hx).ln, if_neg (fun z => by have := z.2; simp [tagIs, isStr] at this), if_pos (by simp [tagIs, isStr])]
      rfl, by simp, by simp, fun l hl => by rw [List.mem_singleton.mp hl]; exact ln2 (.inl rfl) hx, fun y hy => by rw [List.mem_singleton.mp hy]; exact hx, by simp⟩
    obtain ⟨m, M3, e3, hu3, hm⟩ := take_ok (T := T) (k := k + 2) (hu2.self.app [some (.lst [.tup [.str sEnter, .str x]]), some (.lst [.str x])]) (total := 24) (by decide) (by decide)
    obtain ⟨M4, rfl, hu4⟩ := hu3.unapp hu2.lt
    have l4 := hu4.len
    obtain ⟨ρ', M', e4, a, b, c, e, F, O, N', hρ, hN, hu5, inv⟩ := loopF_inv (N := 24) (g := frF (Phi T (k + 3)) T (.nm 5) b24_0) (I := LogI n M2 (x :: r) words)
      (xs := (List.range m).map fun (i : Nat) => Dv.D.int (i : Int)) (i := 0) (ρ := [some (.loc n), some (.lst ((x :: r).map D.str)), some (.lst (words.map D.str)), some (.loc M2.length), some (.loc (M2.length + 1)), none, none, none, none]) (M := M4 ++ [some (.lst [.tup [.str sEnter, .str x]]), some (.lst [.str x])])
      (fun y i ρ N _ hi h => log_turn (k := k + 1) hn hn2 hw hw2 (by omega) h) (by simp; omega) ⟨none, none, none, none, _, [x], M4, rfl, rfl, hu4, start⟩
    subst hρ hN
    have l5 := hu5.len
    refine ⟨F, O, N', ?_, hu.trans (hu2.trans hu5), inv.le (by simp; omega)⟩
    have hu6 := hu2.trans hu5
    have l6 := hu6.len
    rw [phi_fn (e := f24) rfl]
    show fin false M (xs (Phi T (k + 3)) T b24 [some (.loc n), none, none, none, none, none, none, none, none] M) = _
    simp only [List.map_cons] at e1
    unfold b24
    rw [xs_cons]
    simp only [xc_par, ev_call, evs_cons, evs_nil, ev_var, List.getElem?_cons_succ, List.getElem?_cons_zero, R.bnd_ok, ev_cst, cst_int, R.of_some, e1, e2, R.st_ok, List.set_cons_succ, List.set_cons_zero]
    rw [xs_cons]
    simp only [xc_par, ev_lst, evs_cons, evs_nil, ev_tup, ev_cst, cst_str, cst_int, R.of_some, ev_sub, ev_var, List.getElem?_cons_succ, List.getElem?_cons_zero, R.bnd_ok, sub_lst, at_c0, tupD_2]
    rw [mkL_false (by simp)]
    simp only [R.bnd_ok, R.st_ok]
    rw [mkL_false (by simp)]
    simp only [R.bnd_ok, R.st_ok, List.set_cons_succ, List.set_cons_zero, List.append_assoc, List.singleton_append, List.length_append, List.length_cons, List.length_nil]
    rw [xs_cons]
    simp only [xc_fr, wlk_rng1, ev_call, evs_cons, evs_nil, ev_var, List.getElem?_cons_succ, List.getElem?_cons_zero, R.bnd_ok, ev_cst, cst_int, R.of_some, e3, rng1_ok (by omega : m ≤ 1000000000), R.st_ok]
    simp only [List.map_cons, Nat.zero_add] at e4
    rw [e4]
    simp only [xs_one, xc_ret, ev_blt, evs_cons, evs_nil, ev_var, List.getElem?_cons_succ, List.getElem?_cons_zero, R.bnd_ok]
    rw [tuple_loc (l := F) (by rw [← l5]; exact mem2_0)]
    simp only [R.st_ok]
    exact hu6.finD (by
      simp only [D.bel]
      exact pls_bel (pls_of fun l hl => (inv.ln l hl).pl))
end
end L2.Dv.K02
namespace L2.Dv.K02
open PySem PySem.Spec PyProof.Rows L2.Dv.P
section
variable {T : Tb} [HF T 10 f10] [HF T 11 f11] [HF T 12 f12] [HF T 13 f13] [HF T 14 f14] [HF T 15 f15] [HF T 16 f16] [HF T 17 f17] [HF T 18 f18] [HF T 19 f19] [HF T 21 f21] [HF T 22 f22] [HF T 23 f23] [HF T 24 f24] [HF T 25 f25] [HF T 26 f26] [HF T 27 f27] [HF T 28 f28] [HG T 0 (.int 10000000000000000000000000000000000000000)] [HG T 1 (.int 8)] [HG T 2 (.str (Str.ofString "abcdefghijklmnopqrstuvwxyz"))] [HG T 3 (.int 4)] [HR T 0] [HX T 0 0 true]
variable {k n : Nat} {M M0 : Mem} {d : Dv.D}
/-! ### values near a log -/
theorem vq_tup {l : List Dv.D} {w : Nat} (h : Fl l w) (hw : w < 6999) : Vq (.tup l) := by
  have a := h.pls
  have b := h.hds
  have c := h.dps
  have e := h.wt
  exact ⟨by simp [P.sm, D.pl, D.hD, a, b], by simp only [D.wt]; omega, by simp only [D.dp]; omega⟩
theorem vq_lst {l : List Dv.D} {w : Nat} (h : Fl l w) (hw : w < 6999) : Vq (.lst l) := by
  have a := h.pls
  have b := h.hds
  have c := h.dps
  have e := h.wt
  exact ⟨by simp [P.sm, D.pl, D.hD, a, b], by simp only [D.wt]; omega, by simp only [D.dp]; omega⟩
theorem vq_one {d : Dv.D} (h1 : d.pl = true) (h2 : d.hD = false) (h3 : d.dp ≤ 5) (h4 : d.wt ≤ 6000) : Vq d := ⟨by simp [P.sm, h1, h2], by omega, by omega⟩
theorem lns_fl {F : List Dv.D} (h : ∀ l ∈ F, Ln l) : Fl F (30 * F.length) := ⟨fun x hx => ⟨(h x hx).pl, (h x hx).hd, by have := (h x hx).dp; omega⟩, by
  induction F with
  | nil => exact Nat.le_refl _
  | cons x r ih =>
    have := (h x (by simp)).wt
    have := ih fun y hy => h y (by simp [hy])
    simp only [D.wts, List.length_cons]
    omega⟩
abbrev nears1 (F : List Dv.D) (at_ to_ : Nat) (line : Dv.D) (rest : List Dv.D) : List Dv.D :=
  [.tup F, .lst F, .tup rest, .tup (F.take at_ ++ [line] ++ F.drop at_), .tup (rest.take to_ ++ [line] ++ rest.drop to_), .tup (F.take to_), .tup (F.drop to_)]
abbrev nears2 (F : List Dv.D) (to_ : Nat) (odd none_ : Dv.D) : List Dv.D :=
  [.tup (F.take to_ ++ [odd] ++ F.drop to_), .tup (F.take to_ ++ [none_] ++ F.drop to_), .tup F.reverse, .tup (F ++ F), .tup (F ++ [odd])]
abbrev nears3 (whole leaves : List Dv.D) (name : Str) : List Dv.D :=
  [.tup whole, .tup (whole ++ [.tup [.str sSay, .str (Str.ofString "a")]]), .tup (whole ++ [.tup [.str sEnter, .str name]]), .tup (whole ++ leaves), .tup whole.dropLast]
abbrev nears4 (odd none_ line : Dv.D) : List Dv.D :=
  [.tup [odd], .tup [none_], line, .non, .int 0, .dic [] [], .str (Str.ofString "log"), .tup [.tup [line]]]
theorem near_ok {F : List Dv.D} {O : List Str} (hu : Urn n M0 M) (inv : Inv F O 24) :
    ∃ (vs : List Dv.D) (M' : Mem), Phi T (k + 5) 25 [.loc n, .tup F] M = .ok (.lst vs) M' ∧ Urn n M0 M' ∧ (∀ v ∈ vs, Vq v) ∧ vs.length = 25 := by
  have hF := lns_fl inv.ln
  have hlen := inv.len
  obtain ⟨at_, M1, e1, hu1, h1⟩ := take_ok (T := T) (k := k + 3) hu (total := (F.length : Int)) (by have := List.length_pos_iff.mpr inv.nf; omega) (by omega)
  obtain ⟨to_, M2, e2, hu2, h2⟩ := take_ok (T := T) (k := k + 3) hu1 (total := (F.length : Int) + 1) (by omega) (by omega)
  obtain ⟨line, hline, hlm⟩ := get_lt (l := F) (w := at_) (by omega)
  have hln := inv.ln line hlm
  obtain ⟨la, lb, lr, hlf, hla, hla2⟩ := hln.ne
  obtain ⟨name, M3, e3, hu3, hname⟩ := name_ok (T := T) (k := k + 2) hu2
  obtain ⟨x0, r0, hF0⟩ : ∃ x r, F = x :: r := by cases F with
    | nil => exact absurd rfl inv.nf
    | cons x r => exact ⟨x, r, rfl⟩
  obtain ⟨fa, fb, fr, hff, _, _⟩ := (inv.ln x0 (by rw [hF0]; simp)).ne
  obtain ⟨odd, M4, e4, hu4, hodd⟩ := one_ok (T := T) (k := k + 2) hu3 (ds := [.tup [.str sLeave, .str name], .tup [.str sEnter, .str name], .tup [.str sSay, .str name], .tup [.str sLeave, .str fb], .tup [.str la, .str name]]) (by simp) (by simp)
  obtain ⟨none_, M5, e5, hu5, hnone⟩ := one_ok (T := T) (k := k + 2) hu4 (ds := [.non, .tup [], .tup [.str sSay], .tup [.str sSay, .str (Str.ofString "a"), .int 4], .lst (.str la :: .str lb :: lr), .tup [.str (Str.ofString "tell"), .str (Str.ofString "a")], .str (Str.ofString "enter a"), .int 0, .bl true]) (by simp) (by simp)
  have hcl : callsL (.tup F) = some O := by
    rw [hF0]
    show cwalk 0 [] (x0 :: r0) = _
    rw [← hF0]
    exact inv.w
  have vF : Vq (.tup F) := vq_tup hF (by omega)
  have e6 := open_in_ok (T := T) (k := k) (M := M5) vF
  rw [hcl] at e6
  simp only [optL] at e6
  -- leaves
  have hO := inv.lo
  have hmap : foldC (lcF (Phi T (k + 4)) T c25_0 (.nm 11) d25_0 [11] [some (.loc n), some (.tup F), some (.int at_), some (.int to_), some line, some (.str name), some (.tup (F.take at_ ++ F.drop (at_ + 1))), some odd, some none_, some (.lst (nears1 F at_ to_ line (F.take at_ ++ F.drop (at_ + 1)) ++ nears2 F to_ odd none_)), none, none, none]) (O.map D.str).reverse [] M5 = .ok ((O.map fun x => .tup [.str sLeave, .str x]).reverse) M5 := by
    rw [foldC_pure (g := fun d => some (.tup [.str sLeave, d])) (fun y hy => ?_) (by simp; exact sl (by omega))]
    · rw [List.nil_append, ← List.map_reverse, ← List.map_reverse]
      congr 1
      induction O.reverse with
      | nil => rfl
      | cons x r ih => simp only [List.map_cons, List.filterMap_cons, ih]
    · simp [lcF, c25_0, d25_0, sl (by omega : 2 ≤ 1000000)]
  have hlv : Fl (O.map fun x => Dv.D.tup [.str sLeave, .str x]).reverse (30 * O.length) := by
    have : ∀ l ∈ (O.map fun x => Dv.D.tup [.str sLeave, .str x]), Ln l := fun l hl => by
      obtain ⟨x, hx, rfl⟩ := List.mem_map.mp hl
      exact ln2 (.inr (.inl rfl)) (inv.nm x hx)
    have := lns_fl this
    rw [List.length_map] at this
    exact this.rev
  obtain ⟨lvs, hlvs⟩ : ∃ l, l = (O.map fun x => Dv.D.tup [.str sLeave, .str x]).reverse := ⟨_, rfl⟩
  rw [← hlvs] at hlv hmap
  have hlvl : lvs.length ≤ 25 := by rw [hlvs]; simp; omega
  have ho : odd.pl = true ∧ odd.hD = false ∧ odd.dp ≤ 5 ∧ odd.wt ≤ 60 := by
    have nm := isNm_ok hname
    have hfb : isNm fb = true := by
      have := (inv.ln x0 (by rw [hF0]; simp)).ln
      rw [hff] at this
      obtain ⟨a, b, r, q, hb, _⟩ := line_form this
      cases q
      exact hb
    have nf := isNm_ok hfb
    have a1 : sLeave.length = 5 := by decide +kernel
    have a2 : sEnter.length = 5 := by decide +kernel
    have a3 : sSay.length = 3 := by decide +kernel
    have b1 : PyData.strOk sLeave = true := by decide +kernel
    have b2 : PyData.strOk sEnter = true := by decide +kernel
    have b3 : PyData.strOk sSay = true := by decide +kernel
    simp only [List.mem_cons, List.not_mem_nil, or_false] at hodd
    rcases hodd with rfl | rfl | rfl | rfl | rfl <;> simp only [D.pl, D.pls, D.hD, D.hDs, D.dp, D.dps, D.wt, D.wts, b1, b2, b3, nm.1, nf.1, hla, a1, a2, a3] <;> refine ⟨rfl, rfl, by decide, by omega⟩
  have hn : none_.pl = true ∧ none_.hD = false ∧ none_.dp ≤ 5 ∧ none_.wt ≤ 60 := by
    have b1 := hln.pl
    have b2 := hln.hd
    have b3 := hln.dp
    have b4 := hln.wt
    rw [hlf] at b1 b2 b3 b4
    simp only [List.mem_cons, List.not_mem_nil, or_false] at hnone
    rcases hnone with rfl | rfl | rfl | rfl | rfl | rfl | rfl | rfl | rfl
    · decide +kernel
    · decide +kernel
    · decide +kernel
    · decide +kernel
    · exact ⟨b1, b2, by simp only [D.dp] at b3 ⊢; omega, by simp only [D.wt] at b4 ⊢; omega⟩
    · decide +kernel
    · decide +kernel
    · decide +kernel
    · decide +kernel
  have lF := hF.len
  refine ⟨nears1 F at_ to_ line (F.take at_ ++ F.drop (at_ + 1)) ++ nears2 F to_ odd none_ ++ nears3 (F ++ lvs) lvs name ++ nears4 odd none_ line, M5, ?_, hu5, ?_, rfl⟩
  · have cT := fun (l : List Dv.D) (j : Nat) => cut_take (l := l) j
    have cD := fun (l : List Dv.D) (j : Nat) => cut_drop (l := l) j
    have cD1 : cutL F (some ((at_ : Int) + 1)) none = F.drop (at_ + 1) := cut_dropI (by omega)
    have aT : ∀ j, (F.take j).length ≤ 25 := fun j => by rw [List.length_take]; omega
    have aD : ∀ j, (F.drop j).length ≤ 25 := fun j => by rw [List.length_drop]; omega
    have aR : (F.take at_ ++ F.drop (at_ + 1)).length ≤ 50 := by have := aT at_; have := aD (at_ + 1); rw [List.length_append]; omega
    have sub0 : ∀ N, subD N (.tup F) (.int at_) = some line := fun N => by rw [sub_tup, at_natN, hline]
    have subl : ∀ N, subD N line (.int 0) = some (.str la) := fun N => by rw [hlf, sub_tup, at_c0]
    have sub1 : ∀ N, subD N (.tup F) (.int 0) = some (.tup (.str fa :: .str fb :: fr)) := fun N => by rw [hF0, hff, sub_tup, at_c0]
    have lst1 : ∀ N, bltD .list [line] N = .ok (.lst (.str la :: .str lb :: lr)) N := fun N => by
      rw [hlf, list_tup, mkL_true (by
        have := hln.wt
        rw [hlf] at this
        have := wts_len (Dv.D.str la :: .str lb :: lr)
        simp only [D.wt] at *
        omega)]
    rw [phi_fn (e := f25) rfl]
    show fin true M (xs (Phi T (k + 4)) T b25 [some (.loc n), some (.tup F), none, none, none, none, none, none, none, none, none, none, none] M) = _
    unfold b25
    rw [xs_cons]
    simp (disch := first | assumption | omega | (simp only [List.length_append, List.length_take, List.length_drop, List.length_cons, List.length_nil, List.length_map, List.length_reverse, List.length_dropLast, List.length_range]; omega)) only [xc_exp, xc_set, xc_par, xc_ite, xc_fr, xc_ret, xc_retN, xc_pass, xc_brk, xc_cnt, xc_mat, xc_sst, xc_aug, ev_var, ev_cst, ev_gl, ev_bop, ev_neg, ev_boo, ev_not, ev_cmp, ev_chn, ev_ife, ev_tup, ev_lst, ev_dis, ev_lc, ev_call, ev_blt, ev_mth, ev_isi, ev_sub, ev_slc, ev_rev, evO_none, evO_some, evs_nil, evs_cons, evB_one, evB_cons, evTs_one, evTs_cons, evF_nil, evF_one, tst_not, tst_boo, tst_ife, tst_cmp, tst_chn, tst_var, tst_call, tst_blt, tst_isi, tst_cst, tst_sub, tst_mth, wlk_var, wlk_lst, wlk_call, wlk_rng1, wlk_rng2, wlk_tup, wlk_lc, wlk_bop, wlk_sub, wlk_slc, wlk_rev, wlk_blt, wlk_enm, wlk_zip, put_nm, put_tp, puts_nil, puts_cons, wipe_nil, wipe_cons, R.bnd_ok, R.of_some, R.st_ok, R.bnd_err, R.st_err, Option.map_some, List.getElem?_cons_succ, List.getElem?_cons_zero, List.set_cons_succ, List.set_cons_zero, cst_int, cst_str, cst_bool, cst_none, if_true, if_false, Bool.not_true, Bool.not_false, Bool.false_eq_true, Bool.true_eq_false, decide_true, decide_false, tru_bl, tru_non, tru_int, tru_lst, tru_tup, len_ro, len_lst, len_tup, sub_tup, sub_lst, sub_ro, at_c0, at_c1, at_c2, at_c3, at_natN, list_tup, list_lst, listM_tup, listM_lst, tuple_tup, tuple_lst, slc_tup, slc_lst, lstD_lst, it_lst, it_tup, it_ro, it_str, is_non_non, isnot_non_non, isnot_lst, is_lst, isnot_tup, is_tup, isnot_str, is_str, is_bl_bl, cmp_eq, cmp_ne, eq_str, ne_str, eq_int, ne_int, eq_bl, ne_bl, instr_ok, notinstr_ok, ltstr_ok, gtstr_ok, add_ok, sub_ok, lt_ok, gt_ok, le_ok, ge_ok, int_int, int_bl, abs_int, max_int, min_int, tupD_0, tupD_1, tupD_2, tupD_3, tupD_4, tupD_5, mkL_nil, mkL_nilF, mkL_true, mkL_false, tupD_ok, add_tup, add_lst, add_str, e1, e2]
    rw [xs_cons]
    simp (disch := first | assumption | omega | (simp only [List.length_append, List.length_take, List.length_drop, List.length_cons, List.length_nil, List.length_map, List.length_reverse, List.length_dropLast, List.length_range]; omega)) only [xc_exp, xc_set, xc_par, xc_ite, xc_fr, xc_ret, xc_retN, xc_pass, xc_brk, xc_cnt, xc_mat, xc_sst, xc_aug, ev_var, ev_cst, ev_gl, ev_bop, ev_neg, ev_boo, ev_not, ev_cmp, ev_chn, ev_ife, ev_tup, ev_lst, ev_dis, ev_lc, ev_call, ev_blt, ev_mth, ev_isi, ev_sub, ev_slc, ev_rev, evO_none, evO_some, evs_nil, evs_cons, evB_one, evB_cons, evTs_one, evTs_cons, evF_nil, evF_one, tst_not, tst_boo, tst_ife, tst_cmp, tst_chn, tst_var, tst_call, tst_blt, tst_isi, tst_cst, tst_sub, tst_mth, wlk_var, wlk_lst, wlk_call, wlk_rng1, wlk_rng2, wlk_tup, wlk_lc, wlk_bop, wlk_sub, wlk_slc, wlk_rev, wlk_blt, wlk_enm, wlk_zip, put_nm, put_tp, puts_nil, puts_cons, wipe_nil, wipe_cons, R.bnd_ok, R.of_some, R.st_ok, R.bnd_err, R.st_err, Option.map_some, List.getElem?_cons_succ, List.getElem?_cons_zero, List.set_cons_succ, List.set_cons_zero, cst_int, cst_str, cst_bool, cst_none, if_true, if_false, Bool.not_true, Bool.not_false, Bool.false_eq_true, Bool.true_eq_false, decide_true, decide_false, tru_bl, tru_non, tru_int, tru_lst, tru_tup, len_ro, len_lst, len_tup, sub_tup, sub_lst, sub_ro, at_c0, at_c1, at_c2, at_c3, at_natN, list_tup, list_lst, listM_tup, listM_lst, tuple_tup, tuple_lst, slc_tup, slc_lst, lstD_lst, it_lst, it_tup, it_ro, it_str, is_non_non, isnot_non_non, isnot_lst, is_lst, isnot_tup, is_tup, isnot_str, is_str, is_bl_bl, cmp_eq, cmp_ne, eq_str, ne_str, eq_int, ne_int, eq_bl, ne_bl, instr_ok, notinstr_ok, ltstr_ok, gtstr_ok, add_ok, sub_ok, lt_ok, gt_ok, le_ok, ge_ok, int_int, int_bl, abs_int, max_int, min_int, tupD_0, tupD_1, tupD_2, tupD_3, tupD_4, tupD_5, mkL_nil, mkL_nilF, mkL_true, mkL_false, tupD_ok, add_tup, add_lst, add_str, hline, e3]
    rw [xs_cons]
    simp (disch := first | assumption | omega | (simp only [List.length_append, List.length_take, List.length_drop, List.length_cons, List.length_nil, List.length_map, List.length_reverse, List.length_dropLast, List.length_range]; omega)) only [xc_exp, xc_set, xc_par, xc_ite, xc_fr, xc_ret, xc_retN, xc_pass, xc_brk, xc_cnt, xc_mat, xc_sst, xc_aug, ev_var, ev_cst, ev_gl, ev_bop, ev_neg, ev_boo, ev_not, ev_cmp, ev_chn, ev_ife, ev_tup, ev_lst, ev_dis, ev_lc, ev_call, ev_blt, ev_mth, ev_isi, ev_sub, ev_slc, ev_rev, evO_none, evO_some, evs_nil, evs_cons, evB_one, evB_cons, evTs_one, evTs_cons, evF_nil, evF_one, tst_not, tst_boo, tst_ife, tst_cmp, tst_chn, tst_var, tst_call, tst_blt, tst_isi, tst_cst, tst_sub, tst_mth, wlk_var, wlk_lst, wlk_call, wlk_rng1, wlk_rng2, wlk_tup, wlk_lc, wlk_bop, wlk_sub, wlk_slc, wlk_rev, wlk_blt, wlk_enm, wlk_zip, put_nm, put_tp, puts_nil, puts_cons, wipe_nil, wipe_cons, R.bnd_ok, R.of_some, R.st_ok, R.bnd_err, R.st_err, Option.map_some, List.getElem?_cons_succ, List.getElem?_cons_zero, List.set_cons_succ, List.set_cons_zero, cst_int, cst_str, cst_bool, cst_none, if_true, if_false, Bool.not_true, Bool.not_false, Bool.false_eq_true, Bool.true_eq_false, decide_true, decide_false, tru_bl, tru_non, tru_int, tru_lst, tru_tup, len_ro, len_lst, len_tup, sub_tup, sub_lst, sub_ro, at_c0, at_c1, at_c2, at_c3, at_natN, list_tup, list_lst, listM_tup, listM_lst, tuple_tup, tuple_lst, slc_tup, slc_lst, lstD_lst, it_lst, it_tup, it_ro, it_str, is_non_non, isnot_non_non, isnot_lst, is_lst, isnot_tup, is_tup, isnot_str, is_str, is_bl_bl, cmp_eq, cmp_ne, eq_str, ne_str, eq_int, ne_int, eq_bl, ne_bl, instr_ok, notinstr_ok, ltstr_ok, gtstr_ok, add_ok, sub_ok, lt_ok, gt_ok, le_ok, ge_ok, int_int, int_bl, abs_int, max_int, min_int, tupD_0, tupD_1, tupD_2, tupD_3, tupD_4, tupD_5, mkL_nil, mkL_nilF, mkL_true, mkL_false, tupD_ok, add_tup, add_lst, add_str, cT, cD1]
    rw [xs_cons]
    simp (disch := first | assumption | omega | (simp only [List.length_append, List.length_take, List.length_drop, List.length_cons, List.length_nil, List.length_map, List.length_reverse, List.length_dropLast, List.length_range]; omega)) only [xc_exp, xc_set, xc_par, xc_ite, xc_fr, xc_ret, xc_retN, xc_pass, xc_brk, xc_cnt, xc_mat, xc_sst, xc_aug, ev_var, ev_cst, ev_gl, ev_bop, ev_neg, ev_boo, ev_not, ev_cmp, ev_chn, ev_ife, ev_tup, ev_lst, ev_dis, ev_lc, ev_call, ev_blt, ev_mth, ev_isi, ev_sub, ev_slc, ev_rev, evO_none, evO_some, evs_nil, evs_cons, evB_one, evB_cons, evTs_one, evTs_cons, evF_nil, evF_one, tst_not, tst_boo, tst_ife, tst_cmp, tst_chn, tst_var, tst_call, tst_blt, tst_isi, tst_cst, tst_sub, tst_mth, wlk_var, wlk_lst, wlk_call, wlk_rng1, wlk_rng2, wlk_tup, wlk_lc, wlk_bop, wlk_sub, wlk_slc, wlk_rev, wlk_blt, wlk_enm, wlk_zip, put_nm, put_tp, puts_nil, puts_cons, wipe_nil, wipe_cons, R.bnd_ok, R.of_some, R.st_ok, R.bnd_err, R.st_err, Option.map_some, List.getElem?_cons_succ, List.getElem?_cons_zero, List.set_cons_succ, List.set_cons_zero, cst_int, cst_str, cst_bool, cst_none, if_true, if_false, Bool.not_true, Bool.not_false, Bool.false_eq_true, Bool.true_eq_false, decide_true, decide_false, tru_bl, tru_non, tru_int, tru_lst, tru_tup, len_ro, len_lst, len_tup, sub_tup, sub_lst, sub_ro, at_c0, at_c1, at_c2, at_c3, at_natN, list_tup, list_lst, listM_tup, listM_lst, tuple_tup, tuple_lst, slc_tup, slc_lst, lstD_lst, it_lst, it_tup, it_ro, it_str, is_non_non, isnot_non_non, isnot_lst, is_lst, isnot_tup, is_tup, isnot_str, is_str, is_bl_bl, cmp_eq, cmp_ne, eq_str, ne_str, eq_int, ne_int, eq_bl, ne_bl, instr_ok, notinstr_ok, ltstr_ok, gtstr_ok, add_ok, sub_ok, lt_ok, gt_ok, le_ok, ge_ok, int_int, int_bl, abs_int, max_int, min_int, tupD_0, tupD_1, tupD_2, tupD_3, tupD_4, tupD_5, mkL_nil, mkL_nilF, mkL_true, mkL_false, tupD_ok, add_tup, add_lst, add_str, sub1, subl, e4]
    rw [xs_cons]
    simp (disch := first | assumption | omega | (simp only [List.length_append, List.length_take, List.length_drop, List.length_cons, List.length_nil, List.length_map, List.length_reverse, List.length_dropLast, List.length_range]; omega)) only [xc_exp, xc_set, xc_par, xc_ite, xc_fr, xc_ret, xc_retN, xc_pass, xc_brk, xc_cnt, xc_mat, xc_sst, xc_aug, ev_var, ev_cst, ev_gl, ev_bop, ev_neg, ev_boo, ev_not, ev_cmp, ev_chn, ev_ife, ev_tup, ev_lst, ev_dis, ev_lc, ev_call, ev_blt, ev_mth, ev_isi, ev_sub, ev_slc, ev_rev, evO_none, evO_some, evs_nil, evs_cons, evB_one, evB_cons, evTs_one, evTs_cons, evF_nil, evF_one, tst_not, tst_boo, tst_ife, tst_cmp, tst_chn, tst_var, tst_call, tst_blt, tst_isi, tst_cst, tst_sub, tst_mth, wlk_var, wlk_lst, wlk_call, wlk_rng1, wlk_rng2, wlk_tup, wlk_lc, wlk_bop, wlk_sub, wlk_slc, wlk_rev, wlk_blt, wlk_enm, wlk_zip, put_nm, put_tp, puts_nil, puts_cons, wipe_nil, wipe_cons, R.bnd_ok, R.of_some, R.st_ok, R.bnd_err, R.st_err, Option.map_some, List.getElem?_cons_succ, List.getElem?_cons_zero, List.set_cons_succ, List.set_cons_zero, cst_int, cst_str, cst_bool, cst_none, if_true, if_false, Bool.not_true, Bool.not_false, Bool.false_eq_true, Bool.true_eq_false, decide_true, decide_false, tru_bl, tru_non, tru_int, tru_lst, tru_tup, len_ro, len_lst, len_tup, sub_tup, sub_lst, sub_ro, at_c0, at_c1, at_c2, at_c3, at_natN, list_tup, list_lst, listM_tup, listM_lst, tuple_tup, tuple_lst, slc_tup, slc_lst, lstD_lst, it_lst, it_tup, it_ro, it_str, is_non_non, isnot_non_non, isnot_lst, is_lst, isnot_tup, is_tup, isnot_str, is_str, is_bl_bl, cmp_eq, cmp_ne, eq_str, ne_str, eq_int, ne_int, eq_bl, ne_bl, instr_ok, notinstr_ok, ltstr_ok, gtstr_ok, add_ok, sub_ok, lt_ok, gt_ok, le_ok, ge_ok, int_int, int_bl, abs_int, max_int, min_int, tupD_0, tupD_1, tupD_2, tupD_3, tupD_4, tupD_5, mkL_nil, mkL_nilF, mkL_true, mkL_false, tupD_ok, add_tup, add_lst, add_str, lst1, e5]
    rw [xs_cons]
    simp (disch := first | assumption | omega | (simp only [List.length_append, List.length_take, List.length_drop, List.length_cons, List.length_nil, List.length_map, List.length_reverse, List.length_dropLast, List.length_range]; omega)) only [xc_exp, xc_set, xc_par, xc_ite, xc_fr, xc_ret, xc_retN, xc_pass, xc_brk, xc_cnt, xc_mat, xc_sst, xc_aug, ev_var, ev_cst, ev_gl, ev_bop, ev_neg, ev_boo, ev_not, ev_cmp, ev_chn, ev_ife, ev_tup, ev_lst, ev_dis, ev_lc, ev_call, ev_blt, ev_mth, ev_isi, ev_sub, ev_slc, ev_rev, evO_none, evO_some, evs_nil, evs_cons, evB_one, evB_cons, evTs_one, evTs_cons, evF_nil, evF_one, tst_not, tst_boo, tst_ife, tst_cmp, tst_chn, tst_var, tst_call, tst_blt, tst_isi, tst_cst, tst_sub, tst_mth, wlk_var, wlk_lst, wlk_call, wlk_rng1, wlk_rng2, wlk_tup, wlk_lc, wlk_bop, wlk_sub, wlk_slc, wlk_rev, wlk_blt, wlk_enm, wlk_zip, put_nm, put_tp, puts_nil, puts_cons, wipe_nil, wipe_cons, R.bnd_ok, R.of_some, R.st_ok, R.bnd_err, R.st_err, Option.map_some, List.getElem?_cons_succ, List.getElem?_cons_zero, List.set_cons_succ, List.set_cons_zero, cst_int, cst_str, cst_bool, cst_none, if_true, if_false, Bool.not_true, Bool.not_false, Bool.false_eq_true, Bool.true_eq_false, decide_true, decide_false, tru_bl, tru_non, tru_int, tru_lst, tru_tup, len_ro, len_lst, len_tup, sub_tup, sub_lst, sub_ro, at_c0, at_c1, at_c2, at_c3, at_natN, list_tup, list_lst, listM_tup, listM_lst, tuple_tup, tuple_lst, slc_tup, slc_lst, lstD_lst, it_lst, it_tup, it_ro, it_str, is_non_non, isnot_non_non, isnot_lst, is_lst, isnot_tup, is_tup, isnot_str, is_str, is_bl_bl, cmp_eq, cmp_ne, eq_str, ne_str, eq_int, ne_int, eq_bl, ne_bl, instr_ok, notinstr_ok, ltstr_ok, gtstr_ok, add_ok, sub_ok, lt_ok, gt_ok, le_ok, ge_ok, int_int, int_bl, abs_int, max_int, min_int, tupD_0, tupD_1, tupD_2, tupD_3, tupD_4, tupD_5, mkL_nil, mkL_nilF, mkL_true, mkL_false, tupD_ok, add_tup, add_lst, add_str, cT, cD]
    rw [xs_cons]
    simp (disch := first | assumption | omega | (simp only [List.length_append, List.length_take, List.length_drop, List.length_cons, List.length_nil, List.length_map, List.length_reverse, List.length_dropLast, List.length_range]; omega)) only [xc_exp, xc_set, xc_par, xc_ite, xc_fr, xc_ret, xc_retN, xc_pass, xc_brk, xc_cnt, xc_mat, xc_sst, xc_aug, ev_var, ev_cst, ev_gl, ev_bop, ev_neg, ev_boo, ev_not, ev_cmp, ev_chn, ev_ife, ev_tup, ev_lst, ev_dis, ev_lc, ev_call, ev_blt, ev_mth, ev_isi, ev_sub, ev_slc, ev_rev, evO_none, evO_some, evs_nil, evs_cons, evB_one, evB_cons, evTs_one, evTs_cons, evF_nil, evF_one, tst_not, tst_boo, tst_ife, tst_cmp, tst_chn, tst_var, tst_call, tst_blt, tst_isi, tst_cst, tst_sub, tst_mth, wlk_var, wlk_lst, wlk_call, wlk_rng1, wlk_rng2, wlk_tup, wlk_lc, wlk_bop, wlk_sub, wlk_slc, wlk_rev, wlk_blt, wlk_enm, wlk_zip, put_nm, put_tp, puts_nil, puts_cons, wipe_nil, wipe_cons, R.bnd_ok, R.of_some, R.st_ok, R.bnd_err, R.st_err, Option.map_some, List.getElem?_cons_succ, List.getElem?_cons_zero, List.set_cons_succ, List.set_cons_zero, cst_int, cst_str, cst_bool, cst_none, if_true, if_false, Bool.not_true, Bool.not_false, Bool.false_eq_true, Bool.true_eq_false, decide_true, decide_false, tru_bl, tru_non, tru_int, tru_lst, tru_tup, len_ro, len_lst, len_tup, sub_tup, sub_lst, sub_ro, at_c0, at_c1, at_c2, at_c3, at_natN, list_tup, list_lst, listM_tup, listM_lst, tuple_tup, tuple_lst, slc_tup, slc_lst, lstD_lst, it_lst, it_tup, it_ro, it_str, is_non_non, isnot_non_non, isnot_lst, is_lst, isnot_tup, is_tup, isnot_str, is_str, is_bl_bl, cmp_eq, cmp_ne, eq_str, ne_str, eq_int, ne_int, eq_bl, ne_bl, instr_ok, notinstr_ok, ltstr_ok, gtstr_ok, add_ok, sub_ok, lt_ok, gt_ok, le_ok, ge_ok, int_int, int_bl, abs_int, max_int, min_int, tupD_0, tupD_1, tupD_2, tupD_3, tupD_4, tupD_5, mkL_nil, mkL_nilF, mkL_true, mkL_false, tupD_ok, add_tup, add_lst, add_str, cT, cD]
    rw [xs_cons]
    have hor : ∀ ρ : Env', ρ[1]? = some (some (.tup F)) → ev (Phi T (k + 4)) T (.boo false [.call 23 [.var 1], .lst true []]) ρ M5 = .ok (.lst (O.map D.str)) M5 := fun ρ hρ => by
      simp only [ev_boo, evB_cons, evB_one, ev_call, evs_cons, evs_nil, ev_var, hρ, R.bnd_ok, e6, tru_lst]
      cases O <;> simp
    simp only [xc_set, ev_blt, evs_cons, evs_nil, ev_lc, wlk_rev, ev_rev, hor [some (.loc n), some (.tup F), some (.int at_), some (.int to_), some line, some (.str name), some (.tup (F.take at_ ++ F.drop (at_ + 1))), some odd, some none_, some (.lst (nears1 F at_ to_ line (F.take at_ ++ F.drop (at_ + 1)) ++ nears2 F to_ odd none_)), none, none, none] rfl, R.bnd_ok, lstD_lst, Option.map_some, R.of_some, it_lst, hmap, ← hlvs]
    simp (disch := first | assumption | omega | (simp only [List.length_append, List.length_take, List.length_drop, List.length_cons, List.length_nil, List.length_map, List.length_reverse, List.length_dropLast, List.length_range]; omega)) only [xc_exp, xc_set, xc_par, xc_ite, xc_fr, xc_ret, xc_retN, xc_pass, xc_brk, xc_cnt, xc_mat, xc_sst, xc_aug, ev_var, ev_cst, ev_gl, ev_bop, ev_neg, ev_boo, ev_not, ev_cmp, ev_chn, ev_ife, ev_tup, ev_lst, ev_dis, ev_lc, ev_call, ev_blt, ev_mth, ev_isi, ev_sub, ev_slc, ev_rev, evO_none, evO_some, evs_nil, evs_cons, evB_one, evB_cons, evTs_one, evTs_cons, evF_nil, evF_one, tst_not, tst_boo, tst_ife, tst_cmp, tst_chn, tst_var, tst_call, tst_blt, tst_isi, tst_cst, tst_sub, tst_mth, wlk_var, wlk_lst, wlk_call, wlk_rng1, wlk_rng2, wlk_tup, wlk_lc, wlk_bop, wlk_sub, wlk_slc, wlk_rev, wlk_blt, wlk_enm, wlk_zip, put_nm, put_tp, puts_nil, puts_cons, wipe_nil, wipe_cons, R.bnd_ok, R.of_some, R.st_ok, R.bnd_err, R.st_err, Option.map_some, List.getElem?_cons_succ, List.getElem?_cons_zero, List.set_cons_succ, List.set_cons_zero, cst_int, cst_str, cst_bool, cst_none, if_true, if_false, Bool.not_true, Bool.not_false, Bool.false_eq_true, Bool.true_eq_false, decide_true, decide_false, tru_bl, tru_non, tru_int, tru_lst, tru_tup, len_ro, len_lst, len_tup, sub_tup, sub_lst, sub_ro, at_c0, at_c1, at_c2, at_c3, at_natN, list_tup, list_lst, listM_tup, listM_lst, tuple_tup, tuple_lst, slc_tup, slc_lst, lstD_lst, it_lst, it_tup, it_ro, it_str, is_non_non, isnot_non_non, isnot_lst, is_lst, isnot_tup, is_tup, isnot_str, is_str, is_bl_bl, cmp_eq, cmp_ne, eq_str, ne_str, eq_int, ne_int, eq_bl, ne_bl, instr_ok, notinstr_ok, ltstr_ok, gtstr_ok, add_ok, sub_ok, lt_ok, gt_ok, le_ok, ge_ok, int_int, int_bl, abs_int, max_int, min_int, tupD_0, tupD_1, tupD_2, tupD_3, tupD_4, tupD_5, mkL_nil, mkL_nilF, mkL_true, mkL_false, tupD_ok, add_tup, add_lst, add_str]
    rw [xs_cons]
    simp (disch := first | assumption | omega | (simp only [List.length_append, List.length_take, List.length_drop, List.length_cons, List.length_nil, List.length_map, List.length_reverse, List.length_dropLast, List.length_range]; omega)) only [xc_exp, xc_set, xc_par, xc_ite, xc_fr, xc_ret, xc_retN, xc_pass, xc_brk, xc_cnt, xc_mat, xc_sst, xc_aug, ev_var, ev_cst, ev_gl, ev_bop, ev_neg, ev_boo, ev_not, ev_cmp, ev_chn, ev_ife, ev_tup, ev_lst, ev_dis, ev_lc, ev_call, ev_blt, ev_mth, ev_isi, ev_sub, ev_slc, ev_rev, evO_none, evO_some, evs_nil, evs_cons, evB_one, evB_cons, evTs_one, evTs_cons, evF_nil, evF_one, tst_not, tst_boo, tst_ife, tst_cmp, tst_chn, tst_var, tst_call, tst_blt, tst_isi, tst_cst, tst_sub, tst_mth, wlk_var, wlk_lst, wlk_call, wlk_rng1, wlk_rng2, wlk_tup, wlk_lc, wlk_bop, wlk_sub, wlk_slc, wlk_rev, wlk_blt, wlk_enm, wlk_zip, put_nm, put_tp, puts_nil, puts_cons, wipe_nil, wipe_cons, R.bnd_ok, R.of_some, R.st_ok, R.bnd_err, R.st_err, Option.map_some, List.getElem?_cons_succ, List.getElem?_cons_zero, List.set_cons_succ, List.set_cons_zero, cst_int, cst_str, cst_bool, cst_none, if_true, if_false, Bool.not_true, Bool.not_false, Bool.false_eq_true, Bool.true_eq_false, decide_true, decide_false, tru_bl, tru_non, tru_int, tru_lst, tru_tup, len_ro, len_lst, len_tup, sub_tup, sub_lst, sub_ro, at_c0, at_c1, at_c2, at_c3, at_natN, list_tup, list_lst, listM_tup, listM_lst, tuple_tup, tuple_lst, slc_tup, slc_lst, lstD_lst, it_lst, it_tup, it_ro, it_str, is_non_non, isnot_non_non, isnot_lst, is_lst, isnot_tup, is_tup, isnot_str, is_str, is_bl_bl, cmp_eq, cmp_ne, eq_str, ne_str, eq_int, ne_int, eq_bl, ne_bl, instr_ok, notinstr_ok, ltstr_ok, gtstr_ok, add_ok, sub_ok, lt_ok, gt_ok, le_ok, ge_ok, int_int, int_bl, abs_int, max_int, min_int, tupD_0, tupD_1, tupD_2, tupD_3, tupD_4, tupD_5, mkL_nil, mkL_nilF, mkL_true, mkL_false, tupD_ok, add_tup, add_lst, add_str]
    rw [xs_cons]
    simp (disch := first | assumption | omega | (simp only [List.length_append, List.length_take, List.length_drop, List.length_cons, List.length_nil, List.length_map, List.length_reverse, List.length_dropLast, List.length_range]; omega)) only [xc_exp, xc_set, xc_par, xc_ite, xc_fr, xc_ret, xc_retN, xc_pass, xc_brk, xc_cnt, xc_mat, xc_sst, xc_aug, ev_var, ev_cst, ev_gl, ev_bop, ev_neg, ev_boo, ev_not, ev_cmp, ev_chn, ev_ife, ev_tup, ev_lst, ev_dis, ev_lc, ev_call, ev_blt, ev_mth, ev_isi, ev_sub, ev_slc, ev_rev, evO_none, evO_some, evs_nil, evs_cons, evB_one, evB_cons, evTs_one, evTs_cons, evF_nil, evF_one, tst_not, tst_boo, tst_ife, tst_cmp, tst_chn, tst_var, tst_call, tst_blt, tst_isi, tst_cst, tst_sub, tst_mth, wlk_var, wlk_lst, wlk_call, wlk_rng1, wlk_rng2, wlk_tup, wlk_lc, wlk_bop, wlk_sub, wlk_slc, wlk_rev, wlk_blt, wlk_enm, wlk_zip, put_nm, put_tp, puts_nil, puts_cons, wipe_nil, wipe_cons, R.bnd_ok, R.of_some, R.st_ok, R.bnd_err, R.st_err, Option.map_some, List.getElem?_cons_succ, List.getElem?_cons_zero, List.set_cons_succ, List.set_cons_zero, cst_int, cst_str, cst_bool, cst_none, if_true, if_false, Bool.not_true, Bool.not_false, Bool.false_eq_true, Bool.true_eq_false, decide_true, decide_false, tru_bl, tru_non, tru_int, tru_lst, tru_tup, len_ro, len_lst, len_tup, sub_tup, sub_lst, sub_ro, at_c0, at_c1, at_c2, at_c3, at_natN, list_tup, list_lst, listM_tup, listM_lst, tuple_tup, tuple_lst, slc_tup, slc_lst, lstD_lst, it_lst, it_tup, it_ro, it_str, is_non_non, isnot_non_non, isnot_lst, is_lst, isnot_tup, is_tup, isnot_str, is_str, is_bl_bl, cmp_eq, cmp_ne, eq_str, ne_str, eq_int, ne_int, eq_bl, ne_bl, instr_ok, notinstr_ok, ltstr_ok, gtstr_ok, add_ok, sub_ok, lt_ok, gt_ok, le_ok, ge_ok, int_int, int_bl, abs_int, max_int, min_int, tupD_0, tupD_1, tupD_2, tupD_3, tupD_4, tupD_5, mkL_nil, mkL_nilF, mkL_true, mkL_false, tupD_ok, add_tup, add_lst, add_str, cut_init]
    rw [xs_one]
    simp (disch := first | assumption | omega | (simp only [List.length_append, List.length_take, List.length_drop, List.length_cons, List.length_nil, List.length_map, List.length_reverse, List.length_dropLast, List.length_range]; omega)) only [xc_exp, xc_set, xc_par, xc_ite, xc_fr, xc_ret, xc_retN, xc_pass, xc_brk, xc_cnt, xc_mat, xc_sst, xc_aug, ev_var, ev_cst, ev_gl, ev_bop, ev_neg, ev_boo, ev_not, ev_cmp, ev_chn, ev_ife, ev_tup, ev_lst, ev_dis, ev_lc, ev_call, ev_blt, ev_mth, ev_isi, ev_sub, ev_slc, ev_rev, evO_none, evO_some, evs_nil, evs_cons, evB_one, evB_cons, evTs_one, evTs_cons, evF_nil, evF_one, tst_not, tst_boo, tst_ife, tst_cmp, tst_chn, tst_var, tst_call, tst_blt, tst_isi, tst_cst, tst_sub, tst_mth, wlk_var, wlk_lst, wlk_call, wlk_rng1, wlk_rng2, wlk_tup, wlk_lc, wlk_bop, wlk_sub, wlk_slc, wlk_rev, wlk_blt, wlk_enm, wlk_zip, put_nm, put_tp, puts_nil, puts_cons, wipe_nil, wipe_cons, R.bnd_ok, R.of_some, R.st_ok, R.bnd_err, R.st_err, Option.map_some, List.getElem?_cons_succ, List.getElem?_cons_zero, List.set_cons_succ, List.set_cons_zero, cst_int, cst_str, cst_bool, cst_none, if_true, if_false, Bool.not_true, Bool.not_false, Bool.false_eq_true, Bool.true_eq_false, decide_true, decide_false, tru_bl, tru_non, tru_int, tru_lst, tru_tup, len_ro, len_lst, len_tup, sub_tup, sub_lst, sub_ro, at_c0, at_c1, at_c2, at_c3, at_natN, list_tup, list_lst, listM_tup, listM_lst, tuple_tup, tuple_lst, slc_tup, slc_lst, lstD_lst, it_lst, it_tup, it_ro, it_str, is_non_non, isnot_non_non, isnot_lst, is_lst, isnot_tup, is_tup, isnot_str, is_str, is_bl_bl, cmp_eq, cmp_ne, eq_str, ne_str, eq_int, ne_int, eq_bl, ne_bl, instr_ok, notinstr_ok, ltstr_ok, gtstr_ok, add_ok, sub_ok, lt_ok, gt_ok, le_ok, ge_ok, int_int, int_bl, abs_int, max_int, min_int, tupD_0, tupD_1, tupD_2, tupD_3, tupD_4, tupD_5, mkL_nil, mkL_nilF, mkL_true, mkL_false, tupD_ok, add_tup, add_lst, add_str]
    rfl
  · intro v hv
    simp only [List.mem_append] at hv
    have z1 : Fl [line] 30 := Fl.one hln.pl hln.hd (by have := hln.dp; omega) hln.wt
    have z2 : Fl [odd] 60 := Fl.one ho.1 ho.2.1 ho.2.2.1 ho.2.2.2
    have z3 : Fl [none_] 60 := Fl.one hn.1 hn.2.1 hn.2.2.1 hn.2.2.2
    have hr : Fl (F.take at_ ++ F.drop (at_ + 1)) 1500 := ((hF.take at_).app (hF.drop (at_ + 1))).le (by omega)
    have hF' : Fl F 750 := hF.le (by omega)
    have hl' : Fl lvs 750 := hlv.le (by omega)
    rcases hv with ((hv | hv) | hv) | hv
    · simp only [nears1, List.mem_cons, List.not_mem_nil, or_false] at hv
      rcases hv with rfl | rfl | rfl | rfl | rfl | rfl | rfl
      · exact vF
      · exact vq_lst hF' (by omega)
      · exact vq_tup hr (by omega)
      · exact vq_tup (((hF'.take _).app z1).app (hF'.drop _)) (by omega)
      · exact vq_tup (((hr.take _).app z1).app (hr.drop _)) (by omega)
      · exact vq_tup (hF'.take _) (by omega)
      · exact vq_tup (hF'.drop _) (by omega)
    · simp only [nears2, List.mem_cons, List.not_mem_nil, or_false] at hv
      rcases hv with rfl | rfl | rfl | rfl | rfl
      · exact vq_tup (((hF'.take _).app z2).app (hF'.drop _)) (by omega)
      · exact vq_tup (((hF'.take _).app z3).app (hF'.drop _)) (by omega)
      · exact vq_tup hF'.rev (by omega)
      · exact vq_tup (hF'.app hF') (by omega)
      · exact vq_tup (hF'.app z2) (by omega)
    · have w := hF'.app hl'
      have e1 : Ln (.tup [.str sEnter, .str name]) := ln2 (.inl rfl) hname
      have e2 : Ln (.tup [.str sSay, .str (Str.ofString "a")]) := ln2 (.inr (.inr rfl)) (by decide +kernel)
      have f1 := fun (l : Dv.D) (h : Ln l) => Fl.one (w := 30) h.pl h.hd (by have := h.dp; omega) h.wt
      simp only [nears3, List.mem_cons, List.not_mem_nil, or_false] at hv
      rcases hv with rfl | rfl | rfl | rfl | rfl
      · exact vq_tup w (by omega)
      · exact vq_tup (w.app (f1 _ e2)) (by omega)
      · exact vq_tup (w.app (f1 _ e1)) (by omega)
      · exact vq_tup (w.app hl') (by omega)
      · exact vq_tup w.init (by omega)
    · simp only [nears4, List.mem_cons, List.not_mem_nil, or_false] at hv
      rcases hv with rfl | rfl | rfl | rfl | rfl | rfl | rfl | rfl
      · exact vq_tup z2 (by omega)
      · exact vq_tup z3 (by omega)
      · exact vq_one hln.pl hln.hd (by have := hln.dp; omega) (by have := hln.wt; omega)
      · exact ⟨by decide +kernel, by decide +kernel, by decide +kernel⟩
      · exact ⟨by decide +kernel, by decide +kernel, by decide +kernel⟩
      · exact ⟨by decide +kernel, by decide +kernel, by decide +kernel⟩
      · exact ⟨by decide +kernel, by decide +kernel, by decide +kernel⟩
      · have := hln.dp
        exact vq_tup (Fl.one (w := 40) (by simp [D.pl, D.pls, hln.pl]) (by simp [D.hD, D.hDs, hln.hd]) (by simp only [D.dp, D.dps]; omega) (by have := hln.wt; simp only [D.wt, D.wts]; omega)) (by omega)
end
end L2.Dv.K02
namespace L2.Dv.K02
open PySem PySem.Spec PyProof.Rows L2.Dv.P
section
variable {T : Tb} [HF T 10 f10] [HF T 11 f11] [HF T 12 f12] [HF T 13 f13] [HF T 14 f14] [HF T 15 f15] [HF T 16 f16] [HF T 17 f17] [HF T 18 f18] [HF T 19 f19] [HF T 21 f21] [HF T 22 f22] [HF T 23 f23] [HF T 24 f24] [HF T 25 f25] [HF T 26 f26] [HF T 27 f27] [HF T 28 f28] [HG T 0 (.int 10000000000000000000000000000000000000000)] [HG T 1 (.int 8)] [HG T 2 (.str (Str.ofString "abcdefghijklmnopqrstuvwxyz"))] [HG T 3 (.int 4)] [HR T 0] [HX T 0 0 true]
variable {k n : Nat} {M M0 : Mem} {d : Dv.D}
theorem refused_ok (h : Vq d) : Phi T (k + 6) 26 [d] M = .ok (.bl (callsL d).isNone) M := by
  rw [phi_fn (e := f26) rfl]
  show fin true M (xs (Phi T (k + 5)) T b26 [some d] M) = _
  have e := open_calls_ok (T := T) (k := k) (M := M) h.gq
  cases hc : callsL d with
  | none =>
    rw [hc] at e
    simp [b26, xc_tr1, e]
  | some l =>
    rw [hc] at e
    simp [b26, xc_tr1, e]
theorem step_wt {i : Nat} {st st' : List Str} {l : Dv.D} (e : cstep i st l = some st') : D.wts (st'.map D.str) ≤ D.wts (st.map D.str) + l.wt ∧ ((∀ x ∈ st, isNm x = true) → ∀ x ∈ st', isNm x = true) := by
  simp only [cstep, Option.ite_none_right_eq_some, Option.ite_none_left_eq_some] at e
  obtain ⟨hl, _, e⟩ := e
  obtain ⟨a, b, r, rfl, hb, _⟩ := line_form hl
  have hr : ∀ st : List Str, D.wts (st.dropLast.map D.str) ≤ D.wts (st.map D.str) := fun st => wts_sub ((List.dropLast_sublist st).map _)
  split at e
  · cases e
    refine ⟨?_, fun h x hx => ?_⟩
    · rw [List.map_append, wts_app]
      simp only [List.map_cons, List.map_nil, D.wts, D.wt, argS]
      omega
    · rcases List.mem_append.mp hx with hx | hx
      · exact h x hx
      · rw [List.mem_singleton.mp hx]; exact hb
  · split at e
    · simp only [Option.ite_none_right_eq_some, Option.some.injEq] at e
      rw [← e.2]
      exact ⟨Nat.le_trans (hr st) (Nat.le_add_right _ _), fun h x hx => h x (List.dropLast_subset _ hx)⟩
    · cases e
      exact ⟨Nat.le_add_right _ _, fun h => h⟩
theorem walk_wt : ∀ {ls : List Dv.D} {i : Nat} {st st' : List Str}, cwalk i st ls = some st' → D.wts (st'.map D.str) ≤ D.wts (st.map D.str) + D.wts ls ∧ ((∀ x ∈ st, isNm x = true) → ∀ x ∈ st', isNm x = true)
  | [], i, st, st', h => by cases h; exact ⟨Nat.le_add_right _ _, fun h => h⟩
  | x :: r, i, st, st', h => by
    simp only [cwalk] at h
    split at h
    · rename_i st1 e
      obtain ⟨a, b⟩ := step_wt e
      obtain ⟨c, f⟩ := walk_wt h
      refine ⟨?_, fun z => f (b z)⟩
      simp only [D.wts]
      omega
    · cases h
theorem Vq.repr (h : Vq d) : bltD .repr [d] M = .ok (.str (shD d)) M := by
  have a := h.sm
  unfold P.sm at a
  simp only [Bool.and_eq_true, Bool.or_eq_true, Bool.not_eq_true'] at a
  refine repr_ok a.1 (by have := h.wt; omega) h.dp ?_
  rcases a.2 with z | z
  · exact .inl z
  · refine .inr ?_
    cases d <;> first | rfl | cases z
theorem repr_calls {l : List Str} (h : Vq d) (e : callsL d = some l) : bltD .repr [.tup (l.map D.str)] M = .ok (.str (shD (.tup (l.map D.str)))) M := by
  have key : D.wts (l.map D.str) ≤ d.wt ∧ ∀ x ∈ l, isNm x = true := by
    unfold callsL at e
    split at e
    · cases e
    · rename_i ls _
      obtain ⟨a, b⟩ := walk_wt e
      refine ⟨by simp only [List.map_nil, D.wts, D.wt] at a ⊢; omega, b (fun x hx => nomatch hx)⟩
    · cases e
  have hw := h.wt
  have hd : D.dps (l.map D.str) ≤ 0 := dps_le fun x hx => by obtain ⟨w, _, rfl⟩ := List.mem_map.mp hx; exact Nat.le_refl _
  exact repr_ok (strs_pl key.2) (by simp only [D.wt]; omega) (by simp only [D.dp]; omega) (.inl strs_hd)
theorem right_turn {v : Dv.D} {F : List Dv.D} {a b : Option Dv.D} {c : Option Dv.D} (h : Vq v) : frF (Phi T (k + 6)) T (.nm 2) b27_0 v [some (.loc n), some (.tup F), a, b, c] M = .nx [some (.loc n), some (.tup F), some v, some (optL (callsL v)), some (.str (shD v))] M := by
  have e1 := open_in_ok (T := T) (k := k + 2) (M := M) h
  have e2 := is_log_ok (T := T) (k := k + 1) (M := M) h.gq
  have e3 := refused_ok (T := T) (k := k) (M := M) h
  have e4 := open_calls_ok (T := T) (k := k + 1) (M := M) h.gq
  have e5 := h.repr (M := M)
  rw [fr_nm]
  unfold b27_0
  rw [xs_cons]
  simp only [xc_exp, xc_set, xc_par, xc_ite, xc_fr, xc_ret, xc_retN, xc_pass, xc_brk, xc_cnt, xc_mat, xc_sst, xc_aug, ev_var, ev_cst, ev_gl, ev_bop, ev_neg, ev_boo, ev_not, ev_cmp, ev_chn, ev_ife, ev_tup, ev_lst, ev_dis, ev_lc, ev_call, ev_blt, ev_mth, ev_isi, ev_sub, ev_slc, ev_rev, evO_none, evO_some, evs_nil, evs_cons, evB_one, evB_cons, evTs_one, evTs_cons, evF_nil, evF_one, tst_not, tst_boo, tst_ife, tst_cmp, tst_chn, tst_var, tst_call, tst_blt, tst_isi, tst_cst, tst_sub, tst_mth, wlk_var, wlk_lst, wlk_call, wlk_rng1, wlk_rng2, wlk_tup, wlk_lc, wlk_bop, wlk_sub, wlk_slc, wlk_rev, wlk_blt, wlk_enm, wlk_zip, put_nm, put_tp, puts_nil, puts_cons, wipe_nil, wipe_cons, R.bnd_ok, R.of_some, R.st_ok, R.bnd_err, R.st_err, Option.map_some, List.getElem?_cons_succ, List.getElem?_cons_zero, List.set_cons_succ, List.set_cons_zero, cst_int, cst_str, cst_bool, cst_none, if_true, if_false, Bool.not_true, Bool.not_false, Bool.false_eq_true, Bool.true_eq_false, decide_true, decide_false, tru_bl, tru_non, tru_int, tru_lst, tru_tup, len_ro, len_lst, len_tup, sub_tup, sub_lst, sub_ro, at_c0, at_c1, at_c2, at_c3, at_natN, list_tup, list_lst, listM_tup, listM_lst, tuple_tup, tuple_lst, slc_tup, slc_lst, lstD_lst, it_lst, it_tup, it_ro, it_str, is_non_non, isnot_non_non, isnot_lst, is_lst, isnot_tup, is_tup, isnot_str, is_str, is_bl_bl, cmp_eq, cmp_ne, eq_str, ne_str, eq_int, ne_int, eq_bl, ne_bl, instr_ok, notinstr_ok, ltstr_ok, gtstr_ok, add_ok, sub_ok, lt_ok, gt_ok, le_ok, ge_ok, int_int, int_bl, abs_int, max_int, min_int, tupD_0, tupD_1, tupD_2, tupD_3, tupD_4, tupD_5, mkL_nil, mkL_nilF, mkL_true, mkL_false, tupD_ok, add_tup, add_lst, add_str, e1, e5]
  cases hc : callsL v with
  | none =>
    rw [hc] at e2 e3
    simp [optL, e2, e3, e5]
  | some l =>
    rw [hc] at e2 e3 e4
    have e6 := repr_calls (M := M) h hc
    simp [optL, e2, e3, e5, e4, e6]
theorem right_ok (hu : Urn n M0 M) : ∃ M', Phi T (k + 7) 27 [.loc n] M = .ok (.bl true) M' ∧ Urn n M0 M' := by
  obtain ⟨F, O, M1, e1, hu1, inv⟩ := log_ok (T := T) (k := k + 2) hu
  obtain ⟨vs, M2, e2, hu2, hvs, hvl⟩ := near_ok (T := T) (k := k + 1) hu1 inv
  have hcl : callsL (.tup F) = some O := by
    have := inv.w
    have nf := inv.nf
    cases F with
    | nil => exact absurd rfl nf
    | cons x r => exact this
  have vF : Vq (.tup F) := vq_tup (lns_fl inv.ln) (by have := inv.len; omega)
  have v0 : Vq (.tup []) := ⟨by decide +kernel, by decide +kernel, by decide +kernel⟩
  have e3 := is_log_ok (T := T) (k := k + 1) (M := M2) vF.gq
  have e4 := is_log_ok (T := T) (k := k + 1) (M := M2) v0.gq
  have e5 := refused_ok (T := T) (k := k) (M := M2) v0
  rw [hcl] at e3
  obtain ⟨ρ', M', e6, ⟨a, b, c, rfl⟩, rfl⟩ := loopF_inv (N := 26) (g := frF (Phi T (k + 6)) T (.nm 2) b27_0) (I := fun i ρ N => (∃ a b c, ρ = [some (.loc n), some (.tup F), a, b, c]) ∧ N = M2)
    (xs := vs ++ [.tup F]) (i := 0) (ρ := [some (.loc n), some (.tup F), none, none, none]) (M := M2)
    (fun v i ρ N hv hi ⟨⟨a, b, c, e⟩, e'⟩ => by
      subst e e'
      have hvq : Vq v := by
        rcases List.mem_append.mp hv with hv | hv
        · exact hvs v hv
        · rw [List.mem_singleton.mp hv]; exact vF
      exact ⟨_, _, .inl (right_turn (k := k) hvq), ⟨_, _, _, rfl⟩, rfl⟩) (by simp [hvl]) ⟨⟨none, none, none, rfl⟩, rfl⟩
  refine ⟨M', ?_, hu2⟩
  rw [phi_fn (e := f27) rfl]
  show fin true M (xs (Phi T (k + 6)) T b27 [some (.loc n), none, none, none, none] M) = _
  unfold b27
  rw [xs_cons]
  simp (disch := first | assumption | omega | (simp only [List.length_append, List.length_take, List.length_drop, List.length_cons, List.length_nil, List.length_map, List.length_reverse, List.length_dropLast, List.length_range]; omega)) only [xc_exp, xc_set, xc_par, xc_ite, xc_fr, xc_ret, xc_retN, xc_pass, xc_brk, xc_cnt, xc_mat, xc_sst, xc_aug, ev_var, ev_cst, ev_gl, ev_bop, ev_neg, ev_boo, ev_not, ev_cmp, ev_chn, ev_ife, ev_tup, ev_lst, ev_dis, ev_lc, ev_call, ev_blt, ev_mth, ev_isi, ev_sub, ev_slc, ev_rev, evO_none, evO_some, evs_nil, evs_cons, evB_one, evB_cons, evTs_one, evTs_cons, evF_nil, evF_one, tst_not, tst_boo, tst_ife, tst_cmp, tst_chn, tst_var, tst_call, tst_blt, tst_isi, tst_cst, tst_sub, tst_mth, wlk_var, wlk_lst, wlk_call, wlk_rng1, wlk_rng2, wlk_tup, wlk_lc, wlk_bop, wlk_sub, wlk_slc, wlk_rev, wlk_blt, wlk_enm, wlk_zip, put_nm, put_tp, puts_nil, puts_cons, wipe_nil, wipe_cons, R.bnd_ok, R.of_some, R.st_ok, R.bnd_err, R.st_err, Option.map_some, List.getElem?_cons_succ, List.getElem?_cons_zero, List.set_cons_succ, List.set_cons_zero, cst_int, cst_str, cst_bool, cst_none, if_true, if_false, Bool.not_true, Bool.not_false, Bool.false_eq_true, Bool.true_eq_false, decide_true, decide_false, tru_bl, tru_non, tru_int, tru_lst, tru_tup, len_ro, len_lst, len_tup, sub_tup, sub_lst, sub_ro, at_c0, at_c1, at_c2, at_c3, at_natN, list_tup, list_lst, listM_tup, listM_lst, tuple_tup, tuple_lst, slc_tup, slc_lst, lstD_lst, it_lst, it_tup, it_ro, it_str, is_non_non, isnot_non_non, isnot_lst, is_lst, isnot_tup, is_tup, isnot_str, is_str, is_bl_bl, cmp_eq, cmp_ne, eq_str, ne_str, eq_int, ne_int, eq_bl, ne_bl, instr_ok, notinstr_ok, ltstr_ok, gtstr_ok, add_ok, sub_ok, lt_ok, gt_ok, le_ok, ge_ok, int_int, int_bl, abs_int, max_int, min_int, tupD_0, tupD_1, tupD_2, tupD_3, tupD_4, tupD_5, mkL_nil, mkL_nilF, mkL_true, mkL_false, tupD_ok, add_tup, add_lst, add_str, e1]
  rw [xs_cons]
  simp (disch := first | assumption | omega | (simp only [List.length_append, List.length_take, List.length_drop, List.length_cons, List.length_nil, List.length_map, List.length_reverse, List.length_dropLast, List.length_range]; omega)) only [xc_exp, xc_set, xc_par, xc_ite, xc_fr, xc_ret, xc_retN, xc_pass, xc_brk, xc_cnt, xc_mat, xc_sst, xc_aug, ev_var, ev_cst, ev_gl, ev_bop, ev_neg, ev_boo, ev_not, ev_cmp, ev_chn, ev_ife, ev_tup, ev_lst, ev_dis, ev_lc, ev_call, ev_blt, ev_mth, ev_isi, ev_sub, ev_slc, ev_rev, evO_none, evO_some, evs_nil, evs_cons, evB_one, evB_cons, evTs_one, evTs_cons, evF_nil, evF_one, tst_not, tst_boo, tst_ife, tst_cmp, tst_chn, tst_var, tst_call, tst_blt, tst_isi, tst_cst, tst_sub, tst_mth, wlk_var, wlk_lst, wlk_call, wlk_rng1, wlk_rng2, wlk_tup, wlk_lc, wlk_bop, wlk_sub, wlk_slc, wlk_rev, wlk_blt, wlk_enm, wlk_zip, put_nm, put_tp, puts_nil, puts_cons, wipe_nil, wipe_cons, R.bnd_ok, R.of_some, R.st_ok, R.bnd_err, R.st_err, Option.map_some, List.getElem?_cons_succ, List.getElem?_cons_zero, List.set_cons_succ, List.set_cons_zero, cst_int, cst_str, cst_bool, cst_none, if_true, if_false, Bool.not_true, Bool.not_false, Bool.false_eq_true, Bool.true_eq_false, decide_true, decide_false, tru_bl, tru_non, tru_int, tru_lst, tru_tup, len_ro, len_lst, len_tup, sub_tup, sub_lst, sub_ro, at_c0, at_c1, at_c2, at_c3, at_natN, list_tup, list_lst, listM_tup, listM_lst, tuple_tup, tuple_lst, slc_tup, slc_lst, lstD_lst, it_lst, it_tup, it_ro, it_str, is_non_non, isnot_non_non, isnot_lst, is_lst, isnot_tup, is_tup, isnot_str, is_str, is_bl_bl, cmp_eq, cmp_ne, eq_str, ne_str, eq_int, ne_int, eq_bl, ne_bl, instr_ok, notinstr_ok, ltstr_ok, gtstr_ok, add_ok, sub_ok, lt_ok, gt_ok, le_ok, ge_ok, int_int, int_bl, abs_int, max_int, min_int, tupD_0, tupD_1, tupD_2, tupD_3, tupD_4, tupD_5, mkL_nil, mkL_nilF, mkL_true, mkL_false, tupD_ok, add_tup, add_lst, add_str, e2]
  rw [e6]
  simp only [xs_one]
  simp [e3, e4, e5, callsL]
end
end L2.Dv.K02
namespace L2.Dv.K02
open PySem PySem.Spec PyProof.Rows L2.Dv.P
section
variable {T : Tb} [HF T 10 f10] [HF T 11 f11] [HF T 12 f12] [HF T 13 f13] [HF T 14 f14] [HF T 15 f15] [HF T 16 f16] [HF T 17 f17] [HF T 18 f18] [HF T 19 f19] [HF T 21 f21] [HF T 22 f22] [HF T 23 f23] [HF T 24 f24] [HF T 25 f25] [HF T 26 f26] [HF T 27 f27] [HF T 28 f28] [HG T 0 (.int 10000000000000000000000000000000000000000)] [HG T 1 (.int 8)] [HG T 2 (.str (Str.ofString "abcdefghijklmnopqrstuvwxyz"))] [HG T 3 (.int 4)] [HR T 0] [HX T 0 0 true]
variable {k n : Nat} {M M0 : Mem} {d : Dv.D}
abbrev dE : Dv.D := .tup [.str sEnter, .str (Str.ofString "p")]
abbrev dS : Dv.D := .tup [.str sSay, .str (Str.ofString "a")]
abbrev dL : Dv.D := .tup [.str sLeave, .str (Str.ofString "p")]
def deepL : List Dv.D := List.replicate 60 dE ++ [dS] ++ List.replicate 60 dL
theorem flat_rep {x : Dv.D} : ∀ j : Nat, (List.replicate j [x]).flatten = List.replicate j x
  | 0 => rfl
  | j + 1 => by rw [List.replicate_succ, List.flatten_cons, flat_rep j]; rfl
theorem vq_of {l : List Dv.D} (h : (P.sm (.tup l) && decide ((Dv.D.tup l).wt < 7000) && decide ((Dv.D.tup l).dp ≤ 60)) = true) : Vq (.tup l) := by
  simp only [Bool.and_eq_true, decide_eq_true_eq] at h
  exact ⟨h.1.1, h.1.2, h.2⟩
theorem law_ok (ns : List Int) (hns : ns.length ≤ 63) : ∃ M, Phi T (k + 9) 28 [.ro (ns.map D.int)] [] = .ok (.bl true) M := by
  have inner : ∀ (i : Nat) (ρ : Env') (N : Mem) (x : Dv.D), x ∈ ((List.range (max 1 (min 8 ns.length))).map fun (i : Nat) => Dv.D.int (i : Int)) → (∃ a b c e f, ρ = [some (.ro (ns.map D.int)), a, b, c, e, f]) → ∃ ρ' N', (frF (Phi T (k + 8)) T (.nm 1) b28_1 x ρ N = .nx ρ' N' ∨ frF (Phi T (k + 8)) T (.nm 1) b28_1 x ρ N = .ct ρ' N') ∧ ∃ a b c e f, ρ' = [some (.ro (ns.map D.int)), a, b, c, e, f] := by
    rintro i ρ N x hx ⟨a, b, c, e, f, rfl⟩
    obtain ⟨j, hj, rfl⟩ := List.mem_map.mp hx
    have hj' := List.mem_range.mp hj
    have r3 := fun M => rng1_int (M := M) (i := 3) (j := 3) rfl (by decide)
    obtain ⟨u, e1, hu⟩ := urn_ok (T := T) (k := k + 7) (M := N) (ns := ns) (at_ := (j : Int)) (by omega) (by omega)
    obtain ⟨ρ', N', e2, ⟨a', b', c', e', rfl⟩, _⟩ := loopF_inv (N := 3) (g := frF (Phi T (k + 8)) T (.nm 3) b28_0) (I := fun i ρ N2 => (∃ a b c e, ρ = [some (.ro (ns.map D.int)), a, some (.loc N.length), b, c, e]) ∧ Urn N.length (N ++ [some (.lst u)]) N2)
      (xs := (List.range 3).map fun (i : Nat) => Dv.D.int (i : Int)) (i := 0) (ρ := [some (.ro (ns.map D.int)), some (.int j), some (.loc N.length), c, e, f]) (M := N ++ [some (.lst u)])
      (fun y i ρ N2 _ hi ⟨⟨a, b, c, e, q⟩, hq⟩ => by
        subst q
        obtain ⟨N3, e3, hq3⟩ := right_ok (T := T) (k := k + 1) hq
        refine ⟨[some (.ro (ns.map D.int)), a, some (.loc N.length), some y, c, e], N3, .inl ?_, ⟨a, some y, c, e, rfl⟩, hq3⟩
        rw [fr_nm]
        unfold b28_0
        rw [xs_one]
        simp only [xc_exp, xc_set, xc_par, xc_ite, xc_fr, xc_ret, xc_retN, xc_pass, xc_brk, xc_cnt, xc_mat, xc_sst, xc_aug, ev_var, ev_cst, ev_gl, ev_bop, ev_neg, ev_boo, ev_not, ev_cmp, ev_chn, ev_ife, ev_tup, ev_lst, ev_dis, ev_lc, ev_call, ev_blt, ev_mth, ev_isi, ev_sub, ev_slc, ev_rev, evO_none, evO_some, evs_nil, evs_cons, evB_one, evB_cons, evTs_one, evTs_cons, evF_nil, evF_one, tst_not, tst_boo, tst_ife, tst_cmp, tst_chn, tst_var, tst_call, tst_blt, tst_isi, tst_cst, tst_sub, tst_mth, wlk_var, wlk_lst, wlk_call, wlk_rng1, wlk_rng2, wlk_tup, wlk_lc, wlk_bop, wlk_sub, wlk_slc, wlk_rev, wlk_blt, wlk_enm, wlk_zip, put_nm, put_tp, puts_nil, puts_cons, wipe_nil, wipe_cons, R.bnd_ok, R.of_some, R.st_ok, R.bnd_err, R.st_err, Option.map_some, List.getElem?_cons_succ, List.getElem?_cons_zero, List.set_cons_succ, List.set_cons_zero, cst_int, cst_str, cst_bool, cst_none, if_true, if_false, Bool.not_true, Bool.not_false, Bool.false_eq_true, Bool.true_eq_false, decide_true, decide_false, tru_bl, tru_non, tru_int, tru_lst, tru_tup, len_ro, len_lst, len_tup, sub_tup, sub_lst, sub_ro, at_c0, at_c1, at_c2, at_c3, at_natN, list_tup, list_lst, listM_tup, listM_lst, tuple_tup, tuple_lst, slc_tup, slc_lst, lstD_lst, it_lst, it_tup, it_ro, it_str, is_non_non, isnot_non_non, isnot_lst, is_lst, isnot_tup, is_tup, isnot_str, is_str, is_bl_bl, cmp_eq, cmp_ne, eq_str, ne_str, eq_int, ne_int, eq_bl, ne_bl, instr_ok, notinstr_ok, ltstr_ok, gtstr_ok, add_ok, sub_ok, lt_ok, gt_ok, le_ok, ge_ok, int_int, int_bl, abs_int, max_int, min_int, tupD_0, tupD_1, tupD_2, tupD_3, tupD_4, tupD_5, mkL_nil, mkL_nilF, mkL_true, mkL_false, tupD_ok, add_tup, add_lst, add_str, e3]
        simp) (by simp) ⟨⟨_, _, _, _, rfl⟩, urn_new hu⟩
    refine ⟨[some (.ro (ns.map D.int)), a', some (.loc N.length), b', c', e'], N', .inl ?_, ⟨a', some (.loc N.length), b', c', e', rfl⟩⟩
    rw [fr_nm]
    unfold b28_1
    rw [xs_cons]
    simp only [xc_exp, xc_set, xc_par, xc_ite, xc_fr, xc_ret, xc_retN, xc_pass, xc_brk, xc_cnt, xc_mat, xc_sst, xc_aug, ev_var, ev_cst, ev_gl, ev_bop, ev_neg, ev_boo, ev_not, ev_cmp, ev_chn, ev_ife, ev_tup, ev_lst, ev_dis, ev_lc, ev_call, ev_blt, ev_mth, ev_isi, ev_sub, ev_slc, ev_rev, evO_none, evO_some, evs_nil, evs_cons, evB_one, evB_cons, evTs_one, evTs_cons, evF_nil, evF_one, tst_not, tst_boo, tst_ife, tst_cmp, tst_chn, tst_var, tst_call, tst_blt, tst_isi, tst_cst, tst_sub, tst_mth, wlk_var, wlk_lst, wlk_call, wlk_rng1, wlk_rng2, wlk_tup, wlk_lc, wlk_bop, wlk_sub, wlk_slc, wlk_rev, wlk_blt, wlk_enm, wlk_zip, put_nm, put_tp, puts_nil, puts_cons, wipe_nil, wipe_cons, R.bnd_ok, R.of_some, R.st_ok, R.bnd_err, R.st_err, Option.map_some, List.getElem?_cons_succ, List.getElem?_cons_zero, List.set_cons_succ, List.set_cons_zero, cst_int, cst_str, cst_bool, cst_none, if_true, if_false, Bool.not_true, Bool.not_false, Bool.false_eq_true, Bool.true_eq_false, decide_true, decide_false, tru_bl, tru_non, tru_int, tru_lst, tru_tup, len_ro, len_lst, len_tup, sub_tup, sub_lst, sub_ro, at_c0, at_c1, at_c2, at_c3, at_natN, list_tup, list_lst, listM_tup, listM_lst, tuple_tup, tuple_lst, slc_tup, slc_lst, lstD_lst, it_lst, it_tup, it_ro, it_str, is_non_non, isnot_non_non, isnot_lst, is_lst, isnot_tup, is_tup, isnot_str, is_str, is_bl_bl, cmp_eq, cmp_ne, eq_str, ne_str, eq_int, ne_int, eq_bl, ne_bl, instr_ok, notinstr_ok, ltstr_ok, gtstr_ok, add_ok, sub_ok, lt_ok, gt_ok, le_ok, ge_ok, int_int, int_bl, abs_int, max_int, min_int, tupD_0, tupD_1, tupD_2, tupD_3, tupD_4, tupD_5, mkL_nil, mkL_nilF, mkL_true, mkL_false, tupD_ok, add_tup, add_lst, add_str, e1]
    rw [xs_one]
    simp only [xc_exp, xc_set, xc_par, xc_ite, xc_fr, xc_ret, xc_retN, xc_pass, xc_brk, xc_cnt, xc_mat, xc_sst, xc_aug, ev_var, ev_cst, ev_gl, ev_bop, ev_neg, ev_boo, ev_not, ev_cmp, ev_chn, ev_ife, ev_tup, ev_lst, ev_dis, ev_lc, ev_call, ev_blt, ev_mth, ev_isi, ev_sub, ev_slc, ev_rev, evO_none, evO_some, evs_nil, evs_cons, evB_one, evB_cons, evTs_one, evTs_cons, evF_nil, evF_one, tst_not, tst_boo, tst_ife, tst_cmp, tst_chn, tst_var, tst_call, tst_blt, tst_isi, tst_cst, tst_sub, tst_mth, wlk_var, wlk_lst, wlk_call, wlk_rng1, wlk_rng2, wlk_tup, wlk_lc, wlk_bop, wlk_sub, wlk_slc, wlk_rev, wlk_blt, wlk_enm, wlk_zip, put_nm, put_tp, puts_nil, puts_cons, wipe_nil, wipe_cons, R.bnd_ok, R.of_some, R.st_ok, R.bnd_err, R.st_err, Option.map_some, List.getElem?_cons_succ, List.getElem?_cons_zero, List.set_cons_succ, List.set_cons_zero, cst_int, cst_str, cst_bool, cst_none, if_true, if_false, Bool.not_true, Bool.not_false, Bool.false_eq_true, Bool.true_eq_false, decide_true, decide_false, tru_bl, tru_non, tru_int, tru_lst, tru_tup, len_ro, len_lst, len_tup, sub_tup, sub_lst, sub_ro, at_c0, at_c1, at_c2, at_c3, at_natN, list_tup, list_lst, listM_tup, listM_lst, tuple_tup, tuple_lst, slc_tup, slc_lst, lstD_lst, it_lst, it_tup, it_ro, it_str, is_non_non, isnot_non_non, isnot_lst, is_lst, isnot_tup, is_tup, isnot_str, is_str, is_bl_bl, cmp_eq, cmp_ne, eq_str, ne_str, eq_int, ne_int, eq_bl, ne_bl, instr_ok, notinstr_ok, ltstr_ok, gtstr_ok, add_ok, sub_ok, lt_ok, gt_ok, le_ok, ge_ok, int_int, int_bl, abs_int, max_int, min_int, tupD_0, tupD_1, tupD_2, tupD_3, tupD_4, tupD_5, mkL_nil, mkL_nilF, mkL_true, mkL_false, tupD_ok, add_tup, add_lst, add_str, r3]
    exact e2
  obtain ⟨ρ', M1, e1, a, b, c, e, f, rfl⟩ := loopF_inv (N := 63) (g := frF (Phi T (k + 8)) T (.nm 1) b28_1) (I := fun i ρ N => ∃ a b c e f, ρ = [some (.ro (ns.map D.int)), a, b, c, e, f])
    (xs := (List.range (max 1 (min 8 ns.length))).map fun (i : Nat) => Dv.D.int (i : Int)) (i := 0) (ρ := [some (.ro (ns.map D.int)), none, none, none, none, none]) (M := [])
    (fun x i ρ N hx _ h => inner i ρ N x hx h) (by simp; omega) ⟨_, _, _, _, _, rfl⟩
  have r1 : ∀ N, bopD N .Mult (.lst [dE]) (.int 60) = some (.lst (List.replicate 60 dE)) := fun N => by
    have := rep_lst (M := N) (xs := [dE]) (j := 60) (by simp) (by simp)
    rwa [flat_rep] at this
  have r2 : ∀ N, bopD N .Mult (.lst [dL]) (.int 60) = some (.lst (List.replicate 60 dL)) := fun N => by
    have := rep_lst (M := N) (xs := [dL]) (j := 60) (by simp) (by simp)
    rwa [flat_rep] at this
  have r3 : ∀ N, bopD N .Add (.lst (List.replicate 60 dE)) (.lst [dS]) = some (.lst (List.replicate 60 dE ++ [dS])) := fun N => add_lst (by simp)
  have r4 : ∀ N, bopD N .Add (.lst (List.replicate 60 dE ++ [dS])) (.lst (List.replicate 60 dL)) = some (.lst deepL) := fun N => add_lst (by simp)
  have v1 : Vq (.tup (deepL.take 120)) := vq_of (by decide +kernel)
  have v2 : Vq (.tup deepL) := vq_of (by decide +kernel)
  have v3 : Vq (.tup (deepL ++ deepL.drop 120)) := vq_of (by decide +kernel)
  have v4 : Vq (.tup (deepL ++ deepL.take 1)) := vq_of (by decide +kernel)
  have v5 : Vq (.tup (deepL.take 119)) := vq_of (by decide +kernel)
  have c1 : cutL deepL none (some 120) = deepL.take 120 := cut_takeI rfl
  have c5 : cutL deepL none (some 119) = deepL.take 119 := cut_takeI rfl
  have c4 : cutL deepL none (some 1) = deepL.take 1 := cut_takeI rfl
  have c3 : cutL deepL (some (-1)) none = deepL.drop 120 := by decide +kernel
  have dl : deepL.length = 121 := by decide +kernel
  have a3 : ∀ N, bopD N .Add (.tup deepL) (.tup (deepL.drop 120)) = some (.tup (deepL ++ deepL.drop 120)) := fun N => add_tup (by simp [dl])
  have a4 : ∀ N, bopD N .Add (.tup deepL) (.tup (deepL.take 1)) = some (.tup (deepL ++ deepL.take 1)) := fun N => add_tup (by simp [dl])
  have e2 := is_log_ok (T := T) (k := k + 3) (M := M1) v1.gq
  have e3 := is_log_ok (T := T) (k := k + 3) (M := M1) v2.gq
  have e4 := is_log_ok (T := T) (k := k + 3) (M := M1) v3.gq
  have e5 := is_log_ok (T := T) (k := k + 3) (M := M1) v4.gq
  have e6 := open_calls_ok (T := T) (k := k + 3) (M := M1) v5.gq
  have e7 := open_calls_ok (T := T) (k := k + 3) (M := M1) v2.gq
  have q2 : (callsL (.tup (deepL.take 120))).isSome = true := by decide +kernel
  have q3 : callsL (.tup deepL) = some [] := by decide +kernel
  have q4 : (callsL (.tup (deepL ++ deepL.drop 120))).isSome = false := by decide +kernel
  have q5 : (callsL (.tup (deepL ++ deepL.take 1))).isSome = false := by decide +kernel
  have q6 : callsL (.tup (deepL.take 119)) = some [Str.ofString "p", Str.ofString "p"] := by decide +kernel
  rw [q2] at e2
  rw [q3] at e3 e7
  rw [q4] at e4
  rw [q5] at e5
  rw [q6] at e6
  have f1 : eqD M1 (.lst [.bl true, .bl true, .bl false, .bl false]) (.lst [.bl true, .bl true, .bl false, .bl false]) = some true := by rw [eqD_pl (by decide +kernel) (by decide +kernel) (by decide +kernel) (by decide +kernel) (by decide +kernel)]; decide +kernel
  have f2 : eqD M1 (.lst [.int 2, .tup []]) (.lst [.int 2, .tup []]) = some true := by rw [eqD_pl (by decide +kernel) (by decide +kernel) (by decide +kernel) (by decide +kernel) (by decide +kernel)]; decide +kernel
  refine ⟨M1, ?_⟩
  rw [phi_fn (e := f28) rfl]
  show fin true [] (xs (Phi T (k + 8)) T b28 [some (.ro (ns.map D.int)), none, none, none, none, none] []) = _
  have hm : (if (if ((ns.map Dv.D.int).length : Int) < 8 then ((ns.map Dv.D.int).length : Int) else 8) > 1 then (if ((ns.map Dv.D.int).length : Int) < 8 then ((ns.map Dv.D.int).length : Int) else 8) else 1) = ((max 1 (min 8 ns.length) : Nat) : Int) := by
    rw [List.length_map]
    split <;> split <;> omega
  unfold b28
  rw [xs_cons]
  simp only [xc_exp, xc_set, xc_par, xc_ite, xc_fr, xc_ret, xc_retN, xc_pass, xc_brk, xc_cnt, xc_mat, xc_sst, xc_aug, ev_var, ev_cst, ev_gl, ev_bop, ev_neg, ev_boo, ev_not, ev_cmp, ev_chn, ev_ife, ev_tup, ev_lst, ev_dis, ev_lc, ev_call, ev_blt, ev_mth, ev_isi, ev_sub, ev_slc, ev_rev, evO_none, evO_some, evs_nil, evs_cons, evB_one, evB_cons, evTs_one, evTs_cons, evF_nil, evF_one, tst_not, tst_boo, tst_ife, tst_cmp, tst_chn, tst_var, tst_call, tst_blt, tst_isi, tst_cst, tst_sub, tst_mth, wlk_var, wlk_lst, wlk_call, wlk_rng1, wlk_rng2, wlk_tup, wlk_lc, wlk_bop, wlk_sub, wlk_slc, wlk_rev, wlk_blt, wlk_enm, wlk_zip, put_nm, put_tp, puts_nil, puts_cons, wipe_nil, wipe_cons, R.bnd_ok, R.of_some, R.st_ok, R.bnd_err, R.st_err, Option.map_some, List.getElem?_cons_succ, List.getElem?_cons_zero, List.set_cons_succ, List.set_cons_zero, cst_int, cst_str, cst_bool, cst_none, if_true, if_false, Bool.not_true, Bool.not_false, Bool.false_eq_true, Bool.true_eq_false, decide_true, decide_false, tru_bl, tru_non, tru_int, tru_lst, tru_tup, len_ro, len_lst, len_tup, sub_tup, sub_lst, sub_ro, at_c0, at_c1, at_c2, at_c3, at_natN, list_tup, list_lst, listM_tup, listM_lst, tuple_tup, tuple_lst, slc_tup, slc_lst, lstD_lst, it_lst, it_tup, it_ro, it_str, is_non_non, isnot_non_non, isnot_lst, is_lst, isnot_tup, is_tup, isnot_str, is_str, is_bl_bl, cmp_eq, cmp_ne, eq_str, ne_str, eq_int, ne_int, eq_bl, ne_bl, instr_ok, notinstr_ok, ltstr_ok, gtstr_ok, add_ok, sub_ok, lt_ok, gt_ok, le_ok, ge_ok, int_int, int_bl, abs_int, max_int, min_int, tupD_0, tupD_1, tupD_2, tupD_3, tupD_4, tupD_5, mkL_nil, mkL_nilF, mkL_true, mkL_false, tupD_ok, add_tup, add_lst, add_str]
  rw [rng1_int hm (by omega)]
  simp only [R.st_ok]
  rw [e1]
  simp only
  rw [xs_cons]
  simp (disch := first | assumption | omega | (simp only [List.length_append, List.length_take, List.length_drop, List.length_cons, List.length_nil, List.length_map, List.length_reverse, List.length_dropLast, List.length_range]; omega)) only [xc_exp, xc_set, xc_par, xc_ite, xc_fr, xc_ret, xc_retN, xc_pass, xc_brk, xc_cnt, xc_mat, xc_sst, xc_aug, ev_var, ev_cst, ev_gl, ev_bop, ev_neg, ev_boo, ev_not, ev_cmp, ev_chn, ev_ife, ev_tup, ev_lst, ev_dis, ev_lc, ev_call, ev_blt, ev_mth, ev_isi, ev_sub, ev_slc, ev_rev, evO_none, evO_some, evs_nil, evs_cons, evB_one, evB_cons, evTs_one, evTs_cons, evF_nil, evF_one, tst_not, tst_boo, tst_ife, tst_cmp, tst_chn, tst_var, tst_call, tst_blt, tst_isi, tst_cst, tst_sub, tst_mth, wlk_var, wlk_lst, wlk_call, wlk_rng1, wlk_rng2, wlk_tup, wlk_lc, wlk_bop, wlk_sub, wlk_slc, wlk_rev, wlk_blt, wlk_enm, wlk_zip, put_nm, put_tp, puts_nil, puts_cons, wipe_nil, wipe_cons, R.bnd_ok, R.of_some, R.st_ok, R.bnd_err, R.st_err, Option.map_some, List.getElem?_cons_succ, List.getElem?_cons_zero, List.set_cons_succ, List.set_cons_zero, cst_int, cst_str, cst_bool, cst_none, if_true, if_false, Bool.not_true, Bool.not_false, Bool.false_eq_true, Bool.true_eq_false, decide_true, decide_false, tru_bl, tru_non, tru_int, tru_lst, tru_tup, len_ro, len_lst, len_tup, sub_tup, sub_lst, sub_ro, at_c0, at_c1, at_c2, at_c3, at_natN, list_tup, list_lst, listM_tup, listM_lst, tuple_tup, tuple_lst, slc_tup, slc_lst, lstD_lst, it_lst, it_tup, it_ro, it_str, is_non_non, isnot_non_non, isnot_lst, is_lst, isnot_tup, is_tup, isnot_str, is_str, is_bl_bl, cmp_eq, cmp_ne, eq_str, ne_str, eq_int, ne_int, eq_bl, ne_bl, instr_ok, notinstr_ok, ltstr_ok, gtstr_ok, add_ok, sub_ok, lt_ok, gt_ok, le_ok, ge_ok, int_int, int_bl, abs_int, max_int, min_int, tupD_0, tupD_1, tupD_2, tupD_3, tupD_4, tupD_5, mkL_nil, mkL_nilF, mkL_true, mkL_false, tupD_ok, add_tup, add_lst, add_str, r1, r2, r3, r4]
  rw [xs_cons]
  simp (disch := first | assumption | omega | (simp only [List.length_append, List.length_take, List.length_drop, List.length_cons, List.length_nil, List.length_map, List.length_reverse, List.length_dropLast, List.length_range]; omega)) only [xc_exp, xc_set, xc_par, xc_ite, xc_fr, xc_ret, xc_retN, xc_pass, xc_brk, xc_cnt, xc_mat, xc_sst, xc_aug, ev_var, ev_cst, ev_gl, ev_bop, ev_neg, ev_boo, ev_not, ev_cmp, ev_chn, ev_ife, ev_tup, ev_lst, ev_dis, ev_lc, ev_call, ev_blt, ev_mth, ev_isi, ev_sub, ev_slc, ev_rev, evO_none, evO_some, evs_nil, evs_cons, evB_one, evB_cons, evTs_one, evTs_cons, evF_nil, evF_one, tst_not, tst_boo, tst_ife, tst_cmp, tst_chn, tst_var, tst_call, tst_blt, tst_isi, tst_cst, tst_sub, tst_mth, wlk_var, wlk_lst, wlk_call, wlk_rng1, wlk_rng2, wlk_tup, wlk_lc, wlk_bop, wlk_sub, wlk_slc, wlk_rev, wlk_blt, wlk_enm, wlk_zip, put_nm, put_tp, puts_nil, puts_cons, wipe_nil, wipe_cons, R.bnd_ok, R.of_some, R.st_ok, R.bnd_err, R.st_err, Option.map_some, List.getElem?_cons_succ, List.getElem?_cons_zero, List.set_cons_succ, List.set_cons_zero, cst_int, cst_str, cst_bool, cst_none, if_true, if_false, Bool.not_true, Bool.not_false, Bool.false_eq_true, Bool.true_eq_false, decide_true, decide_false, tru_bl, tru_non, tru_int, tru_lst, tru_tup, len_ro, len_lst, len_tup, sub_tup, sub_lst, sub_ro, at_c0, at_c1, at_c2, at_c3, at_natN, list_tup, list_lst, listM_tup, listM_lst, tuple_tup, tuple_lst, slc_tup, slc_lst, lstD_lst, it_lst, it_tup, it_ro, it_str, is_non_non, isnot_non_non, isnot_lst, is_lst, isnot_tup, is_tup, isnot_str, is_str, is_bl_bl, cmp_eq, cmp_ne, eq_str, ne_str, eq_int, ne_int, eq_bl, ne_bl, instr_ok, notinstr_ok, ltstr_ok, gtstr_ok, add_ok, sub_ok, lt_ok, gt_ok, le_ok, ge_ok, int_int, int_bl, abs_int, max_int, min_int, tupD_0, tupD_1, tupD_2, tupD_3, tupD_4, tupD_5, mkL_nil, mkL_nilF, mkL_true, mkL_false, tupD_ok, add_tup, add_lst, add_str, c1, c3, c4, a3, a4, e2, e3, e4, e5, Option.isSome_some, List.length_cons, List.length_nil]
  rw [xs_one]
  simp (disch := first | assumption | omega | (simp only [List.length_append, List.length_take, List.length_drop, List.length_cons, List.length_nil, List.length_map, List.length_reverse, List.length_dropLast, List.length_range]; omega)) only [xc_exp, xc_set, xc_par, xc_ite, xc_fr, xc_ret, xc_retN, xc_pass, xc_brk, xc_cnt, xc_mat, xc_sst, xc_aug, ev_var, ev_cst, ev_gl, ev_bop, ev_neg, ev_boo, ev_not, ev_cmp, ev_chn, ev_ife, ev_tup, ev_lst, ev_dis, ev_lc, ev_call, ev_blt, ev_mth, ev_isi, ev_sub, ev_slc, ev_rev, evO_none, evO_some, evs_nil, evs_cons, evB_one, evB_cons, evTs_one, evTs_cons, evF_nil, evF_one, tst_not, tst_boo, tst_ife, tst_cmp, tst_chn, tst_var, tst_call, tst_blt, tst_isi, tst_cst, tst_sub, tst_mth, wlk_var, wlk_lst, wlk_call, wlk_rng1, wlk_rng2, wlk_tup, wlk_lc, wlk_bop, wlk_sub, wlk_slc, wlk_rev, wlk_blt, wlk_enm, wlk_zip, put_nm, put_tp, puts_nil, puts_cons, wipe_nil, wipe_cons, R.bnd_ok, R.of_some, R.st_ok, R.bnd_err, R.st_err, Option.map_some, List.getElem?_cons_succ, List.getElem?_cons_zero, List.set_cons_succ, List.set_cons_zero, cst_int, cst_str, cst_bool, cst_none, if_true, if_false, Bool.not_true, Bool.not_false, Bool.false_eq_true, Bool.true_eq_false, decide_true, decide_false, tru_bl, tru_non, tru_int, tru_lst, tru_tup, len_ro, len_lst, len_tup, sub_tup, sub_lst, sub_ro, at_c0, at_c1, at_c2, at_c3, at_natN, list_tup, list_lst, listM_tup, listM_lst, tuple_tup, tuple_lst, slc_tup, slc_lst, lstD_lst, it_lst, it_tup, it_ro, it_str, is_non_non, isnot_non_non, isnot_lst, is_lst, isnot_tup, is_tup, isnot_str, is_str, is_bl_bl, cmp_eq, cmp_ne, eq_str, ne_str, eq_int, ne_int, eq_bl, ne_bl, instr_ok, notinstr_ok, ltstr_ok, gtstr_ok, add_ok, sub_ok, lt_ok, gt_ok, le_ok, ge_ok, int_int, int_bl, abs_int, max_int, min_int, tupD_0, tupD_1, tupD_2, tupD_3, tupD_4, tupD_5, mkL_nil, mkL_nilF, mkL_true, mkL_false, tupD_ok, add_tup, add_lst, add_str, f1, c5, e6, e7, List.map_cons, List.map_nil, List.length_cons, List.length_nil]
  simp [f2]
end
def deep : Nat := 40
theorem law_true (ns : List Int) (h : ns.length ≤ 63) (hb : ∀ i ∈ ns, PySem.Builtin.Int.intBits i ≤ 1048576) : ∃ M, Phi tb deep 28 [.ro (ns.map D.int)] [] = .ok (.bl true) M :=
  law_ok (T := tb) (k := 31) ns h
end L2.Dv.K02
open PySem PySem.W PyProof.Rows
set_option maxHeartbeats 0 in
theorem PySem.Challenge.cw_showncalls_k02_logs_by_their_form_holds : PySem.Challenge.rw_showncalls_k02_logs_by_their_form.Holds := by
  w_on; o_law; k_head; (case hw => w_witness2)
  k_fill
  refine L2.Dv.walk_dv (l := PySem.Challenge.rw_showncalls_k02_logs_by_their_form) (n := 63) (k := L2.Dv.K02.deep) (T := L2.Dv.K02.tb) (fL := 28) (eL := L2.Dv.P.f28) rfl rfl rfl rfl (by decide) rfl ⟨rfl, by decide, by decide⟩ (fun w h Y => PySem.W.kIn_of Y) ?F L2.Dv.K02.law_true
  case F =>
    intro w mg h KX G
    refine' ⟨_, L2.Dv.K02.fits KX G ?qa10 ?ql10 ?qc10 ?qk10 ?qa11 ?ql11 ?qc11 ?qk11 ?qa12 ?ql12 ?qc12 ?qk12 ?qa13 ?ql13 ?qc13 ?qk13 ?qa14 ?ql14 ?qc14 ?qk14 ?qa15 ?ql15 ?qc15 ?qk15 ?qa16 ?ql16 ?qc16 ?qk16 ?qa17 ?ql17 ?qc17 ?qk17 ?qa18 ?ql18 ?qc18 ?qk18 ?qa19 ?ql19 ?qc19 ?qk19 ?qa21 ?ql21 ?qc21 ?qk21 ?qa22 ?ql22 ?qc22 ?qk22 ?qa23 ?ql23 ?qc23 ?qk23 ?qa24 ?ql24 ?qc24 ?qk24 ?qa25 ?ql25 ?qc25 ?qk25 ?qa26 ?ql26 ?qc26 ?qk26 ?qa27 ?ql27 ?qc27 ?qk27 ?qa28 ?ql28 ?qc28 ?qk28 ?qg0 ?qg1 ?qg2 ?qg3 ?qz0 ?qz1 ?qz2 ?qz3 ?qz4 ?qz5 ?qz6 ?qz7 ?qz8 ?qz9 ?qz10 ?qz11 ?qz12 ?qz13 ?qz14 ?qz15 ?qz16 ?qz17 ?qz18 ?qz19 ?qy0 ?qyk0 ?qys0 ?qyt0 ?qyi0 ⟨_, F.excBase_ValueError⟩ ?qyx0 ?qye0_0⟩
    (case qa10 => k_is); (case ql10 => k_is); (case qc10 => k_is); (case qk10 => k_is); (case qa11 => k_is); (case ql11 => k_is); (case qc11 => k_is); (case qk11 => k_is)
    (case qa12 => k_is); (case ql12 => k_is); (case qc12 => k_is); (case qk12 => k_is); (case qa13 => k_is); (case ql13 => k_is); (case qc13 => k_is); (case qk13 => k_is)
    (case qa14 => k_is); (case ql14 => k_is); (case qc14 => k_is); (case qk14 => k_is); (case qa15 => k_is); (case ql15 => k_is); (case qc15 => k_is); (case qk15 => k_is)
    (case qa16 => k_is); (case ql16 => k_is); (case qc16 => k_is); (case qk16 => k_is); (case qa17 => k_is); (case ql17 => k_is); (case qc17 => k_is); (case qk17 => k_is)
    (case qa18 => k_is); (case ql18 => k_is); (case qc18 => k_is); (case qk18 => k_is); (case qa19 => k_is); (case ql19 => k_is); (case qc19 => k_is); (case qk19 => k_is)
    (case qa21 => k_is); (case ql21 => k_is); (case qc21 => k_is); (case qk21 => k_is); (case qa22 => k_is); (case ql22 => k_is); (case qc22 => k_is); (case qk22 => k_is)
    (case qa23 => k_is); (case ql23 => k_is); (case qc23 => k_is); (case qk23 => k_is); (case qa24 => k_is); (case ql24 => k_is); (case qc24 => k_is); (case qk24 => k_is)
    (case qa25 => k_is); (case ql25 => k_is); (case qc25 => k_is); (case qk25 => k_is); (case qa26 => k_is); (case ql26 => k_is); (case qc26 => k_is); (case qk26 => k_is)
    (case qa27 => k_is); (case ql27 => k_is); (case qc27 => k_is); (case qk27 => k_is); (case qa28 => k_is); (case ql28 => k_is); (case qc28 => k_is); (case qk28 => k_is)
    (case qg0 => k_is); (case qg1 => k_is); (case qg2 => k_is); (case qg3 => k_is); (case qz0 => k_is); (case qz1 => k_is); (case qz2 => k_is); (case qz3 => k_is)
    (case qz4 => k_is); (case qz5 => k_is); (case qz6 => k_is); (case qz7 => k_is); (case qz8 => k_is); (case qz9 => k_is); (case qz10 => k_is); (case qz11 => k_is)
    (case qz12 => k_is); (case qz13 => k_is); (case qz14 => k_is); (case qz15 => k_is); (case qz16 => k_is); (case qz17 => k_is); (case qz18 => k_is); (case qz19 => k_is)
    (case qy0 => k_is); (case qyk0 => k_is); (case qys0 => k_is); (case qyt0 => k_is); (case qyi0 => k_is); (case qyx0 => k_exc); (case qye0_0 => first | rfl | k_is)
