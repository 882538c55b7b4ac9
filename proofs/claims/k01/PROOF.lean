import PyProof.Rows.All
import Wide.All
import OpenK.AllK
import Wide.FinOn
import HandS.ForMost
import HandS.Exc
import HandS.TryOnly
import HandS.TryMany
import HandS.ExcOwn
import HandS.IsInst
import HandS.Flow
import HandS.Style
import HandS.Wide
import HandS.WideMore
import HandS.TupLe
import HandS.TupAny
import HandS.TupMul
import HandS.EndBits
import KE.KxText
import PySem.Challenge.RW_showncalls_k01_names_and_lines
set_option Elab.async false
set_option linter.all false
set_option maxRecDepth 100000
set_option maxHeartbeats 4000000
/-! Dv: deep values, a store, and how they lie in a heap of the hand layer -/
namespace L2
namespace Dv
open PySem PySem.Spec PyProof.Rows

/-- a deep value: what is frozen by value, what may still change by its place in the store -/
inductive D where
  | non | bl (b : Bool) | int (i : Int) | str (x : Str)
  | tup (xs : List D) | lst (xs : List D) | dic (ks vs : List D) | obj (c : Nat) (ns : List Str) (vs : List D)
  | loc (n : Nat) | ro (xs : List D)
  deriving Inhabited

/-- what stands at a place of the store -/
inductive MO where
  | lst (xs : List D) | dic (ks vs : List D) | ins (c : Nat) (ns : List Str) (vs : List D)
  deriving Inhabited
abbrev Mem := List (Option MO)

/-- what is fixed: the written part, the classes -/
structure Wd where
  K : PySem.W.Frag
  cl : Nat → Option Addr

mutual
inductive Rp (W : Wd) (F : Hp) (ι : List Addr) : V → D → Prop
  | non : Rp W F ι .non .non
  | bl (b : Bool) : Rp W F ι (.bl b) (.bl b)
  | int (i : Int) : Rp W F ι (.int i) (.int i)
  | str (x : Str) : Rp W F ι (.str x) (.str x)
  | tup {a : Addr} {vs : List V} {ds : List D} : SqT W.K F a vs → Rps W F ι vs ds → Rp W F ι (.ref a) (.tup ds)
  | lst {a : Addr} {vs : List V} {ds : List D} : F a = some (.lst vs) → Rps W F ι vs ds → Rp W F ι (.ref a) (.lst ds)
  | ro {a : Addr} {vs : List V} {ds : List D} : SqL W.K F a vs → Rps W F ι vs ds → Rp W F ι (.ref a) (.ro ds)
  | dic {a : Addr} {kvs : List (Key × V)} {ks ds : List D} : F a = some (.dK kvs) → Rps W F ι (kvs.map fun p => kV p.1) ks → Rps W F ι (kvs.map (·.2)) ds → Rp W F ι (.ref a) (.dic ks ds)
  | obj {a C dx : Addr} {c : Nat} {ns : List Str} {vs : List V} {ds : List D} : W.cl c = some C → F a = some (.ins C dx (ns.zip vs)) → ns.length = vs.length → Rps W F ι vs ds → Rp W F ι (.ref a) (.obj c ns ds)
  | loc {n : Nat} {a : Addr} : ι[n]? = some a → Rp W F ι (.ref a) (.loc n)
inductive Rps (W : Wd) (F : Hp) (ι : List Addr) : List V → List D → Prop
  | nil : Rps W F ι [] []
  | cons {v : V} {vs : List V} {d : D} {ds : List D} : Rp W F ι v d → Rps W F ι vs ds → Rps W F ι (v :: vs) (d :: ds)
end

section
variable {W : Wd} {F F' G H H' : Hp} {ι ι' : List Addr} {v : V} {vs : List V} {d : D} {ds : List D} {a : Addr}
theorem Same.rd {o : HO} (s : Same F F') (h : Rd F a o) : Rd F' a o := by
  rcases h with h | ⟨u, h⟩
  · exact .inl (s _ _ h)
  · exact .inr ⟨u, s _ _ h⟩
theorem Same.seqT {K : PySem.W.Frag} {xs : List V} (s : Same F F') (h : SqT K F a xs) : SqT K F' a xs := by
  rcases h with h | h
  · exact .inl (Same.rd s h)
  · exact .inr h
def Ext (ι ι' : List Addr) : Prop := ∀ (n : Nat) (a : Addr), ι[n]? = some a → ι'[n]? = some a
theorem Ext.refl (ι : List Addr) : Ext ι ι := fun _ _ h => h
theorem Ext.trans {ι1 ι2 ι3 : List Addr} (a : Ext ι1 ι2) (b : Ext ι2 ι3) : Ext ι1 ι3 := fun n x h => b n x (a n x h)
theorem Ext.app (ι l : List Addr) : Ext ι (ι ++ l) := fun n a h => by
  rw [List.getElem?_append_left (List.getElem?_eq_some_iff.mp h).1]
  exact h
mutual
theorem Rp.mono (s : Same F F') (e : Ext ι ι') : ∀ {v : V} {d : D}, Rp W F ι v d → Rp W F' ι' v d
  | _, _, .non => .non
  | _, _, .bl b => .bl b
  | _, _, .int i => .int i
  | _, _, .str x => .str x
  | _, _, .tup h r => .tup (Same.seqT s h) (Rps.mono s e r)
  | _, _, .lst h r => .lst (s _ _ h) (Rps.mono s e r)
  | _, _, .ro h r => .ro (Same.seq s h) (Rps.mono s e r)
  | _, _, .dic h r1 r2 => .dic (s _ _ h) (Rps.mono s e r1) (Rps.mono s e r2)
  | _, _, .obj hc h l r => .obj hc (s _ _ h) l (Rps.mono s e r)
  | _, _, .loc h => .loc (e _ _ h)
theorem Rps.mono (s : Same F F') (e : Ext ι ι') : ∀ {vs : List V} {ds : List D}, Rps W F ι vs ds → Rps W F' ι' vs ds
  | _, _, .nil => .nil
  | _, _, .cons r t => .cons (Rp.mono s e r) (Rps.mono s e t)
end
theorem Rps.length : ∀ {vs : List V} {ds : List D}, Rps W F ι vs ds → vs.length = ds.length
  | _, _, .nil => rfl
  | _, _, .cons _ t => congrArg Nat.succ (Rps.length t)
theorem Rps.get : ∀ {vs : List V} {ds : List D} {i : Nat} {d : D}, Rps W F ι vs ds → ds[i]? = some d → ∃ v, vs[i]? = some v ∧ Rp W F ι v d
  | _, _, _, _, .nil, e => by simp at e
  | _, _, 0, _, .cons r _, e => by simp at e; subst e; exact ⟨_, rfl, r⟩
  | _, _, i + 1, d, .cons _ t, e => by
    obtain ⟨u, h1, h2⟩ := Rps.get (i := i) (d := d) t (by simpa using e)
    exact ⟨u, by simpa using h1, h2⟩
theorem Rps.getv : ∀ {vs : List V} {ds : List D} {i : Nat} {v : V}, Rps W F ι vs ds → vs[i]? = some v → ∃ d, ds[i]? = some d ∧ Rp W F ι v d
  | _, _, _, _, .nil, e => by simp at e
  | _, _, 0, _, .cons r _, e => by simp at e; subst e; exact ⟨_, rfl, r⟩
  | _, _, i + 1, v, .cons _ t, e => by
    obtain ⟨u, h1, h2⟩ := Rps.getv (i := i) (v := v) t (by simpa using e)
    exact ⟨u, by simpa using h1, h2⟩
theorem Rps.append : ∀ {vs ws : List V} {ds es : List D}, Rps W F ι vs ds → Rps W F ι ws es → Rps W F ι (vs ++ ws) (ds ++ es)
  | _, _, _, _, .nil, s => s
  | _, _, _, _, .cons r t, s => .cons r (Rps.append t s)
theorem Rps.take : ∀ {vs : List V} {ds : List D} (n : Nat), Rps W F ι vs ds → Rps W F ι (vs.take n) (ds.take n)
  | _, _, 0, _ => .nil
  | _, _, _ + 1, .nil => .nil
  | _, _, n + 1, .cons r t => .cons r (Rps.take n t)
theorem Rps.drop : ∀ {vs : List V} {ds : List D} (n : Nat), Rps W F ι vs ds → Rps W F ι (vs.drop n) (ds.drop n)
  | _, _, 0, r => r
  | _, _, _ + 1, .nil => .nil
  | _, _, n + 1, .cons _ t => Rps.drop n t
theorem Rps.set {x : V} {e : D} (r : Rp W F ι x e) : ∀ {vs : List V} {ds : List D} (i : Nat), Rps W F ι vs ds → Rps W F ι (vs.set i x) (ds.set i e)
  | _, _, _, .nil => .nil
  | _, _, 0, .cons _ t => .cons r t
  | _, _, i + 1, .cons q t => .cons q (Rps.set r i t)
theorem Rps.eraseIdx : ∀ {vs : List V} {ds : List D} (i : Nat), Rps W F ι vs ds → Rps W F ι (vs.eraseIdx i) (ds.eraseIdx i)
  | _, _, _, .nil => .nil
  | _, _, 0, .cons _ t => t
  | _, _, i + 1, .cons q t => .cons q (Rps.eraseIdx i t)
theorem Rps.reverse {vs : List V} {ds : List D} (r : Rps W F ι vs ds) : Rps W F ι vs.reverse ds.reverse := by
  induction vs generalizing ds with
  | nil => cases r; exact .nil
  | cons v vs ih =>
    cases r with
    | cons h t =>
      rw [List.reverse_cons, List.reverse_cons]
      exact (ih t).append (.cons h .nil)

/-- how an object of the store lies -/
inductive MRp (W : Wd) (F : Hp) (ι : List Addr) : HO → MO → Prop
  | lst {vs : List V} {ds : List D} : Rps W F ι vs ds → MRp W F ι (.lst vs) (.lst ds)
  | dic {kvs : List (Key × V)} {ks ds : List D} : Rps W F ι (kvs.map fun p => kV p.1) ks → Rps W F ι (kvs.map (·.2)) ds → MRp W F ι (.dK kvs) (.dic ks ds)
  | ins {C dx : Addr} {c : Nat} {ns : List Str} {vs : List V} {ds : List D} : W.cl c = some C → ns.length = vs.length → Rps W F ι vs ds → MRp W F ι (.ins C dx (ns.zip vs)) (.ins c ns ds)
theorem MRp.mono {o : HO} {m : MO} (s : Same F F') (e : Ext ι ι') : MRp W F ι o m → MRp W F' ι' o m
  | .lst r => .lst (r.mono s e)
  | .dic r1 r2 => .dic (r1.mono s e) (r2.mono s e)
  | .ins hc l r => .ins hc l (r.mono s e)

/-- the n-th place is alive -/
def live (M : Mem) (n : Nat) : Prop := ∃ o, M[n]? = some (some o)
/-- the store, the frozen part F, the whole heap H, the places' addresses -/
structure Rel (W : Wd) (M : Mem) (F H : Hp) (ι : List Addr) : Prop where
  sub : Same F H
  len : ι.length = M.length
  nd : ι.Nodup
  trk : ∀ (n : Nat) (a : Addr), ι[n]? = some a → H a ≠ none
  off : ∀ (n : Nat) (a : Addr), ι[n]? = some a → live M n → F a = none
  has : ∀ (n : Nat) (a : Addr) (m : MO), ι[n]? = some a → M[n]? = some (some m) → ∃ o, H a = some o ∧ MRp W F ι o m
structure Grow (M : Mem) (F H : Hp) (ι : List Addr) (M' : Mem) (F' H' : Hp) (ι' : List Addr) : Prop where
  f : Same F F'
  i : Ext ι ι'
  keep : ∀ (a : Addr) (o : HO), H a = some o → (∀ n : Nat, ι[n]? = some a → ¬ live M n) → H' a = some o
  there : ∀ a : Addr, H a ≠ none → H' a ≠ none
  fresh : ∀ (n : Nat) (a : Addr), ι'[n]? = some a → ι[n]? = some a ∨ H a = none
  lv : ∀ (n : Nat) (a : Addr), ι[n]? = some a → live M' n → live M n
  fz : ∀ (a : Addr) (o : HO), F' a = some o → F a = some o ∨ H a = none ∨ ∃ n : Nat, ι[n]? = some a ∧ live M n
theorem Grow.refl {M : Mem} : Grow M F H ι M F H ι := ⟨fun _ _ h => h, Ext.refl _, fun _ _ h _ => h, fun _ h => h, fun _ _ h => .inl h, fun _ _ _ l => l, fun _ _ h => .inl h⟩
theorem Grow.none_of {M M' : Mem} {F F' H H' : Hp} {ι ι' : List Addr} (a : Grow M F H ι M' F' H' ι') {x : Addr} (h : H' x = none) : H x = none := by
  cases q : H x with
  | none => rfl
  | some o => exact absurd h (a.there x (by rw [q]; exact fun z => nomatch z))
theorem Grow.trans {M1 M2 M3 : Mem} {F1 F2 F3 H1 H2 H3 : Hp} {ι1 ι2 ι3 : List Addr} (a : Grow M1 F1 H1 ι1 M2 F2 H2 ι2) (b : Grow M2 F2 H2 ι2 M3 F3 H3 ι3) : Grow M1 F1 H1 ι1 M3 F3 H3 ι3 := by
  refine ⟨a.f.trans b.f, a.i.trans b.i, fun x o h n => b.keep x o (a.keep x o h n) fun k hk l => ?_, fun x h => b.there x (a.there x h), fun n x h => ?_, fun n x h l => a.lv n x h (b.lv n x (a.i n x h) l), fun x o h => ?_⟩
  · rcases a.fresh k x hk with h1 | h1
    · exact n k h1 (a.lv k x h1 l)
    · rw [h1] at h; cases h
  · rcases b.fresh n x h with h1 | h1
    · exact a.fresh n x h1
    · exact .inr (a.none_of h1)
  · rcases b.fz x o h with h1 | h1 | ⟨n, h1, l⟩
    · exact a.fz x o h1
    · exact .inr (.inl (a.none_of h1))
    · rcases a.fresh n x h1 with h2 | h2
      · exact .inr (.inr ⟨n, h2, a.lv n x h2 l⟩)
      · exact .inr (.inl h2)
theorem Rel.ne {M : Mem} (R : Rel W M F H ι) {p : Addr} (hp : H p = none) : p ∉ ι := fun h => by
  obtain ⟨n, e⟩ := List.mem_iff_getElem?.mp h
  exact R.trk n p e hp
theorem Rel.Fn {M : Mem} (R : Rel W M F H ι) {p : Addr} (hp : H p = none) : F p = none := by
  cases q : F p with
  | none => rfl
  | some o => rw [R.sub _ _ q] at hp; cases hp
theorem same_upd {p : Addr} {o : HO} (h : F p = none) : Same F (upd F p o) := fun b x e => by
  rw [upd_ne (ne_of_none e h)]
  exact e
theorem same_upd2 {p : Addr} {o : HO} (s : Same F H) : Same (upd F p o) (upd H p o) := fun b x e => by
  by_cases hb : b = p
  · subst hb; rw [upd_same] at e ⊢; exact e
  · rw [upd_ne hb] at e ⊢; exact s _ _ e
/-- a new frozen object -/
theorem Rel.frozen {M : Mem} {p : Addr} {o : HO} (R : Rel W M F H ι) (hp : H p = none) : Rel W M (upd F p o) (upd H p o) ι := by
  have hF := R.Fn hp
  have hn : ∀ (n : Nat) (a : Addr), ι[n]? = some a → a ≠ p := fun n a e z => R.ne hp (z ▸ List.mem_of_getElem? e)
  refine ⟨same_upd2 R.sub, R.len, R.nd, fun n a e => ?_, fun n a e l => ?_, fun n a m e l => ?_⟩
  · rw [upd_ne (hn n a e)]; exact R.trk n a e
  · rw [upd_ne (hn n a e)]; exact R.off n a e l
  · obtain ⟨u, h1, h2⟩ := R.has n a m e l
    exact ⟨u, by rw [upd_ne (hn n a e)]; exact h1, h2.mono (same_upd hF) (Ext.refl _)⟩
theorem Grow.frozen {M : Mem} {p : Addr} {o : HO} (R : Rel W M F H ι) (hp : H p = none) : Grow M F H ι M (upd F p o) (upd H p o) ι := by
  refine ⟨same_upd (R.Fn hp), Ext.refl _, fun a u h _ => ?_, fun a h => ?_, fun n a h => .inl h, fun _ _ _ l => l, fun a u h => ?_⟩
  · rw [upd_ne (ne_of_none h hp)]; exact h
  · by_cases e : a = p
    · subst e; rw [upd_same]; exact fun z => nomatch z
    · rw [upd_ne e]; exact h
  · by_cases e : a = p
    · subst e; exact .inr (.inl hp)
    · rw [upd_ne e] at h; exact .inl h
theorem live_app {M : Mem} {m : Option MO} {n : Nat} (h : live (M ++ [m]) n) : live M n ∨ (n = M.length ∧ m.isSome = true) := by
  obtain ⟨o, e⟩ := h
  by_cases hn : n < M.length
  · rw [List.getElem?_append_left hn] at e; exact .inl ⟨o, e⟩
  · rw [List.getElem?_append_right (Nat.le_of_not_lt hn)] at e
    have h2 : n - M.length = 0 := by
      by_cases h0 : n - M.length = 0
      · exact h0
      · rw [List.getElem?_eq_none (by simp; omega)] at e; cases e
    rw [h2] at e
    have e' : m = some o := by simpa using e
    exact .inr ⟨by omega, by rw [e']; rfl⟩
/-- a new place of the store -/
theorem Rel.newloc {M : Mem} {p : Addr} {o : HO} {m : MO} (R : Rel W M F H ι) (hp : H p = none) (hm : MRp W F ι o m) : Rel W (M ++ [some m]) F (upd H p o) (ι ++ [p]) := by
  have hF := R.Fn hp
  have hne := R.ne hp
  have hn : ∀ (n : Nat) (a : Addr), ι[n]? = some a → a ≠ p := fun n a e z => hne (z ▸ List.mem_of_getElem? e)
  have cs : ∀ (n : Nat) (a : Addr), (ι ++ [p])[n]? = some a → (ι[n]? = some a ∧ n < ι.length) ∨ (n = ι.length ∧ a = p) := fun n a e => by
    by_cases hn : n < ι.length
    · rw [List.getElem?_append_left hn] at e; exact .inl ⟨e, hn⟩
    · rw [List.getElem?_append_right (Nat.le_of_not_lt hn)] at e
      have h2 : n - ι.length = 0 := by
        by_cases h0 : n - ι.length = 0
        · exact h0
        · rw [List.getElem?_eq_none (by simp; omega)] at e; cases e
      rw [h2] at e
      exact .inr ⟨by omega, by simpa using e.symm⟩
  refine ⟨fun b x e => ?_, by simp [R.len], ?_, fun n a e => ?_, fun n a e l => ?_, fun n a m' e l => ?_⟩
  · rw [upd_ne (ne_of_none e hF)]; exact R.sub _ _ e
  · rw [List.nodup_append]
    exact ⟨R.nd, by simp, fun x hx y hy e => hne (by rw [List.mem_singleton.mp hy] at e; exact e ▸ hx)⟩
  · rcases cs n a e with ⟨h1, _⟩ | ⟨_, rfl⟩
    · rw [upd_ne (hn n a h1)]; exact R.trk n a h1
    · rw [upd_same]; exact fun z => nomatch z
  · rcases cs n a e with ⟨h1, h2⟩ | ⟨_, rfl⟩
    · rcases live_app l with l | ⟨l, _⟩
      · exact R.off n a h1 l
      · rw [R.len] at h2; omega
    · exact hF
  · rcases cs n a e with ⟨h1, h2⟩ | ⟨h1, rfl⟩
    · rw [List.getElem?_append_left (by rw [← R.len]; exact h2)] at l
      obtain ⟨u, q1, q2⟩ := R.has n a m' h1 l
      exact ⟨u, by rw [upd_ne (hn n a h1)]; exact q1, q2.mono (fun _ _ h => h) (Ext.app _ _)⟩
    · subst h1
      rw [R.len, List.getElem?_append_right (Nat.le_refl _), Nat.sub_self] at l
      have l' : m = m' := by simpa using l
      subst l'
      exact ⟨o, upd_same, hm.mono (fun _ _ h => h) (Ext.app _ _)⟩
theorem Grow.newloc {M : Mem} {p : Addr} {o : HO} {m : MO} (R : Rel W M F H ι) (hp : H p = none) : Grow M F H ι (M ++ [some m]) F (upd H p o) (ι ++ [p]) := by
  refine ⟨fun _ _ h => h, Ext.app _ _, fun a u h _ => ?_, fun a h => ?_, fun n a h => ?_, fun n a h l => ?_, fun _ _ h => .inl h⟩
  · rw [upd_ne (ne_of_none h hp)]; exact h
  · by_cases e : a = p
    · subst e; rw [upd_same]; exact fun z => nomatch z
    · rw [upd_ne e]; exact h
  · by_cases hn : n < ι.length
    · rw [List.getElem?_append_left hn] at h; exact .inl h
    · rw [List.getElem?_append_right (Nat.le_of_not_lt hn)] at h
      have e : a = p := by
        have := List.mem_of_getElem? h
        simpa using this
      rw [e]; exact .inr hp
  · have hn := (List.getElem?_eq_some_iff.mp h).1
    rcases live_app l with l | ⟨l, _⟩
    · exact l
    · rw [R.len] at hn; omega
/-- a place of the store is changed -/
theorem Rel.setloc {M : Mem} {n : Nat} {a : Addr} {o : HO} {m m' : MO} (R : Rel W M F H ι) (hn : ι[n]? = some a) (hl : M[n]? = some (some m)) (hm : MRp W F ι o m') : Rel W (M.set n (some m')) F (upd H a o) ι := by
  have hF : F a = none := R.off n a hn ⟨m, hl⟩
  have hlt : n < M.length := (List.getElem?_eq_some_iff.mp hl).1
  have hi : ∀ (k : Nat) (b : Addr), ι[k]? = some b → b = a → k = n := fun k b e z => by
    obtain ⟨h1, e1⟩ := List.getElem?_eq_some_iff.mp e
    obtain ⟨h2, e2⟩ := List.getElem?_eq_some_iff.mp hn
    exact (List.getElem_inj R.nd).mp (by rw [e1, e2, z])
  have lv : ∀ k, live (M.set n (some m')) k → live M k := fun k ⟨u, e⟩ => by
    by_cases hk : n = k
    · subst hk; exact ⟨m, hl⟩
    · rw [List.getElem?_set_ne hk] at e; exact ⟨u, e⟩
  refine ⟨fun b x e => ?_, by simp [R.len], R.nd, fun k b e => ?_, fun k b e l => R.off k b e (lv k l), fun k b u e l => ?_⟩
  · rw [upd_ne (ne_of_none e hF)]; exact R.sub _ _ e
  · by_cases hb : b = a
    · subst hb; rw [upd_same]; exact fun z => nomatch z
    · rw [upd_ne hb]; exact R.trk k b e
  · by_cases hk : n = k
    · subst hk
      rw [List.getElem?_set_self hlt] at l
      have l' : m' = u := by simpa using l
      subst l'
      rw [hn] at e
      have e' : a = b := by simpa using e
      subst e'
      exact ⟨o, upd_same, hm⟩
    · rw [List.getElem?_set_ne hk] at l
      obtain ⟨x, q1, q2⟩ := R.has k b u e l
      exact ⟨x, by rw [upd_ne (fun z => hk (hi k b e z).symm)]; exact q1, q2⟩
theorem Grow.setloc {M : Mem} {n : Nat} {a : Addr} {o : HO} {m : MO} {mm : Option MO} (R : Rel W M F H ι) (hn : ι[n]? = some a) (hl : M[n]? = some (some m)) : Grow M F H ι (M.set n mm) F (upd H a o) ι := by
  refine ⟨fun _ _ h => h, Ext.refl _, fun b u h nl => ?_, fun b h => ?_, fun k b h => .inl h, fun k b _ l => ?_, fun _ _ h => .inl h⟩
  · rw [upd_ne (fun z : b = a => nl n (by rw [z]; exact hn) ⟨m, hl⟩)]; exact h
  · by_cases e : b = a
    · subst e; rw [upd_same]; exact fun z => nomatch z
    · rw [upd_ne e]; exact h
  · obtain ⟨u, e⟩ := l
    by_cases hk : n = k
    · subst hk; exact ⟨m, hl⟩
    · rw [List.getElem?_set_ne hk] at e; exact ⟨u, e⟩
/-- a tracked object that no place and no frozen value is -/
def hid (H : Hp) (p : Addr) : Hp := fun a => if a = p then none else H a
theorem hid_same {p : Addr} : hid H p p = none := by unfold hid; rw [if_pos rfl]
theorem hid_ne {p a : Addr} (h : a ≠ p) : hid H p a = H a := by unfold hid; rw [if_neg h]
theorem hid_upd {p : Addr} {o : HO} : upd (hid H p) p o = upd H p o := by
  funext a
  by_cases h : a = p
  · subst h; rw [upd_same, upd_same]
  · rw [upd_ne h, upd_ne h, hid_ne h]
theorem Rel.shown {M : Mem} {p : Addr} (R : Rel W M F (hid H p) ι) : Rel W M F H ι ∧ F p = none ∧ p ∉ ι := by
  have hn : ∀ (n : Nat) (a : Addr), ι[n]? = some a → a ≠ p := fun n a e z => R.trk n a e (by rw [z]; exact hid_same)
  refine ⟨⟨fun b x e => ?_, R.len, R.nd, fun n a e => ?_, R.off, fun n a m e l => ?_⟩, R.Fn hid_same, R.ne hid_same⟩
  · have := R.sub b x e
    by_cases hb : b = p
    · subst hb; rw [hid_same] at this; cases this
    · rwa [hid_ne hb] at this
  · have := R.trk n a e
    rwa [hid_ne (hn n a e)] at this
  · obtain ⟨o, h1, h2⟩ := R.has n a m e l
    exact ⟨o, by rwa [hid_ne (hn n a e)] at h1, h2⟩
theorem Rel.hidden {M : Mem} {p : Addr} (R : Rel W M F H ι) (h1 : F p = none) (h2 : p ∉ ι) : Rel W M F (hid H p) ι := by
  have hn : ∀ (n : Nat) (a : Addr), ι[n]? = some a → a ≠ p := fun n a e z => h2 (z ▸ List.mem_of_getElem? e)
  refine ⟨fun b x e => ?_, R.len, R.nd, fun n a e => ?_, R.off, fun n a m e l => ?_⟩
  · rw [hid_ne (ne_of_none e h1)]; exact R.sub _ _ e
  · rw [hid_ne (hn n a e)]; exact R.trk n a e
  · obtain ⟨o, q1, q2⟩ := R.has n a m e l
    exact ⟨o, by rw [hid_ne (hn n a e)]; exact q1, q2⟩
/-- what goes on beside p -/
theorem Grow.beside {M M' : Mem} {p : Addr} {o : HO} (g : Grow M F H ι M' F' H' ι') (hp : H p = some o) (h1 : F p = none) (h2 : p ∉ ι) : H' p = some o ∧ F' p = none ∧ p ∉ ι' ∧ Grow M F (hid H p) ι M' F' (hid H' p) ι' := by
  have nl : ∀ n : Nat, ι[n]? = some p → False := fun n e => h2 (List.mem_of_getElem? e)
  have hF : F' p = none := by
    cases q : F' p with
    | none => rfl
    | some u =>
      rcases g.fz p u q with z | z | ⟨n, z, _⟩
      · rw [h1] at z; cases z
      · rw [hp] at z; cases z
      · exact (nl n z).elim
  have hι : p ∉ ι' := fun hm => by
    obtain ⟨n, e⟩ := List.mem_iff_getElem?.mp hm
    rcases g.fresh n p e with z | z
    · exact nl n z
    · rw [hp] at z; cases z
  refine ⟨g.keep p o hp fun n e => (nl n e).elim, hF, hι, g.f, g.i, fun a u h k => ?_, fun a h => ?_, fun n a h => ?_, g.lv, fun a u h => ?_⟩
  · by_cases e : a = p
    · subst e; rw [hid_same] at h; cases h
    · rw [hid_ne e] at h ⊢; exact g.keep a u h k
  · by_cases e : a = p
    · subst e; exact absurd hid_same h
    · rw [hid_ne e] at h ⊢; exact g.there a h
  · rcases g.fresh n a h with z | z
    · exact .inl z
    · refine .inr ?_
      by_cases e : a = p
      · rw [e]; exact hid_same
      · rw [hid_ne e]; exact z
  · rcases g.fz a u h with z | z | z
    · exact .inl z
    · refine .inr (.inl ?_)
      by_cases e : a = p
      · rw [e]; exact hid_same
      · rw [hid_ne e]; exact z
    · exact .inr (.inr z)

/-- the slots -/
abbrev Env' := List (Option D)
structure RelS (W : Wd) (F : Hp) (ι : List Addr) (ρ : Env') (σ : St) : Prop where
  len : ρ.length = σ.length
  at_ : ∀ (i : Nat) (d : D), ρ[i]? = some (some d) → ∃ v, σ[i]? = some (some v) ∧ Rp W F ι v d
theorem RelS.mono {ρ : Env'} {σ : St} (R : RelS W F ι ρ σ) (s : Same F F') (e : Ext ι ι') : RelS W F' ι' ρ σ := ⟨R.len, fun i d h => let ⟨v, h1, h2⟩ := R.at_ i d h; ⟨v, h1, h2.mono s e⟩⟩
theorem RelS.set {ρ : Env'} {σ : St} (R : RelS W F ι ρ σ) (i : Nat) (r : Rp W F ι v d) : RelS W F ι (ρ.set i (some d)) (σ.set i (some v)) := by
  refine ⟨by simp [R.len], fun j e h => ?_⟩
  by_cases hij : i = j
  · subst hij
    by_cases hl : i < ρ.length
    · rw [List.getElem?_set_self hl] at h
      have h' : d = e := by simpa using h
      subst h'
      exact ⟨v, by rw [List.getElem?_set_self (by rw [← R.len]; exact hl)], r⟩
    · rw [List.getElem?_eq_none (by simp; omega)] at h; cases h
  · rw [List.getElem?_set_ne hij] at h ⊢
    exact R.at_ j e h
theorem RelS.forget {ρ : Env'} {σ : St} (R : RelS W F ι ρ σ) (i : Nat) : RelS W F ι (ρ.set i none) (σ.set i none) := by
  refine ⟨by simp [R.len], fun j e h => ?_⟩
  by_cases hij : i = j
  · subst hij
    by_cases hl : i < ρ.length
    · rw [List.getElem?_set_self hl] at h; cases h
    · rw [List.getElem?_eq_none (by simp; omega)] at h; cases h
  · rw [List.getElem?_set_ne hij] at h ⊢
    exact R.at_ j e h
end
end Dv
end L2
/-! Dv: the syntax of one's own, and what it means over deep values -/
namespace L2
namespace Dv
open PySem PySem.Spec PyProof.Rows

/-! ### syntax -/
inductive Tg where
  | nm (i : Nat) | tp (ts : List Tg)
  deriving Inhabited
/-- built-in functions and classes that are called -/
inductive Bi where
  | len | int | abs | max | min | all | any | sorted | list | listM | tuple | str | repr | bool | sum | set | dict
  deriving DecidableEq
/-- methods of built-in types -/
inductive Me where
  | append | pop | extend | join | items | values | get | index | clear | insert | split | partition | lstrip | lower | replace | update | setdefault | count
  deriving DecidableEq
/-- what isinstance asks for -/
inductive Ty where
  | bt (n : String) | own (c : Nat)
  deriving DecidableEq
inductive E where
  | var (i : Nat) | cst (c : Const) | glo (g : Nat)
  | bop (op : Operator) (a b : E) | neg (a : E) | boo (and : Bool) (es : List E) | not (a : E)
  | cmp (a : E) (op : CmpOp) (b : E) | chn (a : E) (op1 : CmpOp) (b : E) (op2 : CmpOp) (c : E)
  | ife (t a b : E)
  | tup (es : List E) | lst (fz : Bool) (es : List E) | dis (fz : Bool) (ks vs : List E) | star (e : E)
  | lc (fz : Bool) (elt : E) (tg : Tg) (it : E) (ifs : List E) (own : List Nat)
  | lc2 (fz : Bool) (elt : E) (tg : Tg) (it : E) (tg2 : Tg) (it2 : E) (own own2 : List Nat)
  | call (f : Nat) (es : List E) | blt (b : Bi) (es : List E) | mth (m : Me) (o : E) (es : List E)
  | isi (a : E) (t : Ty)
  | sub (o i : E) | slc (o : E) (lo hi : Option E) | rev (o : E)
  | rng (es : List E) | zip (a b : E) | enm (a : E)
  deriving Inhabited
inductive Pt where
  | wild | cap (i : Nat) | val (c : Const) | alt (ps : List Pt) | seq (ps : List Pt)
  deriving Inhabited
inductive S where
  | exp (e : E) | set (tg : Tg) (e : E) | par (i j : Nat) (a b : E) | aug (i : Nat) (op : Operator) (e : E) | sst (o i e : E)
  | ite (t : E) (a b : List S) | whl (t : E) (b : List S) | fr (tg : Tg) (it : E) (b : List S)
  | ret (e : E) | retN | pass | brk | cnt | mat (e : E) (cs : List Pt) (bs : List (List S)) | frz (i : Nat)
  deriving Inhabited

/-! ### what comes of a run -/
structure Ex where
  c : Nat
  ns : List Str
  vs : List D
inductive R (α : Type) where
  | ok (a : α) (M : Mem) | err (x : Ex) (M : Mem) | bad
def R.bnd {α β : Type} (r : R α) (f : α → Mem → R β) : R β := match r with
  | .ok a M => f a M
  | .err x M => .err x M
  | .bad => .bad
def R.of {α : Type} (o : Option α) (M : Mem) : R α := match o with
  | some a => .ok a M
  | none => .bad
@[simp] theorem R.bnd_ok {α β : Type} (a : α) (M : Mem) (f : α → Mem → R β) : (R.ok a M).bnd f = f a M := rfl
@[simp] theorem R.bnd_err {α β : Type} (x : Ex) (M : Mem) (f : α → Mem → R β) : (R.err x M : R α).bnd f = .err x M := rfl
@[simp] theorem R.bnd_bad {α β : Type} (f : α → Mem → R β) : (R.bad : R α).bnd f = .bad := rfl
@[simp] theorem R.of_some {α : Type} (a : α) (M : Mem) : R.of (some a) M = .ok a M := rfl
@[simp] theorem R.of_none {α : Type} (M : Mem) : (R.of none M : R α) = .bad := rfl
inductive RS where
  | nx (ρ : Env') (M : Mem) | rt (d : D) (M : Mem) | bk (ρ : Env') (M : Mem) | ct (ρ : Env') (M : Mem) | er (x : Ex) (ρ : Env') (M : Mem) | bad
def R.st {α : Type} (r : R α) (ρ : Env') (f : α → Mem → RS) : RS := match r with
  | .ok a M => f a M
  | .err x M => .er x ρ M
  | .bad => .bad
@[simp] theorem R.st_ok {α : Type} (a : α) (M : Mem) (ρ : Env') (f : α → Mem → RS) : (R.ok a M).st ρ f = f a M := rfl
@[simp] theorem R.st_err {α : Type} (x : Ex) (M : Mem) (ρ : Env') (f : α → Mem → RS) : (R.err x M : R α).st ρ f = .er x ρ M := rfl
@[simp] theorem R.st_bad {α : Type} (ρ : Env') (f : α → Mem → RS) : (R.bad : R α).st ρ f = .bad := rfl

/-! ### places -/
mutual
def D.bel (n : Nat) : D → Bool
  | .loc k => decide (k < n)
  | .tup xs => D.bels n xs
  | .lst xs => D.bels n xs
  | .ro xs => D.bels n xs
  | .dic ks vs => D.bels n ks && D.bels n vs
  | .obj _ _ vs => D.bels n vs
  | .non => true | .bl _ => true | .int _ => true | .str _ => true
def D.bels (n : Nat) : List D → Bool
  | [] => true
  | x :: xs => D.bel n x && D.bels n xs
end
def MO.bel (n : Nat) : MO → Bool
  | .lst xs => D.bels n xs
  | .dic ks vs => D.bels n ks && D.bels n vs
  | .ins _ _ vs => D.bels n vs
/-- a value with a place from n on taken as it stands -/
def res (M : Mem) (n : Nat) (d : D) : Option D := match d with
  | .loc k => if k < n then some d else match M[k]? with
    | some (some (.lst xs)) => if D.bels n xs then some (.lst xs) else none
    | some (some (.dic ks vs)) => if D.bels n ks && D.bels n vs then some (.dic ks vs) else none
    | some (some (.ins c ns vs)) => if D.bels n vs then some (.obj c ns vs) else none
    | _ => none
  | d => if d.bel n then some d else none
def oldOk (n : Nat) : Mem → Bool
  | [] => true
  | none :: r => oldOk n r
  | some o :: r => o.bel n && oldOk n r
def trim (n : Nat) (d : D) (M : Mem) : R D := match res M n d with
  | some e => if oldOk n (M.take n) then .ok e (M.take n) else .bad
  | none => .bad

/-! ### values -/
def cstD : Const → Option D
  | .none => some .non
  | .bool b => some (.bl b)
  | .int i => some (.int i)
  | .str x => some (.str x)
  | _ => none
/-- the items of a list, a tuple -/
def seqD (M : Mem) : D → Option (List D)
  | .lst xs => some xs
  | .ro xs => some xs
  | .tup xs => some xs
  | .loc n => match M[n]? with
    | some (some (.lst xs)) => some xs
    | _ => none
  | _ => none
def lstD (M : Mem) : D → Option (List D)
  | .lst xs => some xs
  | .loc n => match M[n]? with
    | some (some (.lst xs)) => some xs
    | _ => none
  | _ => none
def isTup : D → Option (List D)
  | .tup xs => some xs
  | _ => none
mutual
def D.toPy : D → Option PyData
  | .non => some .none
  | .bl b => some (.bool b)
  | .int i => some (.int i)
  | .str x => some (.str x)
  | .tup xs => (D.toPys xs).map .tuple
  | .lst xs => (D.toPys xs).map .list
  | .ro _ => none
  | .dic [] [] => some (.dict [])
  | .dic _ _ => none
  | .obj _ _ _ => none
  | .loc _ => none
def D.toPys : List D → Option (List PyData)
  | [] => some []
  | x :: xs => match D.toPy x, D.toPys xs with
    | some a, some b => some (a :: b)
    | _, _ => none
end
/-- .. of a place's list too -/
def toPyM (M : Mem) (d : D) : Option PyData := match d with
  | .loc n => match M[n]? with
    | some (some (.lst xs)) => (D.toPys xs).map .list
    | _ => none
  | d => d.toPy
mutual
/-- no list within -/
def noList : PyData → Bool
  | .list _ => false
  | .tuple xs => noLists xs
  | _ => true
def noLists : List PyData → Bool
  | [] => true
  | x :: xs => noList x && noLists xs
end
/-- == -/
def eqD (M : Mem) (a b : D) : Option Bool := match a, b with
  | .str x, .str y => some (decide (x = y))
  | a, b => match toPyM M a, toPyM M b with
    | some x, some y => if x.canLay0 && y.canLay0 && decide (min x.depth y.depth ≤ 64) then some (PyData.eqv x y) else match x, y with
      | .dict _, .str _ => some false
      | _, _ => none
    | _, _ => none
/-- != -/
def neD (M : Mem) (a b : D) : Option Bool := match a, b with
  | .str x, .str y => some (!decide (x = y))
  | a, b => match toPyM M a, toPyM M b with
    | some x, some y => if x.canLay0 && y.canLay0 && decide (min x.depth y.depth ≤ 64) then some (!PyData.eqv x y) else none
    | _, _ => none
/-- the truth of a value -/
def truD (M : Mem) : D → Option Bool
  | .non => some false
  | .bl b => some b
  | .int i => some (i != 0)
  | .str x => if x.length ≤ sizeLine then some (x.length != 0) else none
  | .tup xs => some (!xs.isEmpty)
  | .lst xs => some (!xs.isEmpty)
  | .ro xs => some (!xs.isEmpty)
  | .dic ks _ => some (!ks.isEmpty)
  | .loc n => match M[n]? with
    | some (some (.lst xs)) => some (!xs.isEmpty)
    | some (some (.dic ks _)) => some (!ks.isEmpty)
    | _ => none
  | .obj _ _ _ => none
def intsOf : List D → Option (List Int)
  | [] => some []
  | .int i :: r => (intsOf r).map (i :: ·)
  | _ => none
def strsOf : List D → Option (List Str)
  | [] => some []
  | .str x :: r => (strsOf r).map (x :: ·)
  | _ => none
def blsOf : List D → Option (List Bool)
  | [] => some []
  | .bl x :: r => (blsOf r).map (x :: ·)
  | _ => none
def bopD (M : Mem) (op : Operator) (a b : D) : Option D := match op, a, b with
  | .Add, .int i, .int j => some (.int (i + j))
  | .Sub, .int i, .int j => some (.int (i - j))
  | .Mult, .int i, .int j => if i.natAbs.log2 + j.natAbs.log2 < 1000000 then some (.int (i * j)) else none
  | .FloorDiv, .int i, .int j => if 0 < j ∧ j.natAbs.log2 < 9000 then some (.int (i / j)) else none
  | .Mod, .int i, .int j => if 0 < j then some (.int (i % j)) else none
  | .Pow, .int i, .int j => if 0 ≤ j ∧ (Builtin.Int.intBits i : Int) * j ≤ 2 ^ 27 then some (.int (i ^ j.toNat)) else none
  | .Add, .str x, .str y => if x.length + y.length ≤ sizeLine then some (.str (x ++ y)) else none
  | .Add, .tup xs, .tup ys => if xs.length + ys.length ≤ sizeLine then some (.tup (xs ++ ys)) else none
  | .Mult, .tup xs, .int k => if xs ≠ [] ∧ 2 ≤ k ∧ k ≤ 1000 ∧ xs.length ≤ 1000 then some (.tup (List.replicate k.toNat xs).flatten) else none
  | .Add, a, b => match lstD M a, lstD M b with
    | some xs, some ys => if xs.length + ys.length ≤ sizeLine then some (.lst (xs ++ ys)) else none
    | _, _ => none
  | .Mult, a, .int k => match lstD M a with
    | some xs => if k ≤ 2 ^ 30 ∧ xs.length * k.toNat ≤ sizeLine ∧ -(2 ^ 30) ≤ k then some (.lst (List.replicate k.toNat xs).flatten) else none
    | none => none
  | _, _, _ => none
/-- flat things -/
def flatD : D → Bool
  | .non => true | .bl _ => true | .int _ => true | .str _ => true | _ => false
def toV : D → Option V
  | .non => some .non | .bl b => some (.bl b) | .int i => some (.int i) | .str x => some (.str x) | _ => none
def toVs : List D → Option (List V)
  | [] => some []
  | d :: ds => match toV d, toVs ds with
    | some v, some vs => some (v :: vs)
    | _, _ => none
def inS (x : Str) (y : Str) : Bool := !(Builtin.Str.occurrences y x 0 y.length 1).isEmpty
def cmpD (M : Mem) (op : CmpOp) (a b : D) : Option Bool := match op, a, b with
  | .Eq, a, b => eqD M a b
  | .NotEq, a, b => neD M a b
  | .Lt, .int i, .int j => some (decide (i < j))
  | .LtE, .int i, .int j => some (decide (i ≤ j))
  | .Gt, .int i, .int j => some (decide (j < i))
  | .GtE, .int i, .int j => some (decide (j ≤ i))
  | .Lt, .str x, .str y => some (decide (x.cps.toList < y.cps.toList))
  | .Gt, .str x, .str y => some (decide (y.cps.toList < x.cps.toList))
  | .Is, a, .non => match a with
    | .non => some true
    | _ => some false
  | .IsNot, a, .non => match a with
    | .non => some false
    | _ => some true
  | .Is, .bl x, .bl y => some (decide (x = y))
  | .IsNot, .bl x, .bl y => some (!decide (x = y))
  | .In, .str x, .str y => some (inS x y)
  | .NotIn, .str x, .str y => some (!inS x y)
  | .In, a, b => match seqD M b with
    | some ds => if flatD a && ds.all flatD then (match toV a, toVs ds with | some v, some vs => some (inV v vs) | _, _ => none) else none
    | none => none
  | .NotIn, a, b => match seqD M b with
    | some ds => if flatD a && ds.all flatD then (match toV a, toVs ds with | some v, some vs => some (!inV v vs) | _, _ => none) else none
    | none => none
  | _, _, _ => none
def tyName : D → Option String
  | .non => some "NoneType" | .bl _ => some "bool" | .int _ => some "int" | .str _ => some "str"
  | .tup _ => some "tuple" | .lst _ => some "list" | .ro _ => some "list" | .dic _ _ => some "dict" | _ => none
def isiD (d : D) : Ty → Option Bool
  | .bt n => match tyName d with
    | some t => kitB t n
    | none => none
  | .own _ => none
def subD (M : Mem) (o i : D) : Option D := match o, i with
  | .str x, .int k => if x.length ≤ sizeLine then (atI x.cps.toList k).map fun c => .str ⟨#[c]⟩ else none
  | o, .int k => (seqD M o).bind fun xs => atI xs k
  | _, _ => none
def cutL {α : Type} (xs : List α) (lo hi : Option Int) : List α := (xs.drop (HT.sIx xs.length 0 lo)).take (HT.sIx xs.length xs.length hi - HT.sIx xs.length 0 lo)
def slcD (M : Mem) (o : D) (lo hi : Option Int) : Option D := match o with
  | .tup xs => some (.tup (cutL xs lo hi))
  | .str x => if x.length ≤ sizeLine then some (.str (cutS x lo hi)) else none
  | o => (lstD M o).map fun xs => .lst (cutL xs lo hi)
def itD (M : Mem) : D → Option (List D)
  | .lst xs => some xs
  | .ro xs => some xs
  | .tup xs => some xs
  | .str x => some (x.cps.toList.map fun c => .str ⟨#[c]⟩)
  | _ => none
/-- a place made, or a frozen list -/
def mkL (fz : Bool) (xs : List D) (M : Mem) : R D := if xs.length ≤ sizeLine then (if fz then .ok (.lst xs) M else .ok (.loc M.length) (M ++ [some (.lst xs)])) else .bad

/-! ### targets -/
mutual
def Tg.put : Tg → D → Env' → Option Env'
  | .nm i, d, ρ => some (ρ.set i (some d))
  | .tp ts, .tup ds, ρ => if ds.length = ts.length then Tg.puts ts ds ρ else none
  | .tp _, _, _ => none
def Tg.puts : List Tg → List D → Env' → Option Env'
  | [], [], ρ => some ρ
  | t :: ts, d :: ds, ρ => match Tg.put t d ρ with
    | some ρ' => Tg.puts ts ds ρ'
    | none => none
  | _, _, _ => none
end
def wipeD (ρ : Env') : List Nat → Env'
  | [] => ρ
  | v :: vs => (wipeD ρ vs).set v none

/-! ### patterns: what is taken, or no -/
mutual
def Pt.go (M : Mem) : Pt → D → Option (Option (List (Nat × D)))
  | .wild, _ => some (some [])
  | .cap i, d => some (some [(i, d)])
  | .val c, d => match cstD c with
    | some e => match eqD M d e with
      | some true => some (some [])
      | some false => some none
      | none => none
    | none => none
  | .alt ps, d => Pt.alts M ps d
  | .seq ps, .tup xs => if xs.length = ps.length then Pt.gos M ps xs else some none
  | .seq _, _ => none
def Pt.alts (M : Mem) : List Pt → D → Option (Option (List (Nat × D)))
  | [], _ => some none
  | p :: ps, d => match Pt.go M p d with
    | some (some l) => some (some l)
    | some none => Pt.alts M ps d
    | none => none
def Pt.gos (M : Mem) : List Pt → List D → Option (Option (List (Nat × D)))
  | p :: ps, x :: xs => match Pt.go M p x with
    | some (some l) => match Pt.gos M ps xs with
      | some (some r) => some (some (l ++ r))
      | other => other
    | other => other
  | _, _ => some (some [])
end
def sets (ρ : Env') : List (Nat × D) → Env'
  | [] => ρ
  | (i, d) :: r => sets (ρ.set i (some d)) r

/-! ### a list made, item by item -/
def foldC (f : D → Mem → R (Option D)) : List D → List D → Mem → R (List D)
  | [], acc, M => .ok acc M
  | x :: xs, acc, M => match f x M with
    | .ok (some y) M1 => if acc.length < sizeLine then foldC f xs (acc ++ [y]) M1 else .bad
    | .ok none M1 => foldC f xs acc M1
    | _ => .bad
def isT : E → Bool
  | .not _ => true | .boo _ _ => true | .ife _ _ _ => true | .cmp _ _ _ => true | .chn _ _ _ _ _ => true
  | _ => false
def isIt : E → Bool
  | .rng _ => true | .zip _ _ => true | .enm _ => true
  | _ => false
def lastL (xs : List D) : Option (D × List D) := match xs.reverse with
  | [] => none
  | x :: r => some (x, r.reverse)
def joinS (sep : Str) (xs : List Str) : Option Str := if (xs.map (·.length)).sum + xs.length * sep.length ≤ 16777216 then some (Txt.join sep xs) else none

/-! ### built-ins -/
def lenD (M : Mem) : D → Option Int
  | .str x => if x.length ≤ sizeLine then some x.length else none
  | .tup xs => some xs.length
  | .lst xs => some xs.length
  | .ro xs => some xs.length
  | .loc n => match M[n]? with
    | some (some (.lst xs)) => some xs.length
    | _ => none
  | _ => none
def reprD (M : Mem) (d : D) : Option Str := match toPyM M d with
  | some x => if x.showable && decide (x.shown.length ≤ sizeLine) && decide (x.depth ≤ 60) && (!x.hasDict || noList x) then some x.shown else none
  | none => none
def bltD (b : Bi) (ds : List D) (M : Mem) : R D := match b, ds with
  | .len, [d] => R.of ((lenD M d).map .int) M
  | .int, [.int i] => .ok (.int i) M
  | .int, [.bl b] => .ok (.int (if b then 1 else 0)) M
  | .abs, [.int i] => .ok (.int (if i < 0 then -i else i)) M
  | .max, [.int i, .int j] => .ok (.int (if j > i then j else i)) M
  | .min, [.int i, .int j] => .ok (.int (if j < i then j else i)) M
  | .all, [d] => R.of (((lstD M d).bind blsOf).map fun bs => .bl (bs.all id)) M
  | .list, [d] => match seqD M d with
    | some xs => mkL true xs M
    | none => .bad
  | .listM, [d] => match seqD M d with
    | some xs => mkL false xs M
    | none => .bad
  | .tuple, [.tup xs] => .ok (.tup xs) M
  | .tuple, [d] => R.of ((lstD M d).map .tup) M
  | .repr, [d] => R.of ((reprD M d).map .str) M
  | _, _ => .bad
/-- methods: the receiver, the arguments -/
def mthD (m : Me) (o : D) (ds : List D) (M : Mem) : R D := match m, o, ds with
  | .append, .loc n, [d] => match M[n]? with
    | some (some (.lst xs)) => if xs.length < sizeLine then .ok .non (M.set n (some (.lst (xs ++ [d])))) else .bad
    | _ => .bad
  | .pop, .loc n, [] => match M[n]? with
    | some (some (.lst xs)) => match xs.getLast? with
      | some x => .ok x (M.set n (some (.lst xs.dropLast)))
      | none => .bad
    | _ => .bad
  | .pop, .loc n, [.int i] => match M[n]? with
    | some (some (.lst xs)) => match ixN xs.length i with
      | some j => match xs[j]? with
        | some x => if -(2 ^ 63) ≤ i ∧ i < 2 ^ 63 then .ok x (M.set n (some (.lst (xs.eraseIdx j)))) else .bad
        | none => .bad
      | none => .bad
    | _ => .bad
  | .join, .str s, [d] => match lstD M d with
    | some xs => match strsOf xs with
      | some ys => R.of ((joinS s ys).map .str) M
      | none => .bad
    | none => .bad
  | _, _, _ => .bad

/-- the receiver is of the method's kind -/
def rcvB (m : Me) (M : Mem) (x : D) : Bool := match m, x with
  | .join, .str _ => true
  | .append, .loc n => match M[n]? with
    | some (some (.lst _)) => true
    | _ => false
  | .pop, .loc n => match M[n]? with
    | some (some (.lst _)) => true
    | _ => false
  | _, _ => false

/-! ### expressions -/
/-- what is fixed in a text: the defs' bodies, the module's constants -/
structure FnE where
  name : Str
  ps : List Str
  N : List Str
  keep : Bool
  body : List S
structure Tb where
  fn : Nat → Option FnE
  gl : Nat → Option (Str × D)
abbrev Calls := Nat → List D → Mem → R D

section
variable (Φ : Calls) (G : Tb)
mutual
def ev : E → Env' → Mem → R D
  | .var i, ρ, M => match ρ[i]? with
    | some (some d) => .ok d M
    | _ => .bad
  | .cst c, _, M => R.of (cstD c) M
  | .glo g, _, M => R.of ((G.gl g).map (·.2)) M
  | .bop op a b, ρ, M => (ev a ρ M).bnd fun x M1 => (ev b ρ M1).bnd fun y M2 => R.of (bopD M2 op x y) M2
  | .neg a, ρ, M => (ev a ρ M).bnd fun x M1 => match x with
    | .int i => .ok (.int (-i)) M1
    | _ => .bad
  | .boo k es, ρ, M => evB k es ρ M
  | .not a, ρ, M => (ev a ρ M).bnd fun x M1 => R.of ((truD M1 x).map fun b => .bl (!b)) M1
  | .cmp a op b, ρ, M => (ev a ρ M).bnd fun x M1 => (ev b ρ M1).bnd fun y M2 => R.of ((cmpD M2 op x y).map .bl) M2
  | .chn a p b q c, ρ, M => (ev a ρ M).bnd fun x M1 => (ev b ρ M1).bnd fun y M2 => match cmpD M2 p x y with
    | some true => (ev c ρ M2).bnd fun z M3 => R.of ((cmpD M3 q y z).map .bl) M3
    | some false => .ok (.bl false) M2
    | none => .bad
  | .ife t a b, ρ, M => (if isT t then evT t ρ M else (ev t ρ M).bnd fun d M9 => R.of (truD M9 d) M9).bnd fun k M1 => if k then ev a ρ M1 else ev b ρ M1
  | .tup es, ρ, M => (evs es ρ M).bnd fun xs M1 => if xs.length ≤ sizeLine then .ok (.tup xs) M1 else .bad
  | .lst fz es, ρ, M => (evs es ρ M).bnd fun xs M1 => mkL fz xs M1
  | .dis _ [] [], _, M => .ok (.dic [] []) M
  | .dis _ _ _, _, _ => .bad
  | .star _, _, _ => .bad
  | .lc fz elt tg it ifs own, ρ, M => (if isIt it then evI it ρ M else (ev it ρ M).bnd fun d M9 => R.of (itD M9 d) M9).bnd fun xs M1 =>
    (foldC (fun x M2 => match tg.put x (wipeD ρ own) with
      | some ρ' => (evF ifs ρ' M2).bnd fun b M3 => if b then (ev elt ρ' M3).bnd fun y M4 => .ok (some y) M4 else .ok none M3
      | none => .bad) xs [] M1).bnd fun ys M5 => mkL fz ys M5
  | .lc2 _ _ _ _ _ _ _ _, _, _ => .bad
  | .call f es, ρ, M => (evs es ρ M).bnd fun xs M1 => Φ f xs M1
  | .blt b es, ρ, M => (evs es ρ M).bnd fun xs M1 => bltD b xs M1
  | .mth m o es, ρ, M => (ev o ρ M).bnd fun x M1 => if rcvB m M1 x then (evs es ρ M1).bnd fun xs M2 => mthD m x xs M2 else .bad
  | .isi a t, ρ, M => (ev a ρ M).bnd fun x M1 => R.of ((isiD x t).map .bl) M1
  | .sub o i, ρ, M => (ev o ρ M).bnd fun x M1 => (ev i ρ M1).bnd fun y M2 => R.of (subD M2 x y) M2
  | .slc o lo hi, ρ, M => (ev o ρ M).bnd fun x M1 => (evO lo ρ M1).bnd fun l M2 => (evO hi ρ M2).bnd fun h M3 => R.of (slcD M3 x l h) M3
  | .rev o, ρ, M => (ev o ρ M).bnd fun x M1 => match x with
    | .tup xs => .ok (.tup xs.reverse) M1
    | x => R.of ((lstD M1 x).map fun xs => .lst xs.reverse) M1
  | .rng _, _, _ => .bad
  | .zip _ _, _, _ => .bad
  | .enm _, _, _ => .bad
/-- a test -/
def evT : E → Env' → Mem → R Bool
  | .not a, ρ, M => (if isT a then evT a ρ M else (ev a ρ M).bnd fun d M9 => R.of (truD M9 d) M9).bnd fun b M1 => .ok (!b) M1
  | .boo k es, ρ, M => evTs k es ρ M
  | .ife t a b, ρ, M => (if isT t then evT t ρ M else (ev t ρ M).bnd fun d M9 => R.of (truD M9 d) M9).bnd fun k M1 => if k then (if isT a then evT a ρ M1 else (ev a ρ M1).bnd fun d M9 => R.of (truD M9 d) M9) else (if isT b then evT b ρ M1 else (ev b ρ M1).bnd fun d M9 => R.of (truD M9 d) M9)
  | .cmp a op b, ρ, M => (ev a ρ M).bnd fun x M1 => (ev b ρ M1).bnd fun y M2 => R.of (cmpD M2 op x y) M2
  | .chn a p b q c, ρ, M => (ev a ρ M).bnd fun x M1 => (ev b ρ M1).bnd fun y M2 => match cmpD M2 p x y with
    | some true => (ev c ρ M2).bnd fun z M3 => R.of (cmpD M3 q y z) M3
    | some false => .ok false M2
    | none => .bad
  | _, _, _ => .bad
/-- and, or: values -/
def evB : Bool → List E → Env' → Mem → R D
  | _, [], _, _ => .bad
  | _, [a], ρ, M => ev a ρ M
  | k, a :: es, ρ, M => (ev a ρ M).bnd fun x M1 => match truD M1 x with
    | some b => if b = k then evB k es ρ M1 else .ok x M1
    | none => .bad
/-- and, or: tests -/
def evTs : Bool → List E → Env' → Mem → R Bool
  | _, [], _, _ => .bad
  | _, [a], ρ, M => (if isT a then evT a ρ M else (ev a ρ M).bnd fun d M9 => R.of (truD M9 d) M9)
  | k, a :: es, ρ, M => (if isT a then evT a ρ M else (ev a ρ M).bnd fun d M9 => R.of (truD M9 d) M9).bnd fun b M1 => if b = k then evTs k es ρ M1 else .ok b M1
/-- the tests of a comprehension: none or one -/
def evF : List E → Env' → Mem → R Bool
  | [], _, M => .ok true M
  | [t], ρ, M => (if isT t then evT t ρ M else (ev t ρ M).bnd fun d M9 => R.of (truD M9 d) M9)
  | _, _, _ => .bad
def evs : List E → Env' → Mem → R (List D)
  | [], _, M => .ok [] M
  | e :: es, ρ, M => (ev e ρ M).bnd fun x M1 => (evs es ρ M1).bnd fun xs M2 => .ok (x :: xs) M2
def evO : Option E → Env' → Mem → R (Option Int)
  | none, _, M => .ok none M
  | some e, ρ, M => (ev e ρ M).bnd fun x M1 => match x with
    | .int i => .ok (some i) M1
    | _ => .bad
/-- what is walked -/
def evI : E → Env' → Mem → R (List D)
  | .rng es, ρ, M => (evs es ρ M).bnd fun xs M1 => match xs, es.length with
    | [.int j], 1 => if -(2 ^ 62) ≤ j ∧ j < 2 ^ 62 then .ok ((List.range j.toNat).map fun (i : Nat) => .int (0 + (i : Int))) M1 else .bad
    | [.int i, .int j], 2 => if -(2 ^ 62) ≤ i ∧ i < 2 ^ 62 ∧ -(2 ^ 62) ≤ j ∧ j < 2 ^ 62 then .ok ((List.range (j - i).toNat).map fun (k : Nat) => .int (i + (k : Int))) M1 else .bad
    | _, _ => .bad
  | .zip a b, ρ, M => (ev a ρ M).bnd fun x M1 => (ev b ρ M1).bnd fun y M2 => match x, y with
    | .lst xs, .lst ys => .ok (List.zipWith (fun p q => .tup [p, q]) xs ys) M2
    | _, _ => .bad
  | .enm a, ρ, M => (ev a ρ M).bnd fun x M1 => match x with
    | .lst xs => .ok (xs.zipIdx.map fun p => .tup [.int p.2, p.1]) M1
    | _ => .bad
  | _, _, _ => .bad
end

/-- a test, whatever it is; what is walked, whatever it is -/
def tst (e : E) (ρ : Env') (M : Mem) : R Bool := if isT e then evT Φ G e ρ M else (ev Φ G e ρ M).bnd fun d M9 => R.of (truD M9 d) M9
def wlk (e : E) (ρ : Env') (M : Mem) : R (List D) := if isIt e then evI Φ G e ρ M else (ev Φ G e ρ M).bnd fun d M9 => R.of (itD M9 d) M9

/-! ### statements -/
def ipF : Operator → Option (Int → Int → Int)
  | .Add => some fun a b => a + b
  | .Sub => some fun a b => a - b
  | _ => none
def loopF (g : D → Env' → Mem → RS) : List D → Env' → Mem → RS
  | [], ρ, M => .nx ρ M
  | d :: ds, ρ, M => match g d ρ M with
    | .nx ρ1 M1 => loopF g ds ρ1 M1
    | .ct ρ1 M1 => loopF g ds ρ1 M1
    | .bk ρ1 M1 => .nx ρ1 M1
    | r => r
def loopW (t : Env' → Mem → R Bool) (g : Env' → Mem → RS) : Nat → Env' → Mem → RS
  | 0, _, _ => .bad
  | n + 1, ρ, M => (t ρ M).st ρ fun b M1 => if b then (match g ρ M1 with
    | .nx ρ2 M2 => loopW t g n ρ2 M2
    | .ct ρ2 M2 => loopW t g n ρ2 M2
    | .bk ρ2 M2 => .nx ρ2 M2
    | r => r) else .nx ρ M1
/-- how many turns a while may take -/
def turns : Nat := 100000
mutual
def xc : S → Env' → Mem → RS
  | .exp e, ρ, M => (ev Φ G e ρ M).st ρ fun _ M1 => .nx ρ M1
  | .set tg e, ρ, M => (ev Φ G e ρ M).st ρ fun x M1 => match tg.put x ρ with
    | some ρ' => .nx ρ' M1
    | none => .bad
  | .par i j a b, ρ, M => (ev Φ G a ρ M).st ρ fun x M1 => (ev Φ G b ρ M1).st ρ fun y M2 => .nx ((ρ.set i (some x)).set j (some y)) M2
  | .aug i op e, ρ, M => match ρ[i]? with
    | some (some x) => (ev Φ G e ρ M).st ρ fun y M1 => match ipF op, x, y with
      | some f, .int a, .int b => .nx (ρ.set i (some (.int (f a b)))) M1
      | _, _, _ => .bad
    | _ => .bad
  | .sst o i e, ρ, M => (ev Φ G e ρ M).st ρ fun y M1 => (ev Φ G o ρ M1).st ρ fun x M2 => (ev Φ G i ρ M2).st ρ fun k M3 => match x, k with
    | .loc n, .int j => match M3[n]? with
      | some (some (.lst xs)) => match ixN xs.length j with
        | some q => .nx ρ (M3.set n (some (.lst (xs.set q y))))
        | none => .bad
      | _ => .bad
    | _, _ => .bad
  | .ite t a b, ρ, M => (tst Φ G t ρ M).st ρ fun k M1 => if k then xs a ρ M1 else xs b ρ M1
  | .whl t b, ρ, M => loopW (fun ρ M => tst Φ G t ρ M) (fun ρ M => xs b ρ M) turns ρ M
  | .fr tg it b, ρ, M => (wlk Φ G it ρ M).st ρ fun ds M1 => loopF (fun d ρ M => match tg.put d ρ with
    | some ρ' => xs b ρ' M
    | none => .bad) ds ρ M1
  | .ret e, ρ, M => (ev Φ G e ρ M).st ρ fun d M1 => .rt d M1
  | .retN, _, M => .rt .non M
  | .pass, ρ, M => .nx ρ M
  | .brk, ρ, M => .bk ρ M
  | .cnt, ρ, M => .ct ρ M
  | .mat e ps bs, ρ, M => (ev Φ G e ρ M).st ρ fun d M1 => xm ps bs d ρ M1
  | .frz i, ρ, M => match ρ[i]? with
    | some (some (.loc n)) => match M[n]? with
      | some (some (.lst xs)) => .nx (ρ.set i (some (.lst xs))) (M.set n none)
      | _ => .bad
    | _ => .bad
def xs : List S → Env' → Mem → RS
  | [], ρ, M => .nx ρ M
  | s :: r, ρ, M => match xc s ρ M with
    | .nx ρ1 M1 => xs r ρ1 M1
    | o => o
def xm : List Pt → List (List S) → D → Env' → Mem → RS
  | p :: ps, b :: bs, d, ρ, M => match Pt.go M p d with
    | some (some l) => xs b (sets ρ l) M
    | some none => xm ps bs d ρ M
    | none => .bad
  | _, [], _, ρ, M => .nx ρ M
  | [], _, _, ρ, M => .nx ρ M
end
end

/-- the end of a call -/
def fin (keep : Bool) (n : Nat) : RS → R D
  | .nx _ M => if keep then .ok .non M else trim n .non M
  | .rt d M => if keep then .ok d M else trim n d M
  | .er x _ M => if M.length = n then .err x M else .bad
  | _ => .bad
/-- the defs, by how deep calls may go -/
def Phi (G : Tb) : Nat → Calls
  | 0, _, _, _ => .bad
  | k + 1, f, ds, M => match G.fn f with
    | none => .bad
    | some e => if ds.length = e.ps.length then fin e.keep M.length (xs (Phi G k) G e.body (ds.map some ++ List.replicate (e.N.length - ds.length) none) M) else .bad
end Dv
end L2
/-! Dv: that a def's body in the text is the one in own syntax -/
namespace L2
namespace Dv
open PySem PySem.Spec PyProof.Rows

/-- builtin names that must be built-in -/
def bnames : List Str := ["len", "int", "abs", "max", "min", "all", "any", "sorted", "list", "tuple", "str", "repr", "bool", "sum", "set", "dict", "range", "zip", "enumerate", "isinstance"]
def visB (sc : Scope) (x : Str) : Bool := match sc.names.lookup x with
  | some .local => true | some .cell => true | some .free => true | _ => false
def locB (sc : Scope) (x : Str) : Bool := match sc.names.lookup x with
  | some .local => true | some .cell => true | _ => false
def lclB (sc : Scope) (x : Str) : Bool := match sc.names.lookup x with
  | some .local => true | _ => false
def glB (sc : Scope) (x : Str) : Bool := match sc.names.lookup x with
  | some .globalImplicit => true | _ => false
def okn (x : Str) : Bool := !(x == ("__debug__" : Str)) && !(x == ("__classdict__" : Str)) && !(x == ("__name__" : Str))
def Bi.nm : Bi → String
  | .len => "len" | .int => "int" | .abs => "abs" | .max => "max" | .min => "min" | .all => "all" | .any => "any" | .sorted => "sorted"
  | .list => "list" | .listM => "list" | .tuple => "tuple" | .str => "str" | .repr => "repr" | .bool => "bool" | .sum => "sum" | .set => "set" | .dict => "dict"
def Me.nm : Me → String
  | .append => "append" | .pop => "pop" | .extend => "extend" | .join => "join" | .items => "items" | .values => "values" | .get => "get" | .index => "index"
  | .clear => "clear" | .insert => "insert" | .split => "split" | .partition => "partition" | .lstrip => "lstrip" | .lower => "lower" | .replace => "replace"
  | .update => "update" | .setdefault => "setdefault" | .count => "count"
/-- no super() -/
def noSup : Expr → Bool
  | .Call (.Name _ _) [] [] _ => false
  | _ => true
def noSl : Expr → Bool
  | .Slice _ _ _ _ => false
  | _ => true
def noSet : Expr → Bool
  | .Set _ _ _ => false
  | _ => true
def noComp : Expr → Bool
  | .ListComp _ _ _ _ => false | .SetComp _ _ _ _ => false | .DictComp _ _ _ _ _ => false
  | _ => true
def noTup : Expr → Bool
  | .Tuple _ _ _ => false
  | _ => true
def noStar : Expr → Bool
  | .Starred _ _ => false
  | _ => true
/-- what is tested by its value -/
def plT : Expr → Bool
  | .UnaryOp .Not _ _ => false | .BoolOp _ _ _ => false | .IfExp _ _ _ _ => false | .Compare _ _ _ _ => false
  | _ => true
def tsB (e : E) (x : Expr) : Bool := isT e || plT x
def tsBs : List E → List Expr → Bool
  | e :: es, x :: xs => tsB e x && tsBs es xs
  | _, _ => true
/-- what walks pairs has a target of two -/
def itB : E → Tg → Bool
  | .zip _ _, .tp _ => true
  | .enm _, .tp _ => true
  | .zip _ _, _ => false
  | .enm _, _ => false
  | _, _ => true
mutual
/-- the slots of a target -/
def Tg.ix : Tg → List Nat
  | .nm i => [i]
  | .tp ts => Tg.ixs ts
def Tg.ixs : List Tg → List Nat
  | [] => []
  | t :: ts => Tg.ix t ++ Tg.ixs ts
end
mutual
def chT (q : Bool) (N : List Str) (sc : Scope) : Tg → Expr → Bool
  | .nm i, .Name x _ => decide (N[i]? = some x) && (if q then locB sc x else lclB sc x) && okn x
  | .tp ts, .Tuple es _ _ => chTs q N sc ts es
  | _, _ => false
def chTs (q : Bool) (N : List Str) (sc : Scope) : List Tg → List Expr → Bool
  | [], [] => true
  | t :: ts, e :: es => chT q N sc t e && chTs q N sc ts es
  | _, _ => false
end
def ownN (N : List Str) (own : List Nat) : List (Str × Nat) := own.map fun i => (N.getD i Str.empty, i)

/-! ### what stands there -/
def asName : Expr → Option Str
  | .Name x _ => some x
  | _ => none
def asConst : Expr → Option Const
  | .Constant c _ _ => some c
  | _ => none
def asBin : Expr → Option (Operator × Expr × Expr)
  | .BinOp a o b _ => some (o, a, b)
  | _ => none
def asUn : Expr → Option (UnaryOp × Expr)
  | .UnaryOp o a _ => some (o, a)
  | _ => none
def asBool : Expr → Option (BoolOp × List Expr)
  | .BoolOp o a _ => some (o, a)
  | _ => none
def asCmp : Expr → Option (Expr × CmpOp × Expr)
  | .Compare a [o] [b] _ => some (a, o, b)
  | _ => none
def asChn : Expr → Option (Expr × CmpOp × Expr × CmpOp × Expr)
  | .Compare a [o, p] [b, c] _ => some (a, o, b, p, c)
  | _ => none
def asIf : Expr → Option (Expr × Expr × Expr)
  | .IfExp a b c _ => some (a, b, c)
  | _ => none
def asTup : Expr → Option (List Expr)
  | .Tuple es _ _ => some es
  | _ => none
def asLst : Expr → Option (List Expr)
  | .List es _ => some es
  | _ => none
def asDict0 : Expr → Bool
  | .Dict [] [] _ => true
  | _ => false
def asComp : Expr → Option (Expr × Expr × Expr × List Expr × Scope)
  | .ListComp x [⟨t, i, fs, a⟩] sc _ => if a = 0 then some (x, t, i, fs, sc) else none
  | _ => none
def asCall : Expr → Option (Str × List Expr)
  | .Call (.Name z _) ys [] _ => some (z, ys)
  | _ => none
def asMeth : Expr → Option (Expr × Str × List Expr)
  | .Call (.Attribute o n ap) ys [] p => if (ap.endLine == p.line) = true then some (o, n, ys) else none
  | _ => none
def asSub : Expr → Option (Expr × Expr)
  | .Subscript o i _ => some (o, i)
  | _ => none
def asSlc : Expr → Option (Option Expr × Option Expr)
  | .Slice l h none _ => some (l, h)
  | _ => none
def asBack : Expr → Bool
  | .Slice none none (some (.UnaryOp .USub (.Constant (.int 1) _ _) _)) _ => true
  | _ => false
/-- methods that are known, by how many arguments they have -/
def mthB : Me → Nat → Bool
  | .append, 1 => true | .join, 1 => true | .pop, 0 => true | .pop, 1 => true
  | _, _ => false

section
variable (T : Tb) (N : List Str)
mutual
def chE : Scope → E → Expr → Bool
  | sc, .var i, x => (match asName x with | some y => decide (N[i]? = some y) && visB sc y && okn y | none => false)
  | _, .cst c, x => (match asConst x with | some d => decide (c = d) | none => false)
  | sc, .glo g, x => (match asName x with | some y => (match T.gl g with | some (z, _) => decide (z = y) | none => false) && glB sc y && okn y | none => false)
  | sc, .bop op a b, x => (match asBin x with | some (o, y, z) => decide (op = o) && chE sc a y && chE sc b z | none => false)
  | sc, .neg a, x => (match asUn x with | some (o, y) => decide (o = .USub) && chE sc a y | none => false)
  | sc, .boo k es, x => (match asBool x with | some (o, ys) => decide (o = if k then BoolOp.And else BoolOp.Or) && chEs sc es ys && tsBs es ys | none => false)
  | sc, .not a, x => (match asUn x with | some (o, y) => decide (o = .Not) && chE sc a y && tsB a y | none => false)
  | sc, .cmp a op b, x => (match asCmp x with | some (y, o, z) => decide (op = o) && chE sc a y && chE sc b z && noSet z | none => false)
  | sc, .chn a p b q c, x => (match asChn x with | some (y, o1, z, o2, w) => decide (p = o1) && decide (q = o2) && chE sc a y && chE sc b z && chE sc c w && noSet w | none => false)
  | sc, .ife t a b, x => (match asIf x with | some (y, z, w) => chE sc t y && chE sc a z && chE sc b w && tsB t y && tsB a z && tsB b w | none => false)
  | sc, .tup es, x => (match asTup x with | some ys => chEs sc es ys | none => false)
  | sc, .lst _ es, x => (match asLst x with | some ys => chEs sc es ys | none => false)
  | _, .dis _ ks vs, x => ks.isEmpty && vs.isEmpty && asDict0 x
  | sc, .lc _ elt tg it ifs own, x => (match asComp x with
    | some (y, t, i, fs, scope) => blkC N sc scope (ownN N own) && chE sc it i && noSet i && chT false N (relS scope sc) tg t && (tg.ix.all fun j => own.contains j) && chEs (relS scope sc) ifs fs && tsBs ifs fs && itB it tg && chE (relS scope sc) elt y
    | none => false)
  | sc, .call f es, x => (match asCall x with | some (y, ys) => (match T.fn f with | some e => decide (e.name = y) | none => false) && glB sc y && okn y && !es.isEmpty && chEs sc es ys | none => false)
  | sc, .blt b es, x => (match asCall x with | some (y, ys) => decide (y = Str.ofString b.nm) && glB sc y && !es.isEmpty && chEs sc es ys | none => false)
  | sc, .mth m o es, x => (match asMeth x with | some (y, n, ys) => decide (n = Str.ofString m.nm) && chE sc o y && noSup y && chEs sc es ys && mthB m es.length | none => false)
  | sc, .isi a (.bt n), x => (match asCall x with
    | some (y, [z, t]) => decide (y = "isinstance") && glB sc y && (match asName t with
      | some t => decide (t = Str.ofString n) && glB sc t && okn t && bnames.contains t && decide (bootBuiltins t = some (.type n)) && chE sc a z
      | none => false)
    | _ => false)
  | _, .isi _ (.own _), _ => false
  | sc, .sub o i, x => (match asSub x with | some (y, z) => chE sc o y && chE sc i z && noSl z | none => false)
  | sc, .slc o lo hi, x => (match asSub x with
    | some (y, z) => chE sc o y && (match asSlc z with | some (l, h) => chO sc lo l && chO sc hi h | none => false)
    | none => false)
  | sc, .rev o, x => (match asSub x with | some (y, z) => chE sc o y && asBack z | none => false)
  | sc, .rng es, x => (match asCall x with | some (y, ys) => decide (y = "range") && glB sc y && (es.length == 1 || es.length == 2) && chEs sc es ys | none => false)
  | sc, .zip a b, x => (match asCall x with | some (y, [z, w]) => decide (y = "zip") && glB sc y && chE sc a z && chE sc b w | _ => false)
  | sc, .enm a, x => (match asCall x with | some (y, [z]) => decide (y = "enumerate") && glB sc y && chE sc a z | _ => false)
  | _, .star _, _ => false
  | _, .lc2 _ _ _ _ _ _ _ _, _ => false
def chEs : Scope → List E → List Expr → Bool
  | _, [], [] => true
  | sc, e :: es, x :: xs => chE sc e x && chEs sc es xs
  | _, _, _ => false
def chO : Scope → Option E → Option Expr → Bool
  | _, none, none => true
  | sc, some e, some x => chE sc e x
  | _, _, _ => false
end
mutual
def chP (sc : Scope) : Pt → Pattern → Bool
  | .wild, .MatchAs none none _ => true
  | .cap i, .MatchAs none (some x) _ => decide (N[i]? = some x) && locB sc x && okn x
  | .val c, .MatchValue (.Constant d _ _) _ => decide (c = d)
  | .alt ps, .MatchOr qs _ => chPs sc ps qs && chNo ps
  | .seq ps, .MatchSequence qs _ => chPs sc ps qs && !(ps.all fun p => match p with | .wild => true | _ => false) && decide (ps.length < 1000)
  | _, _ => false
def chPs (sc : Scope) : List Pt → List Pattern → Bool
  | [], [] => true
  | p :: ps, q :: qs => chP sc p q && chPs sc ps qs
  | _, _ => false
/-- alternatives that take nothing -/
def chNo : List Pt → Bool
  | [] => true
  | .val _ :: ps => chNo ps
  | _ => false
end
/-! ### what statement stands there -/
def asExp : Stmt → Option Expr
  | .Expr x _ => some x
  | _ => none
def asAsg : Stmt → Option (Expr × Expr × Nat)
  | .Assign [t] x p => some (t, x, p.line)
  | _ => none
def asAug : Stmt → Option (Str × Operator × Expr)
  | .AugAssign (.Name x _) o y _ => some (x, o, y)
  | _ => none
def asIfS : Stmt → Option (Expr × List Stmt × List Stmt)
  | .If x ys zs _ => some (x, ys, zs)
  | _ => none
def asWhl : Stmt → Option (Expr × List Stmt)
  | .While x ys [] _ => some (x, ys)
  | _ => none
def asFor : Stmt → Option (Expr × Expr × List Stmt)
  | .For t i ys [] _ => some (t, i, ys)
  | _ => none
def asRet : Stmt → Option (Option Expr)
  | .Return x _ => some x
  | _ => none
def asMat : Stmt → Option (Expr × List MatchCase)
  | .Match x cs _ => some (x, cs)
  | _ => none
def asPass : Stmt → Bool
  | .Pass _ => true
  | _ => false
def asBrk : Stmt → Bool
  | .Break _ => true
  | _ => false
def asCnt : Stmt → Bool
  | .Continue _ => true
  | _ => false
/-- two names, on one line -/
def asTwo : Expr → Option (Str × Str)
  | .Tuple [.Name x px, .Name y py] _ _ => if (py.line == px.line) = true then some (x, y) else none
  | _ => none
def asPair : Expr → Option (Expr × Expr)
  | .Tuple [u, v] _ _ => some (u, v)
  | _ => none
/-- x = [..] on one line, a local that is not the block's own -/
def swB (sc : Scope) : Expr → Expr → Bool
  | .ListComp _ _ scope pos, .Name y py => lclB sc y && (py.line == pos.line) && !(scope.names.any fun (n, k) => n == y && (k == .local || k == .cell))
  | _, _ => false
/-- a tuple of names, the first (or the second) of which is no plain local -/
def cellT (sc : Scope) : Expr → Bool
  | .Tuple [.Name x _, .Name y _] _ _ => !lclB sc x || !lclB sc y
  | _ => false
/-- .. not so -/
def swN (sc : Scope) : Expr → Expr → Bool
  | .ListComp _ _ scope pos, .Name y py => !(lclB sc y && (py.line == pos.line) && !(scope.names.any fun (n, k) => n == y && (k == .local || k == .cell)))
  | x, _ => noComp x
mutual
def chS (sc : Scope) : S → Stmt → Bool
  | .exp e, s => (match asExp s with | some x => chE T N sc e x && noComp x | none => false)
  | .set tg e, s => (match asAsg s with | some (t, x, _) => chT true N sc tg t && chE T N sc e x && ((swN sc x t && (noTup x || noTup t || cellT sc t)) || swB sc x t) | none => false)
  | .par i j a b, s => (match asAsg s with
    | some (t, x, _) => (match asTwo t, asPair x with
      | some (p, q), some (u, v) => decide (N[i]? = some p) && decide (N[j]? = some q) && decide (i ≠ j) && lclB sc p && lclB sc q && chE T N sc a u && chE T N sc b v && !(foldedForSure 8 u && foldedForSure 8 v) && !(constantsAlone 8 u && constantsAlone 8 v)
      | _, _ => false)
    | none => false)
  | .aug i op e, s => (match asAug s with | some (x, o, y) => decide (op = o) && decide (N[i]? = some x) && locB sc x && (ipF op).isSome && chE T N sc e y | none => false)
  | .sst o i e, s => (match asAsg s with
    | some (t, z, _) => (match asSub t with
      | some (x, y) => chE T N sc o x && chE T N sc i y && noSl y && chE T N sc e z && noComp z
      | none => false)
    | none => false)
  | .ite t a b, s => (match asIfS s with | some (x, ys, zs) => chE T N sc t x && tsB t x && chSs sc a ys && chSs sc b zs | none => false)
  | .whl t b, s => (match asWhl s with | some (x, ys) => chE T N sc t x && tsB t x && chSs sc b ys | none => false)
  | .fr tg it b, s => (match asFor s with | some (t, i, ys) => chT true N sc tg t && itB it tg && chE T N sc it i && noSet i && chSs sc b ys | none => false)
  | .ret e, s => (match asRet s with | some (some x) => chE T N sc e x | _ => false)
  | .retN, s => (match asRet s with | some none => true | _ => false)
  | .pass, s => asPass s
  | .brk, s => asBrk s
  | .cnt, s => asCnt s
  | .mat e ps bs, s => (match asMat s with | some (x, cs) => chE T N sc e x && chCs sc ps bs cs | none => false)
  | .frz _, _ => false
def chSs (sc : Scope) : List S → List Stmt → Bool
  | [], st => st.isEmpty
  | .frz _ :: r, st => chSs sc r st
  | s :: r, st => (match st with
    | x :: y => chS sc s x && chSs sc r y
    | [] => false)
def chCs (sc : Scope) : List Pt → List (List S) → List MatchCase → Bool
  | p :: ps, b :: bs, ⟨q, none, c⟩ :: cs => chP N sc p q && chSs sc b c && chCs sc ps bs cs
  | [], [], [] => true
  | _, _, _ => false
end
end
end Dv
end L2
/-! Dv: what is wanted of a run, and steps of it -/
namespace L2
namespace Dv
open PySem PySem.Spec PyProof.Rows

/-- an error as it lies: its class, its own dict -/
def XRp (W : Wd) (F : Hp) (ι : List Addr) (H : Hp) (x : Ex) (cls : Value) (dx : Option Addr) : Prop :=
  ∃ C vs, W.cl x.c = some C ∧ cls = .ref C ∧ Rps W F ι vs x.vs ∧ x.ns.length = vs.length ∧ (match dx with
    | none => x.ns = []
    | some d => H d = some (.xd (x.ns.zip vs)))
abbrev WXH := Value → Option Addr → Hp → Prop
def Pst {α β : Type} (W : Wd) (Wx : WXH) (rel : Hp → List Addr → β → α → Prop) (Q : β → Hp → Prop) (r : R α) (M : Mem) (F H : Hp) (ι : List Addr) : Prop := match r with
  | .ok d M' => ∀ v F' H' ι', Rel W M' F' H' ι' → Grow M F H ι M' F' H' ι' → rel F' ι' v d → Q v H'
  | .err x M' => ∀ cls dx F' H' ι', Rel W M' F' H' ι' → Grow M F H ι M' F' H' ι' → XRp W F' ι' H' x cls dx → Wx cls dx H'
  | .bad => False
def tG {α β : Type} (W : Wd) (Wx : WX) (rel : Hp → List Addr → β → α → Prop) (r : Env' → Mem → R α) : L2.St → Hp → (β → Hp → Prop) → Prop := fun σ H Q =>
  ∃ ρ M F ι, Rel W M F H ι ∧ RelS W F ι ρ σ ∧ Pst W (fun c d H' => Wx c d σ H') rel Q (r ρ M) M F H ι
def eqB : Hp → List Addr → Bool → Bool → Prop := fun _ _ b c => b = c
def eqO : Hp → List Addr → Option Int → Option Int → Prop := fun _ _ b c => b = c

section
variable {α β γ δ : Type} {W : Wd} {Wx : WXH} {rel : Hp → List Addr → β → α → Prop} {rel2 : Hp → List Addr → δ → γ → Prop} {Q Q' : β → Hp → Prop} {M M1 : Mem} {F F1 H H1 : Hp} {ι ι1 : List Addr} {ρ : Env'} {σ : L2.St}
theorem Pst.imp {r : R α} (h : ∀ v H, Q v H → Q' v H) : Pst W Wx rel Q r M F H ι → Pst W Wx rel Q' r M F H ι := by
  cases r with
  | ok d M' => exact fun p v F' H' ι' a b c => h _ _ (p v F' H' ι' a b c)
  | err x M' => exact id
  | bad => exact id
theorem Pst.from {r : R α} (g : Grow M F H ι M1 F1 H1 ι1) : Pst W Wx rel Q r M F H ι → Pst W Wx rel Q r M1 F1 H1 ι1 := by
  cases r with
  | ok d M' => exact fun p v F' H' ι' a b c => p v F' H' ι' a (g.trans b) c
  | err x M' => exact fun p cls dx F' H' ι' a b c => p cls dx F' H' ι' a (g.trans b) c
  | bad => exact id
theorem Pst.bnd {r : R α} {f : α → Mem → R γ} {Q : δ → Hp → Prop} : Pst W Wx rel2 Q (r.bnd f) M F H ι →
    Pst W Wx rel (fun v H1 => ∃ M1 F1 ι1 d, Rel W M1 F1 H1 ι1 ∧ Grow M F H ι M1 F1 H1 ι1 ∧ rel F1 ι1 v d ∧ Pst W Wx rel2 Q (f d M1) M1 F1 H1 ι1) r M F H ι := by
  cases r with
  | ok d M' => exact fun p v F' H' ι' a b c => ⟨M', F', ι', d, a, b, c, p.from b⟩
  | err x M' => exact id
  | bad => exact id
end
section
variable {α β γ δ : Type} {W : Wd} {Wx : WX} {rel : Hp → List Addr → β → α → Prop} {rel2 : Hp → List Addr → δ → γ → Prop} {M M1 : Mem} {F F1 H H1 : Hp} {ι ι1 : List Addr} {ρ : Env'} {σ : L2.St}
/-- one part of a run -/
theorem step {r : Env' → Mem → R α} {f : α → Mem → R γ} {Q : δ → Hp → Prop} (R : Rel W M F H ι) (S : RelS W F ι ρ σ) (p : Pst W (fun c d H' => Wx c d σ H') rel2 Q ((r ρ M).bnd f) M F H ι) :
    tG W Wx rel r σ H (fun v H1 => ∃ M1 F1 ι1 d, Rel W M1 F1 H1 ι1 ∧ RelS W F1 ι1 ρ σ ∧ Grow M F H ι M1 F1 H1 ι1 ∧ rel F1 ι1 v d ∧ Pst W (fun c d H' => Wx c d σ H') rel2 Q (f d M1) M1 F1 H1 ι1) :=
  ⟨ρ, M, F, ι, R, S, p.bnd.imp fun v H1 ⟨M1, F1, ι1, d, a, b, c, e⟩ => ⟨M1, F1, ι1, d, a, S.mono b.f b.i, b, c, e⟩⟩
end

/-! ### readings may be weakened -/
section
variable {X : Cx}
theorem _root_.L2.PE.imp {e : Expr} {t t' : TE} (h : PE X e t) (i : ∀ σ H Q, t' σ H Q → t σ H Q) : PE X e t' := ⟨fun pins s σ H Q I q => h.run pins s σ H Q I (i σ H Q q)⟩
theorem _root_.L2.PT.imp {e : Expr} {t t' : TT} (h : PT X e t) (i : ∀ σ H Q, t' σ H Q → t σ H Q) : PT X e t' := ⟨fun pins s σ H Q I q => h.run pins s σ H Q I (i σ H Q q)⟩
theorem _root_.L2.PW.imp {e : Expr} {t t' : TT} (h : PW X e t) (i : ∀ σ H Q, t' σ H Q → t σ H Q) : PW X e t' := ⟨fun wh pins s σ H Q I q => h.run wh pins s σ H Q I (i σ H Q q)⟩
theorem _root_.L2.PA.imp {e : List Expr} {t t' : TA} (h : PA X e t) (i : ∀ σ H Q, t' σ H Q → t σ H Q) : PA X e t' := ⟨fun pos pins s σ H Q I q => h.run pos pins s σ H Q I (i σ H Q q)⟩
theorem _root_.L2.PS.imp {e : Stmt} {t t' : TS} (h : PS X e t) (i : ∀ D σ H, t' D σ H → t D σ H) : PS X e t' := ⟨fun pins s σ H D I q => h.run pins s σ H D I (i D σ H q)⟩
theorem _root_.L2.PSs.imp {e : List Stmt} {t t' : TS} (h : PSs X e t) (i : ∀ D σ H, t' D σ H → t D σ H) : PSs X e t' := ⟨fun pins s σ H D I q => h.run pins s σ H D I (i D σ H q)⟩
theorem _root_.L2.PI.imp {tg e : Expr} {t t' : TI} (h : PI X tg e t) (i : ∀ σ H R, t' σ H R → t σ H R) : PI X tg e t' := ⟨fun pins s σ H R I q => h.run pins s σ H R I (i σ H R q)⟩
theorem _root_.L2.PO.imp {e : Option Expr} {t t' : TO} (h : PO X e t) (i : ∀ σ H Q, t' σ H Q → t σ H Q) : PO X e t' := ⟨fun pins s σ H Q I q => h.run pins s σ H Q I (i σ H Q q)⟩
theorem _root_.L2.PTs.imp {e : List Expr} {t t' : TT} (h : PTs X e t) (i : ∀ σ H Q, t' σ H Q → t σ H Q) : PTs X e t' := ⟨fun pins s σ H Q I q => h.run pins s σ H Q I (i σ H Q q)⟩
end

/-! ### calls of defs, where nothing is being shown -/
structure FnG (P : Program) (w : World) (K : PySem.W.Frag) (mg : Str → Option Value) (base : Heap) (k : Nat) (f : Addr) (fd : FuncData) (ps : List Str) (sp : Sp) : Prop where
  len : ∀ vs H Q E, sp vs H Q E → vs.length = ps.length
  run : ∀ (A : Around) (outer : List Env) (s : Shared) (H : Hp) (args : Args) (us : List Value) (vs : List V) (Q : VK) (E : XK), Room k A → A.guards = some [] → Env0 P w K mg base A outer s H →
    BindsTo s fd args (ps.zip us) → Vals vs us → sp vs H Q E → codeAny (model P w) A (.call (.ref f) args) (CR (L2.CX P w) outer P w H s Q E) s
/-- the promise of a def: what the interpreter says -/
def spF (W : Wd) (Φ : Calls) (f : Nat) : Sp := fun vs H Q E => ∃ M F ι ds, Rel W M F H ι ∧ Rps W F ι vs ds ∧ Pst W (fun c d H' => E c d H') (Rp W) Q (Φ f ds M) M F H ι

/-- what is known of the module, and of the defs that may be called -/
structure Glo (T : Tb) (Φ : Calls) (W : Wd) (k : Nat) (P : Program) (w : World) (mg : Str → Option Value) (base : Heap) : Prop where
  fn : ∀ f e, T.fn f = some e → ∃ a fd, mg e.name = some (.ref a) ∧ PySem.W.keepIn W.K (.ref a) = true ∧ Binds W.K fd e.ps [] ∧ FnG P w W.K mg base k a fd e.ps (spF W Φ f)
  gl : ∀ g x d, T.gl g = some (x, d) → ∃ u v, mg x = some u ∧ RelV v u ∧ Rp W (fun _ => none) [] v d
  bl : ∀ x, x ∈ bnames → mg x = none
/-- a place in which expressions are run -/
structure Ok (T : Tb) (Φ : Calls) (W : Wd) (k : Nat) (Wx : WX) (X : Cx) : Prop where
  K : X.K = W.K
  nd : X.N.Nodup
  room : Room k X.A
  gd : X.A.guards = some []
  calm : X.calm = true
  glo : Glo T Φ W k X.prog X.w X.mg X.base
  tk : Takes X Wx

section
variable {X : Cx} {k : Nat} {f : Addr} {fd : FuncData} {ps : List Str} {sp : Sp} {E : L2.St → XK} {x : Str} {p pos : Pos} {e : Expr} {es : List Expr} {t : TA}
theorem run_fnG {pins : List (Addr × Obj)} {σ : L2.St} {H : Hp} {s : Shared} {Q : VK} {us : List Value} {vs : List V} (G : FnG X.prog X.w X.K X.mg X.base k f fd ps sp) (hr : Room k X.A) (hg : X.A.guards = some []) (hb : Binds X.K fd ps [])
    (hx : PassesAt (L2.CX X.prog X.w) X σ (E σ)) (I : Inv X pins σ H s) (r : Vals vs us) (h : sp vs H Q (E σ)) : wpAny (model X.prog X.w) X.A (call (.ref f) us) (EP X pins σ Q) X.xe s := by
  have hl : us.length = ps.length := r.length.symm.trans (G.len _ _ _ _ h)
  have hb' : BindsTo s fd ⟨us, []⟩ (ps.zip us) := by
    have b := hb s us I.kIn (by simpa using hl)
    simpa using b
  refine wpAny_call (codeAny_mono (G.run X.A X.stack s H ⟨us, []⟩ us vs Q (E σ) hr hg I.env0 hb' r h) fun res s' hq => ?_)
  match res, hq with
  | .error e, hq => exact hx pins H s e s' I hq
  | .ok (.ret u), hq => exact I.after hq
theorem pe_callG (G : FnG X.prog X.w X.K X.mg X.base k f fd ps sp) (hr : Room k X.A) (hgd : X.A.guards = some []) (hg : Gl X x) (hm : X.mg x = some (.ref f)) (hk : PySem.W.keepIn X.K (.ref f) = true) (hb : Binds X.K fd ps [])
    (hx : ∀ σ, PassesAt (L2.CX X.prog X.w) X σ (E σ)) (ha : PA X (e :: es) t) (hdb : (x == ("__debug__" : Str)) = false) (he : starEach (e :: es) X.env = (false, eval e X.env) :: starEach es X.env)
    (hpl : (backTo pos (starEach es X.env)).any (·.1) = false) : PE X (.Call (.Name x p) (e :: es) [] pos) (tCallS sp E t) := by
  constructor
  intro pins s σ H Q I h
  refine wpAny_Call_Name_kw (ld_glob I hg hm (PySem.W.callWith_K (h₀ := X.base) I.ok.mod.kin hk ?_ he hpl) hdb)
  exact thn (ha.run pos pins s σ H _ I h) fun us s1 ⟨vs, H1, I1, r, q⟩ => ⟨I1.kIn, run_fnG G hr hgd hb (hx σ) I1 r q⟩
end
end Dv
end L2
/-! Dv: operators -/
namespace L2
namespace Dv
open PySem PySem.Spec PyProof.Rows

def Pok (W : Wd) (Q : VK) (o : Option D) (M : Mem) (F H : Hp) (ι : List Addr) : Prop := match o with
  | some d => ∀ v F' H' ι', Rel W M F' H' ι' → Grow M F H ι M F' H' ι' → Rp W F' ι' v d → Q v H'
  | none => False
section
variable {W : Wd} {Wx : WXH} {Q : VK} {M : Mem} {F H : Hp} {ι : List Addr}
theorem Pok.of {o : Option D} (p : Pst W Wx (Rp W) Q (R.of o M) M F H ι) : Pok W Q o M F H ι := by
  cases o with
  | none => exact p
  | some d => exact p
theorem Pok.now {d : D} {v : V} (p : Pok W Q (some d) M F H ι) (R : Rel W M F H ι) (r : Rp W F ι v d) : Q v H := p v F H ι R Grow.refl r
theorem Pok.newT {ds : List D} {vs : List V} (p : Pok W Q (some (.tup ds)) M F H ι) (R : Rel W M F H ι) (r : Rps W F ι vs ds) : ∀ q, H q = none → Q (.ref q) (upd H q (.tup vs)) := fun q hq =>
  p _ _ _ ι (R.frozen hq) (Grow.frozen R hq) (.tup (SqT.of upd_same) (r.mono (same_upd (R.Fn hq)) (Ext.refl _)))
theorem Pok.newL {ds : List D} {vs : List V} (p : Pok W Q (some (.lst ds)) M F H ι) (R : Rel W M F H ι) (r : Rps W F ι vs ds) : ∀ q, H q = none → Q (.ref q) (upd H q (.lst vs)) := fun q hq =>
  p _ _ _ ι (R.frozen hq) (Grow.frozen R hq) (.lst upd_same (r.mono (same_upd (R.Fn hq)) (Ext.refl _)))

/-- a list that is read: frozen, or in a place -/
theorem lst_at {d : D} {ds : List D} {v : V} (R : Rel W M F H ι) (r : Rp W F ι v d) (h : lstD M d = some ds) : ∃ a vs, v = .ref a ∧ H a = some (.lst vs) ∧ Rps W F ι vs ds := by
  cases r with
  | @lst a vs ds' h1 h2 =>
    cases (show ds' = ds from by simpa [lstD] using h)
    exact ⟨a, vs, rfl, R.sub _ _ h1, h2⟩
  | @loc n a h1 =>
    simp only [lstD] at h
    split at h
    · rename_i xs e
      cases h
      obtain ⟨o, q1, q2⟩ := R.has n a _ h1 e
      cases q2 with
      | lst q2 => exact ⟨a, _, rfl, q1, q2⟩
    · cases h
  | _ => simp [lstD] at h
theorem seq_at {d : D} {ds : List D} {v : V} (R : Rel W M F H ι) (r : Rp W F ι v d) (h : seqD M d = some ds) : ∃ a vs, v = .ref a ∧ (SqL W.K H a vs ∨ SqT W.K H a vs) ∧ Rps W F ι vs ds := by
  cases r with
  | @lst a vs ds' h1 h2 =>
    cases (show ds' = ds from by simpa [seqD] using h)
    exact ⟨a, vs, rfl, .inl (SqL.of (R.sub _ _ h1)), h2⟩
  | @ro a vs ds' h1 h2 =>
    cases (show ds' = ds from by simpa [seqD] using h)
    exact ⟨a, vs, rfl, .inl (R.sub.seq h1), h2⟩
  | @tup a vs ds' h1 h2 =>
    cases (show ds' = ds from by simpa [seqD] using h)
    exact ⟨a, vs, rfl, .inr (Same.seqT R.sub h1), h2⟩
  | @loc n a h1 =>
    simp only [seqD] at h
    split at h
    · rename_i xs e
      cases h
      obtain ⟨o, q1, q2⟩ := R.has n a _ h1 e
      cases q2 with
      | lst q2 => exact ⟨a, _, rfl, .inl (SqL.of q1), q2⟩
    · cases h
  | _ => simp [seqD] at h
end

theorem flatten_rep {α : Type} (k : Nat) (xs : List α) : True := trivial
theorem Rps.rep {W : Wd} {F : Hp} {ι : List Addr} {vs : List V} {ds : List D} (r : Rps W F ι vs ds) : ∀ k : Nat, Rps W F ι (List.replicate k vs).flatten (List.replicate k ds).flatten
  | 0 => .nil
  | k + 1 => by
    rw [List.replicate_succ, List.replicate_succ, List.flatten_cons, List.flatten_cons]
    exact r.append (Rps.rep r k)

def rB (W : Wd) (op : Operator) : R2 := fun x y H Q => ∃ M F ι a b, Rel W M F H ι ∧ Rp W F ι x a ∧ Rp W F ι y b ∧ Pok W Q (bopD M op a b) M F H ι
theorem op_bop {X : Cx} {W : Wd} (hK : X.K = W.K) (op : Operator) : OpR X (binaryOp op) (rB W op) := by
  intro pins s σ H x y v u Q I rx ry h
  obtain ⟨M, F, ι, a, b, R, ra, rb, p⟩ := h
  simp only [bopD] at p
  split at p
  · cases ra; cases rb; exact op_add pins s σ H _ _ v u Q I rx ry ⟨_, _, rfl, rfl, p.now R (.int _)⟩
  · cases ra; cases rb; exact op_sub pins s σ H _ _ v u Q I rx ry ⟨_, _, rfl, rfl, p.now R (.int _)⟩
  · split at p
    · rename_i hc
      cases ra; cases rb; exact op_mulW pins s σ H _ _ v u Q I rx ry ⟨_, _, rfl, rfl, hc, p.now R (.int _)⟩
    · exact p.elim
  · split at p
    · rename_i hc
      cases ra; cases rb; exact op_fdivW pins s σ H _ _ v u Q I rx ry ⟨_, _, rfl, rfl, hc, p.now R (.int _)⟩
    · exact p.elim
  · split at p
    · rename_i hc
      cases ra; cases rb; exact op_mod pins s σ H _ _ v u Q I rx ry ⟨_, _, rfl, rfl, hc, p.now R (.int _)⟩
    · exact p.elim
  · split at p
    · rename_i hc
      cases ra; cases rb
      obtain ⟨t, rfl⟩ := rx
      obtain ⟨t', rfl⟩ := ry
      exact pow_int hc.1 hc.2 ⟨.int _, H, I.tok _, ⟨_, rfl⟩, p.now R (.int _)⟩
    · exact p.elim
  · split at p
    · rename_i hc
      cases ra; cases rb; exact op_add_str pins s σ H _ _ v u Q I rx ry ⟨_, _, rfl, rfl, hc, p.now R (.str _)⟩
    · exact p.elim
  · split at p
    · rename_i xs ys hc
      cases ra with
      | tup h1 r1 =>
        cases rb with
        | tup h2 r2 =>
          have l1 := r1.length
          have l2 := r2.length
          refine op_catA pins s σ H _ _ v u Q I rx ry ⟨_, _, _, _, rfl, rfl, by rw [hK]; exact Same.seqT R.sub h1, by rw [hK]; exact Same.seqT R.sub h2, by omega, fun e => ?_, fun _ e => ?_, fun _ _ => p.newT R (r1.append r2)⟩
          · subst e
            cases r1
            exact p.now R (.tup h2 r2)
          · subst e
            cases r2
            rw [List.append_nil] at p
            exact p.now R (.tup h1 r1)
    · exact p.elim
  · split at p
    · rename_i xs k hc
      obtain ⟨c1, c2, c3, c4⟩ := hc
      cases rb
      cases ra with
      | tup h1 r1 =>
        have l1 := r1.length
        exact op_repT pins s σ H _ _ v u Q I rx ry ⟨_, _, _, rfl, rfl, by rw [hK]; exact Same.seqT R.sub h1, fun e => c1 (by subst e; cases r1; rfl), c2, c3, by omega, p.newT R (r1.rep _)⟩
    · exact p.elim
  · split at p
    · rename_i xs ys ha hb
      split at p
      · rename_i hc
        obtain ⟨q1, vs1, rfl, e1, r1⟩ := lst_at R ra ha
        obtain ⟨q2, vs2, rfl, e2, r2⟩ := lst_at R rb hb
        have l1 := r1.length
        have l2 := r2.length
        exact op_cat pins s σ H _ _ v u Q I rx ry ⟨_, _, _, _, rfl, rfl, e1, e2, by omega, p.newL R (r1.append r2)⟩
      · exact p.elim
    · exact p.elim
  · split at p
    · rename_i xs ha
      split at p
      · rename_i hc
        obtain ⟨c1, c2, c3⟩ := hc
        cases rb
        obtain ⟨q1, vs1, rfl, e1, r1⟩ := lst_at R ra ha
        have l1 := r1.length
        exact op_rep pins s σ H _ _ v u Q I rx ry ⟨_, _, _, rfl, rfl, e1, by omega, by omega, by rw [l1]; exact c2, p.newL R (r1.rep _)⟩
      · exact p.elim
    · exact p.elim
  · exact p.elim
end Dv
end L2
/-! Dv: comparisons, truth, items, slices, built-ins, methods -/
namespace L2
namespace Dv
open PySem PySem.Spec PyProof.Rows

/-! ### data in the heap -/
section
variable {X : Cx} {pins : List (Addr × Obj)} {σ : L2.St} {H F : Hp} {s : Shared} {W : Wd} {ι : List Addr} {M : Mem}
mutual
theorem Rp.reads (I : Inv X pins σ H s) (hK : X.K = W.K) (sub : Same F H) : ∀ (d : D) {v : V} {u : Value} {p : PyData}, Rp W F ι v d → RelV v u → d.toPy = some p → ∃ as, Reads s.heap u p as ∧ (noList p = true → ∀ b ∈ as, b ≠ sysModules)
  | .non, _, _, _, h, r, e => by
    cases h; cases r
    cases (show some PyData.none = some _ from e)
    exact ⟨_, .none, fun _ b hb => nomatch hb⟩
  | .bl x, _, _, _, h, r, e => by
    cases h; cases r
    cases (show some (PyData.bool x) = some _ from e)
    exact ⟨_, .bool x, fun _ b hb => nomatch hb⟩
  | .int i, _, _, _, h, r, e => by
    cases h
    obtain ⟨t, rfl⟩ := r
    cases (show some (PyData.int i) = some _ from e)
    exact ⟨_, .int i t, fun _ b hb => nomatch hb⟩
  | .str x, _, _, _, h, r, e => by
    cases h
    obtain ⟨t, rfl⟩ := r
    cases (show some (PyData.str x) = some _ from e)
    exact ⟨_, .str x t, fun _ b hb => nomatch hb⟩
  | .tup ds, _, _, _, h, r, e => by
    cases h with
    | tup hs ha =>
      cases r
      obtain ⟨its, rv, ⟨o, ho, hc, n, hd⟩, _⟩ := I.tuple (by rw [hK]; exact Same.seqT sub hs)
      simp only [D.toPy, Option.map_eq_some_iff] at e
      obtain ⟨ps, e, rfl⟩ := e
      obtain ⟨as, hr, hn⟩ := Rps.reads I hK sub ds ha rv e
      exact ⟨_, .tuple ho hc hd hr, fun z => hn (by simpa [noList] using z)⟩
  | .lst ds, _, _, _, h, r, e => by
    cases h with
    | lst hs ha =>
      cases r
      obtain ⟨its, rv, ⟨o, n, ho, hc, _, hd⟩, _⟩ := I.list (SqL.of (sub _ _ hs))
      simp only [D.toPy, Option.map_eq_some_iff] at e
      obtain ⟨ps, e, rfl⟩ := e
      obtain ⟨as, hr, hn⟩ := Rps.reads I hK sub ds ha rv e
      exact ⟨_, .list ho hc hd hr, fun z => by simp [noList] at z⟩
  | .dic [] [], _, _, _, h, r, e => by
    cases h with
    | @dic a kvs ks ds hs h1 h2 =>
      cases r
      cases (show some (PyData.dict []) = some _ from e)
      obtain ⟨_, hy, vs, rv, o, es, ep, ho, hx, hd, _, hp, _⟩ := I.hok _ _ (sub _ _ hs)
      have e0 : kvs = [] := by
        cases kvs with
        | nil => rfl
        | cons _ _ => cases h1
      subst e0
      cases rv
      obtain ⟨l⟩ := es
      cases hp
      exact ⟨_, .dict (kvs := []) ho hx.1 hd .nil .nil, fun _ b hb => by
        have hb' : b = a := by simpa using hb
        rw [hb']
        simpa using hy⟩
  | .dic (_ :: _) _, _, _, _, _, _, e => by simp [D.toPy] at e
  | .dic [] (_ :: _), _, _, _, _, _, e => by simp [D.toPy] at e
  | .obj _ _ _, _, _, _, _, _, e => by simp [D.toPy] at e
  | .loc _, _, _, _, _, _, e => by simp [D.toPy] at e
  | .ro _, _, _, _, _, _, e => by simp [D.toPy] at e
theorem Rps.reads (I : Inv X pins σ H s) (hK : X.K = W.K) (sub : Same F H) : ∀ (ds : List D) {vs : List V} {us : List Value} {ps : List PyData}, Rps W F ι vs ds → Vals vs us → D.toPys ds = some ps → ∃ as, ReadsAll s.heap us ps as ∧ (noLists ps = true → ∀ b ∈ as, b ≠ sysModules)
  | [], _, _, _, h, r, e => by
    cases h; cases r
    cases (show some [] = some _ from e)
    exact ⟨_, .nil, fun _ b hb => nomatch hb⟩
  | d :: ds, _, _, _, h, r, e => by
    cases h with
    | cons h1 h2 =>
      cases r with
      | cons r1 r2 =>
        simp only [D.toPys] at e
        split at e
        · rename_i p q e1 e2
          cases e
          obtain ⟨as, a1, n1⟩ := Rp.reads I hK sub d h1 r1 e1
          obtain ⟨bs, a2, n2⟩ := Rps.reads I hK sub ds h2 r2 e2
          refine ⟨_, .cons a1 a2, fun z b hb => ?_⟩
          simp only [noLists, Bool.and_eq_true] at z
          rcases List.mem_append.mp hb with hb | hb
          · exact n1 z.1 b hb
          · exact n2 z.2 b hb
        · cases e
end
theorem readsM (I : Inv X pins σ H s) (hK : X.K = W.K) (R : Rel W M F H ι) {d : D} {v : V} {u : Value} {p : PyData} (h : Rp W F ι v d) (r : RelV v u) (e : toPyM M d = some p) : ∃ as, Reads s.heap u p as ∧ (noList p = true → ∀ b ∈ as, b ≠ sysModules) := by
  cases h with
  | @loc n a h1 =>
    simp only [toPyM] at e
    split at e
    · rename_i xs e1
      obtain ⟨o, q1, q2⟩ := R.has n a _ h1 e1
      cases q2 with
      | lst q2 =>
        cases r
        obtain ⟨its, rv, ⟨o, n, ho, hc, _, hd⟩, _⟩ := I.list (SqL.of q1)
        simp only [Option.map_eq_some_iff] at e
        obtain ⟨ps, e, rfl⟩ := e
        obtain ⟨as, hr, hn⟩ := Rps.reads I hK R.sub xs q2 rv e
        exact ⟨_, .list ho hc hd hr, fun z => by simp [noList] at z⟩
    · cases e
  | non => exact Rp.reads (ι := ι) I hK R.sub _ .non r e
  | bl b => exact Rp.reads (ι := ι) I hK R.sub _ (.bl b) r e
  | int i => exact Rp.reads (ι := ι) I hK R.sub _ (.int i) r e
  | str x => exact Rp.reads (ι := ι) I hK R.sub _ (.str x) r e
  | tup h1 h2 => exact Rp.reads I hK R.sub _ (.tup h1 h2) r e
  | lst h1 h2 => exact Rp.reads I hK R.sub _ (.lst h1 h2) r e
  | ro h1 h2 => exact Rp.reads I hK R.sub _ (.ro h1 h2) r e
  | dic h1 h2 h3 => exact Rp.reads I hK R.sub _ (.dic h1 h2 h3) r e
  | obj h0 h1 h2 h3 => exact Rp.reads I hK R.sub _ (.obj h0 h1 h2 h3) r e
end

/-! ### a dict is no text -/
section
open SeqAt MeetsSeq
theorem dict_no_text (l : Addr) (es : Array DictEntry) (n : Nat) (dd : Option Addr) (sl : Array (Option Value)) (b : Str) (u : Tok) :
    Meets (Builtin.«dict.__eq__» ⟨[.ref l, .str b u], []⟩) (fun _ R s => s.heap.get? l = some ⟨.type "dict", dd, .dict es n, sl⟩ ∧ R (.ok (.ret .notImplemented)) s) :=
  .of_wp fun prog w A R s h => by
    obtain ⟨hp, g, d, tk, os⟩ := s
    obtain ⟨hl, h⟩ := h
    have f1 := PySem.F.sub_str_dict
    wp_walk using AutoSeq1.wpAny_loadPart' hl, wpAny_load hl
    all_goals first | exact ⟨_, rfl, h⟩ | exact h
theorem text_no_dict (b : Str) (u : Tok) (l : Addr) (es : Array DictEntry) (n : Nat) (dd : Option Addr) (sl : Array (Option Value)) :
    Meets (Builtin.«str.__eq__» ⟨[.str b u, .ref l], []⟩) (fun _ R s => s.heap.get? l = some ⟨.type "dict", dd, .dict es n, sl⟩ ∧ R (.ok (.ret .notImplemented)) s) :=
  .of_wp fun prog w A R s h => by
    obtain ⟨hp, g, d, tk, os⟩ := s
    obtain ⟨hl, h⟩ := h
    wp_walk using AutoSeq1.wpAny_loadPart' hl, wpAny_load hl
    all_goals first | exact ⟨_, rfl, h⟩ | exact h
end
end Dv
end L2
namespace L2
namespace Dv
open PySem PySem.Spec PyProof.Rows
section
open SeqAt MeetsSeq
variable {A : Around} {s : Shared}
theorem rc_dict_text {l : Addr} {o : Obj} {es : Array DictEntry} {n : Nat} (ho : s.heap.get? l = some o) (hc : o.cls = .type "dict") (hd : o.data = .dict es n) (b : Str) (u : Tok) (hu : A.units < cLine) : RcAt A s (.ref l) (.str b u) false := fun prog w E Q h => by
  obtain ⟨c, dd, dt, sl⟩ := o
  cases hc; cases hd
  refine rc_eq_decline_or (k := false) (Ta := "dict") (Tb := "str") ⟨_, ho, rfl⟩ (typeIs_str s b u) (by decide) PySem.F.sub_str_dict PySem.F.slot_dict_eq PySem.F.slot_str_eq_refl ?_ ?_ ?_ (.inr hu) h
  · exact fun _ hq => call_meets PySem.F.slot_dict_eq ⟨_, ho, rfl⟩ PySem.F.entry_dict_eq (PySem.F.args_dict_eq_2 _ _) (dict_no_text l es n dd sl b u) ⟨ho, hq⟩
  · exact fun _ hq => call_meets PySem.F.slot_str_eq_refl (typeIs_str s b u) PySem.F.entry_str_eq (PySem.F.args_str_eq_2 _ _) (text_no_dict b u l es n dd sl) ⟨ho, hq⟩
  · exact fun _ hq => wpAny_of_eq (show isSame (.ref l) (.str b u) = pure false from rfl) hq
end

section
variable {X : Cx} {W : Wd}
theorem ne_reads {prog : Program} {w : World} {A : Around} {E : Value → Shared → Prop} {s : Shared} {a b : Value} {da db : PyData} {as bs : List Addr} {Q : Value → Shared → Prop}
    (ra : Reads s.heap a da as) (rb : Reads s.heap b db bs) (ha : da.canLay0 = true) (hb : db.canLay0 = true) (hu : A.units + min da.depth db.depth < cLine) (h : Q (.bool (!PyData.eqv da db)) s) :
    wpAny (model prog w) A (compareOp .NotEq a b) Q E s := SeqAt.neOverData prog w A E s a b da db as bs Q ra rb ha hb hu h
/-- == and != by values -/
def rEqW (W : Wd) (k : Bool) : R2 := fun x y H Q => ∃ M F ι a b c, Rel W M F H ι ∧ Rp W F ι x a ∧ Rp W F ι y b ∧ eqD M a b = some c ∧ Q (.bl (if k then c else !c)) H
theorem op_eqW (hK : X.K = W.K) (hu : X.A.units + 64 < cLine) : OpR X (compareOp .Eq) (rEqW W true) := by
  intro pins s σ H x y v u Q I rx ry h
  obtain ⟨M, F, ι, a, b, c, R, ra, rb, e, q⟩ := h
  simp only [eqD] at e
  split at e
  · cases ra
    cases rb
    cases e
    refine op_eq pins s σ H _ _ v u Q I rx ry ⟨rfl, ?_⟩
    rename_i x y
    have e1 : decide (V.str x = V.str y) = decide (x = y) := by simp
    rw [e1]
    exact q
  split at e
  · rename_i p1 p2 e1 e2
    obtain ⟨as, r1, _⟩ := readsM I hK R ra rx e1
    obtain ⟨bs, r2, _⟩ := readsM I hK R rb ry e2
    split at e
    · rename_i hc
      simp only [Bool.and_eq_true, decide_eq_true_eq] at hc
      cases e
      exact SeqAt.compareEq_reads r1 r2 hc.1.1 hc.1.2 (by omega) ⟨.bl _, H, I, rfl, q⟩
    · split at e
      · cases e
        cases r1 with
        | dict h1 h2 h3 _ _ =>
          cases r2 with
          | str _ t => exact rc_dict_text h1 h2 h3 _ t (by omega) _ _ _ _ ⟨.bl false, H, I, rfl, q⟩
      · cases e
  · cases e
theorem op_neW (hK : X.K = W.K) (hu : X.A.units + 64 < cLine) : OpR X (compareOp .NotEq) (fun x y H Q => ∃ M F ι a b c, Rel W M F H ι ∧ Rp W F ι x a ∧ Rp W F ι y b ∧ neD M a b = some c ∧ Q (.bl c) H) := by
  intro pins s σ H x y v u Q I rx ry h
  obtain ⟨M, F, ι, a, b, c, R, ra, rb, e, q⟩ := h
  simp only [neD] at e
  split at e
  · cases ra
    cases rb
    cases e
    refine op_ne pins s σ H _ _ v u Q I rx ry ⟨rfl, ?_⟩
    rename_i x y
    have e1 : decide (V.str x = V.str y) = decide (x = y) := by simp
    rw [e1]
    exact q
  split at e
  · rename_i p1 p2 e1 e2
    obtain ⟨as, r1, _⟩ := readsM I hK R ra rx e1
    obtain ⟨bs, r2, _⟩ := readsM I hK R rb ry e2
    split at e
    · rename_i hc
      simp only [Bool.and_eq_true, decide_eq_true_eq] at hc
      cases e
      exact ne_reads r1 r2 hc.1.1 hc.1.2 (by omega) ⟨.bl _, H, I, rfl, q⟩
    · cases e
  · cases e

/-! ### in -/
theorem flat_v {F : Hp} {ι : List Addr} {v : V} {d : D} (r : Rp W F ι v d) (h : flatD d = true) : flatV v = true ∧ toV d = some v := by
  cases r <;> first | exact ⟨rfl, rfl⟩ | (simp [flatD] at h)
theorem flats_v {F : Hp} {ι : List Addr} : ∀ {vs : List V} {ds : List D}, Rps W F ι vs ds → ds.all flatD = true → vs.all flatV = true ∧ toVs ds = some vs
  | _, _, .nil, _ => ⟨rfl, rfl⟩
  | _, _, .cons r t, h => by
    simp only [List.all_cons, Bool.and_eq_true] at h
    obtain ⟨h1, h2⟩ := flat_v r h.1
    obtain ⟨h3, h4⟩ := flats_v t h.2
    exact ⟨by simp [h1, h3], by simp [toVs, h2, h4]⟩

def rC (W : Wd) (op : CmpOp) : R2 := fun x y H Q => ∃ M F ι a b c, Rel W M F H ι ∧ Rp W F ι x a ∧ Rp W F ι y b ∧ cmpD M op a b = some c ∧ Q (.bl c) H
theorem op_cmp (hK : X.K = W.K) (hu : X.A.units + 64 < cLine) (op : CmpOp) : OpR X (compareOp op) (rC W op) := by
  intro pins s σ H x y v u Q I rx ry h
  obtain ⟨M, F, ι, a, b, c, R, ra, rb, e, q⟩ := h
  simp only [cmpD] at e
  split at e
  · exact op_eqW hK hu pins s σ H x y v u Q I rx ry ⟨M, F, ι, _, _, _, R, ra, rb, e, q⟩
  · exact op_neW hK hu pins s σ H x y v u Q I rx ry ⟨M, F, ι, _, _, _, R, ra, rb, e, q⟩
  · cases e; cases ra; cases rb; exact op_lt pins s σ H _ _ v u Q I rx ry ⟨_, _, rfl, rfl, q⟩
  · cases e; cases ra; cases rb; exact op_le pins s σ H _ _ v u Q I rx ry ⟨_, _, rfl, rfl, q⟩
  · cases e; cases ra; cases rb; exact op_gt pins s σ H _ _ v u Q I rx ry ⟨_, _, rfl, rfl, q⟩
  · cases e; cases ra; cases rb; exact op_ge pins s σ H _ _ v u Q I rx ry ⟨_, _, rfl, rfl, q⟩
  · cases e; cases ra; cases rb; exact op_lt_str pins s σ H _ _ v u Q I rx ry ⟨_, _, rfl, rfl, q⟩
  · cases e; cases ra; cases rb; exact op_gt_str pins s σ H _ _ v u Q I rx ry ⟨_, _, rfl, rfl, q⟩
  · cases rb
    refine op_isN pins s σ H _ _ v u Q I rx ry ⟨rfl, ?_⟩
    split at e
    · cases e; cases ra; exact q
    · rename_i hne
      cases e
      rw [decide_eq_false (fun z => ?_)]
      · exact q
      · subst z; cases ra; exact hne rfl
  · cases rb
    refine op_notN pins s σ H _ _ v u Q I rx ry ⟨rfl, ?_⟩
    split at e
    · cases e; cases ra; exact q
    · rename_i hne
      cases e
      rw [decide_eq_false (fun z => ?_)]
      · exact q
      · subst z; cases ra; exact hne rfl
  · cases e; cases ra; cases rb; exact op_isBl pins s σ H _ _ v u Q I rx ry ⟨_, _, rfl, rfl, q⟩
  · cases e; cases ra; cases rb; exact op_notBl pins s σ H _ _ v u Q I rx ry ⟨_, _, rfl, rfl, q⟩
  · cases e; cases ra; cases rb; exact op_in_str pins s σ H _ _ v u Q I rx ry ⟨_, _, rfl, rfl, q⟩
  · cases e; cases ra; cases rb; exact op_notin_str pins s σ H _ _ v u Q I rx ry ⟨_, _, rfl, rfl, q⟩
  · split at e
    · rename_i ds e1
      split at e
      · rename_i hc
        simp only [Bool.and_eq_true] at hc
        obtain ⟨p, vs, rfl, hs, rs⟩ := seq_at R rb e1
        obtain ⟨h1, h2⟩ := flat_v ra hc.1
        obtain ⟨h3, h4⟩ := flats_v rs hc.2
        refine op_in_seq pins s σ H _ _ v u Q I rx ry ⟨p, vs, rfl, by rw [hK]; exact hs, h1, h3, ?_⟩
        simp only [h2, h4] at e
        cases e
        exact q
      · cases e
    · cases e
  · split at e
    · rename_i ds e1
      split at e
      · rename_i hc
        simp only [Bool.and_eq_true] at hc
        obtain ⟨p, vs, rfl, hs, rs⟩ := seq_at R rb e1
        obtain ⟨h1, h2⟩ := flat_v ra hc.1
        obtain ⟨h3, h4⟩ := flats_v rs hc.2
        refine op_notIn_seq pins s σ H _ _ v u Q I rx ry ⟨p, vs, rfl, by rw [hK]; exact hs, h1, h3, ?_⟩
        simp only [h2, h4] at e
        cases e
        exact q
      · cases e
    · cases e
  · cases e
end
end Dv
end L2
namespace L2
namespace Dv
open PySem PySem.Spec PyProof.Rows
section
variable {X : Cx} {W : Wd} {pins : List (Addr × Obj)} {σ : L2.St} {H F : Hp} {s : Shared} {ι : List Addr} {M : Mem}

/-! ### truth -/
theorem tru_v (hK : X.K = W.K) (R : Rel W M F H ι) {v : V} {d : D} {b : Bool} (r : Rp W F ι v d) (e : truD M d = some b) : TruV X.K v H b := by
  have em : ∀ {vs : List V} {ds : List D}, Rps W F ι vs ds → ds.isEmpty = vs.isEmpty := fun q => by cases q <;> rfl
  cases r with
  | non =>
    simp only [truD] at e
    cases e
    exact (show false = false from rfl)
  | bl x =>
    simp only [truD] at e
    cases e
    exact (show b = b from rfl)
  | int i =>
    simp only [truD] at e
    cases e
    exact (show (i != 0) = (i != 0) from rfl)
  | str x =>
    simp only [truD] at e
    split at e
    · rename_i hc
      cases e
      refine ⟨hc, ?_⟩
      by_cases h0 : x.length = 0
      · simp [h0]
      · simp only [bne, beq_iff_eq, h0, Int.natCast_eq_zero, Bool.not_eq_true']
        have h1 : (x.length == 0) = false := by simpa using h0
        have h2 : (((x.length : Nat) : Int) == 0) = false := by simpa using h0
        rw [h1, h2]
    · cases e
  | tup h1 h2 =>
    simp only [truD] at e
    cases e
    exact .inr (.inl ⟨_, by rw [hK]; exact Same.seqT R.sub h1, by rw [em h2]⟩)
  | lst h1 h2 =>
    simp only [truD] at e
    cases e
    exact .inl ⟨_, SqL.of (R.sub _ _ h1), by rw [em h2]⟩
  | ro h1 h2 =>
    simp only [truD] at e
    cases e
    exact .inl ⟨_, by rw [hK]; exact R.sub.seq h1, by rw [em h2]⟩
  | dic h1 h2 h3 =>
    simp only [truD] at e
    cases e
    refine .inr (.inr ⟨_, R.sub _ _ h1, ?_⟩)
    rw [em h2, List.isEmpty_map]
  | obj h0 h1 h2 h3 => simp [truD] at e
  | @loc n a h1 =>
    simp only [truD] at e
    split at e
    · rename_i xs e1
      cases e
      obtain ⟨o, q1, q2⟩ := R.has n a _ h1 e1
      cases q2 with
      | lst q2 => exact .inl ⟨_, SqL.of q1, by rw [em q2]⟩
    · rename_i ks vs e1
      cases e
      obtain ⟨o, q1, q2⟩ := R.has n a _ h1 e1
      cases q2 with
      | dic q2 q3 =>
        refine .inr (.inr ⟨_, q1, ?_⟩)
        rw [em q2, List.isEmpty_map]
    · cases e

/-! ### what isinstance sees -/
theorem ty_x (hK : X.K = W.K) (R : Rel W M F H ι) {v : V} {d : D} {t : String} (r : Rp W F ι v d) (e : tyName d = some t) : TyX X.K H v (.type t) := by
  cases r with
  | non => cases e; exact .base .non
  | bl x => cases e; exact .base (.bl x)
  | int i => cases e; exact .base (.int i)
  | str x => cases e; exact .base (.str x)
  | tup h1 h2 =>
    cases e
    rcases Same.seqT R.sub h1 with (q | ⟨o, q⟩) | ⟨o, its, n, q, c, _⟩
    · exact .base (.tup q)
    · exact .fTuple q
    · exact .kTuple (by rw [hK]; exact q) c
  | lst h1 h2 => cases e; exact .base (.lst (R.sub _ _ h1))
  | ro h1 h2 =>
    cases e
    rcases R.sub.seq h1 with (q | ⟨o, q⟩) | ⟨o, its, n, q, c, _⟩
    · exact .base (.lst q)
    · exact .base (.frz q)
    · exact .kList (by rw [hK]; exact q) c
  | dic h1 h2 h3 => cases e; exact .base (.dK (R.sub _ _ h1))
  | obj h0 h1 h2 h3 => simp [tyName] at e
  | loc h1 => simp [tyName] at e

/-! ### items -/
theorem at_v {vs : List V} {ds : List D} {i : Int} {d : D} (r : Rps W F ι vs ds) (h : atI ds i = some d) : ∃ v, atI vs i = some v ∧ Rp W F ι v d := by
  unfold atI at h ⊢
  rw [r.length]
  cases e : ixN ds.length i with
  | none => rw [e] at h; cases h
  | some j =>
    rw [e] at h
    exact r.get (show ds[j]? = some d from h)
def rSub (W : Wd) : R2 := fun x y H Q => ∃ M F ι a b, Rel W M F H ι ∧ Rp W F ι x a ∧ Rp W F ι y b ∧ Pok W Q (subD M a b) M F H ι
theorem ix_sub (hK : X.K = W.K) : IxR X (rSub W) := by
  intro value slice pins s σ H x y v u Q I rx ry h hs
  obtain ⟨M, F, ι, a, b, R, ra, rb, p⟩ := h
  simp only [subD] at p
  split at p
  · split at p
    · rename_i hc
      cases ra; cases rb
      cases e : atI (_ : Str).cps.toList _ with
      | none => rw [e] at p; exact p.elim
      | some c =>
        rw [e] at p
        exact ix_str value slice pins s σ H _ _ v u Q I rx ry ⟨_, _, c, rfl, rfl, hc, e, p.now R (.str _)⟩ hs
    · exact p.elim
  · cases rb
    cases e1 : seqD M a with
    | none => rw [e1] at p; exact p.elim
    | some ds =>
      rw [e1] at p
      obtain ⟨q, vs, rfl, hq, rs⟩ := seq_at R ra e1
      rename_i k _
      simp only [Option.bind_some] at p
      cases e2 : atI ds k with
      | none => rw [e2] at p; exact p.elim
      | some d =>
        rw [e2] at p
        obtain ⟨w, h1, h2⟩ := at_v rs e2
        have z := p.now R h2
        rcases hq with hq | hq
        · exact ix_list value slice pins s σ H _ _ v u Q I rx ry ⟨q, vs, _, w, rfl, rfl, by rw [hK]; exact hq, h1, z⟩ hs
        · exact ix_tup value slice pins s σ H _ _ v u Q I rx ry ⟨q, vs, _, w, rfl, rfl, by rw [hK]; exact hq, h1, z⟩ hs
  · exact p.elim

/-! ### slices -/
theorem cut_v (vs : List V) (lo hi : Option Int) : cutV vs lo hi = cutL vs lo hi := rfl
theorem Rps.cut {vs : List V} {ds : List D} (r : Rps W F ι vs ds) (lo hi : Option Int) : Rps W F ι (cutL vs lo hi) (cutL ds lo hi) := by
  unfold cutL
  rw [r.length]
  exact (r.drop _).take _
def rSlc (W : Wd) : V → Option Int → Option Int → Hp → VK → Prop := fun x lo hi H Q => ∃ M F ι a, Rel W M F H ι ∧ Rp W F ι x a ∧ Pok W Q (slcD M a lo hi) M F H ι
theorem sl_slc (hK : X.K = W.K) : SlR X (rSlc W) := by
  intro pins s σ H x v vl vu lo hi sl Q I rx hs pl pu h
  obtain ⟨M, F, ι, a, R, ra, p⟩ := h
  simp only [slcD] at p
  split at p
  · cases ra with
    | tup h1 h2 =>
      rename_i ds a vs
      refine sl_tupA pins s σ H _ v vl vu lo hi sl Q I rx hs pl pu ⟨a, vs, rfl, by rw [hK]; exact Same.seqT R.sub h1, fun e => ?_, fun _ => ?_⟩
      · refine p.now R (.tup h1 ?_)
        have e2 : cutL ds lo hi = ds := by
          unfold cutL
          rw [← h2.length, e.1, e.2, Nat.sub_zero, List.drop_zero, h2.length, List.take_length]
        rw [e2]
        exact h2
      · rw [cut_v]
        exact p.newT R (h2.cut lo hi)
  · split at p
    · rename_i hc
      cases ra
      exact sl_str pins s σ H _ v vl vu lo hi sl Q I rx hs pl pu ⟨_, rfl, hc, p.now R (.str _)⟩
    · exact p.elim
  · cases e1 : lstD M a with
    | none => rw [e1] at p; exact p.elim
    | some ds =>
      rw [e1] at p
      obtain ⟨q, vs, rfl, hq, rs⟩ := lst_at R ra e1
      refine sl_list pins s σ H _ v vl vu lo hi sl Q I rx hs pl pu ⟨q, vs, rfl, SqL.of hq, ?_⟩
      rw [cut_v]
      exact p.newL R (rs.cut lo hi)
end
end Dv
end L2
namespace L2
namespace Dv
open PySem PySem.Spec PyProof.Rows

def Bi.val : Bi → Value
  | .len => .builtin "len" | .int => .type "int" | .abs => .builtin "abs" | .max => .builtin "max" | .min => .builtin "min" | .all => .builtin "all" | .any => .builtin "any" | .sorted => .builtin "sorted"
  | .list => .type "list" | .listM => .type "list" | .tuple => .type "tuple" | .str => .type "str" | .repr => .builtin "repr" | .bool => .type "bool" | .sum => .builtin "sum" | .set => .type "set" | .dict => .type "dict"
theorem bi_boot : ∀ b : Bi, bootBuiltins (Str.ofString b.nm) = some b.val
  | .len => by decide +kernel
  | .int => by decide +kernel
  | .abs => by decide +kernel
  | .max => by decide +kernel
  | .min => by decide +kernel
  | .all => by decide +kernel
  | .any => by decide +kernel
  | .sorted => by decide +kernel
  | .list => by decide +kernel
  | .listM => by decide +kernel
  | .tuple => by decide +kernel
  | .str => by decide +kernel
  | .repr => by decide +kernel
  | .bool => by decide +kernel
  | .sum => by decide +kernel
  | .set => by decide +kernel
  | .dict => by decide +kernel

section
variable {X : Cx} {W : Wd} {pins : List (Addr × Obj)} {σ : L2.St} {H F : Hp} {s : Shared} {ι : List Addr} {M : Mem}
theorem rps1 {vs : List V} {d : D} (r : Rps W F ι vs [d]) : ∃ v, vs = [v] ∧ Rp W F ι v d := by
  cases r with
  | cons h t => cases t; exact ⟨_, rfl, h⟩
theorem rps2 {vs : List V} {d e : D} (r : Rps W F ι vs [d, e]) : ∃ v u, vs = [v, u] ∧ Rp W F ι v d ∧ Rp W F ι u e := by
  cases r with
  | cons h t =>
    cases t with
    | cons h2 t => cases t; exact ⟨_, _, rfl, h, h2⟩
theorem bls_v : ∀ {vs : List V} {ds : List D} {bs : List Bool}, Rps W F ι vs ds → blsOf ds = some bs → vs = bs.map V.bl
  | _, [], _, .nil, e => by cases e; rfl
  | _, d :: ds, bs, .cons r t, e => by
    cases d with
    | bl b =>
      simp only [blsOf, Option.map_eq_some_iff] at e
      obtain ⟨l, e, rfl⟩ := e
      cases r
      rw [bls_v t e]
      rfl
    | _ => simp [blsOf] at e
theorem strs_v : ∀ {vs : List V} {ds : List D} {bs : List Str}, Rps W F ι vs ds → strsOf ds = some bs → vs = bs.map V.str
  | _, [], _, .nil, e => by cases e; rfl
  | _, d :: ds, bs, .cons r t, e => by
    cases d with
    | str b =>
      simp only [strsOf, Option.map_eq_some_iff] at e
      obtain ⟨l, e, rfl⟩ := e
      cases r
      rw [strs_v t e]
      rfl
    | _ => simp [strsOf] at e
/-- a list made: frozen, or in a new place -/
theorem mkL_end {Wx : WXH} {Q : VK} {fz : Bool} {ds : List D} {vs : List V} (R : Rel W M F H ι) (r : Rps W F ι vs ds) (p : Pst W Wx (Rp W) Q (mkL fz ds M) M F H ι) : vs.length ≤ sizeLine ∧ ∀ q, H q = none → Q (.ref q) (upd H q (.lst vs)) := by
  unfold mkL at p
  split at p
  · rename_i hc
    refine ⟨by rw [r.length]; exact hc, fun q hq => ?_⟩
    split at p
    · exact p _ _ _ ι (R.frozen hq) (Grow.frozen R hq) (.lst upd_same (r.mono (same_upd (R.Fn hq)) (Ext.refl _)))
    · exact p _ _ _ _ (R.newloc hq (.lst r)) (Grow.newloc R hq) (.loc (by rw [← R.len, List.getElem?_append_right (Nat.le_refl _), Nat.sub_self]; rfl))
  · exact p.elim
theorem repr_w (hK : X.K = W.K) (hg : X.A.guards = some []) (hu : X.A.units + 64 < cLine) (I : Inv X pins σ H s) (R : Rel W M F H ι) {v : V} {u : Value} {d : D} {x : Str} {Q : VK} (r : Rp W F ι v d) (rv : RelV v u) (e : reprD M d = some x) (q : Q (.str x) H) :
    wpAny (model X.prog X.w) X.A (call (.builtin "repr") [u]) (EP X pins σ Q) X.xe s := by
  simp only [reprD] at e
  split at e
  · rename_i p e1
    split at e
    · rename_i hc
      simp only [Bool.and_eq_true, decide_eq_true_eq, Bool.or_eq_true, Bool.not_eq_true'] at hc
      obtain ⟨⟨⟨h1, h2⟩, h3⟩, h4⟩ := hc
      cases e
      obtain ⟨as, rd, hn⟩ := readsM I hK R r rv e1
      have hd : p.hasDict = true → sysModules ∉ as := fun z hm => by
        rcases h4 with h4 | h4
        · rw [h4] at z; cases z
        · exact hn h4 _ hm rfl
      have fin : ∀ (h' : Heap) (u : Tok) (tk : Nat), (∀ b o, s.heap.get? b = some o → h'.get? b = some o) → EP X pins σ Q (.str p.shown u) { s with heap := h', toks := tk } := fun h' u tk k => ⟨.str p.shown, H, I.kept k, ⟨_, rfl⟩, q⟩
      cases rd with
      | none => exact P.repr_of_none (fin s.heap _ _ fun _ _ z => z)
      | bool b => exact P.repr_of_bool (fin s.heap _ _ fun _ _ z => z)
      | int i t =>
        have h1' : i.natAbs.log2 < 1920 := by simpa [PyData.showable] using h1
        exact P.repr_of_int h1' (fin s.heap _ _ fun _ _ z => z)
      | str y t => exact P.repr_of_str (fin s.heap _ _ fun _ _ z => z) h2
      | list a1 a2 a3 a4 => exact repr_of_reads' (.list a1 a2 a3 a4) h1 hd hg (by omega) (fun _ _ z => z) fin h2
      | tuple a1 a2 a3 a4 => exact repr_of_reads' (.tuple a1 a2 a3 a4) h1 hd hg (by omega) (fun _ _ z => z) fin h2
      | dict a1 a2 a3 a4 a5 => exact repr_of_reads' (.dict a1 a2 a3 a4 a5) h1 hd hg (by omega) (fun _ _ z => z) fin h2
    · cases e
  · cases e
def rBlt (W : Wd) (b : Bi) : List V → Hp → VK → Prop := fun vs H Q => ∃ Wx M F ι ds, Rel W M F H ι ∧ Rps W F ι vs ds ∧ Pst W Wx (Rp W) Q (bltD b ds M) M F H ι
theorem call_blt (hK : X.K = W.K) (hc : X.calm = true) (hg : X.A.guards = some []) (hu : X.A.units + 64 < cLine) (b : Bi) : CallR X b.val (rBlt W b) := by
  intro pins s σ H vs us Q I r h
  obtain ⟨Wx, M, F, ι, ds, R, rs, p⟩ := h
  simp only [bltD] at p
  split at p
  · obtain ⟨v, rfl, r1⟩ := rps1 rs
    rename_i d
    cases e : lenD M d with
    | none => rw [e] at p; exact p.elim
    | some n =>
      rw [e] at p
      have q : Q (.int n) H := Pok.now (Pok.of p) R (.int n)
      cases r1 with
      | str x =>
        simp only [lenD] at e
        split at e
        · rename_i hl
          cases e
          exact call_len_str pins s σ H _ us Q I r ⟨_, rfl, hl, q⟩
        · cases e
      | tup h1 h2 =>
        simp only [lenD] at e
        cases e
        exact call_len_seq pins s σ H _ us Q I r ⟨_, _, rfl, .inr (by rw [hK]; exact Same.seqT R.sub h1), by rw [h2.length]; exact q⟩
      | lst h1 h2 =>
        simp only [lenD] at e
        cases e
        exact call_len_seq pins s σ H _ us Q I r ⟨_, _, rfl, .inl (SqL.of (R.sub _ _ h1)), by rw [h2.length]; exact q⟩
      | ro h1 h2 =>
        simp only [lenD] at e
        cases e
        exact call_len_seq pins s σ H _ us Q I r ⟨_, _, rfl, .inl (by rw [hK]; exact R.sub.seq h1), by rw [h2.length]; exact q⟩
      | @loc k a h1 =>
        simp only [lenD] at e
        split at e
        · rename_i xs e1
          cases e
          obtain ⟨o, q1, q2⟩ := R.has _ _ _ h1 e1
          cases q2 with
          | lst q2 => exact call_len_seq pins s σ H _ us Q I r ⟨_, _, rfl, .inl (SqL.of q1), by rw [q2.length]; exact q⟩
        · cases e
      | _ => simp [lenD] at e
  · obtain ⟨v, rfl, r1⟩ := rps1 rs
    cases r1
    exact call_int1 pins s σ H _ us Q I r (.inl ⟨_, rfl, p _ _ _ ι R Grow.refl (.int _)⟩)
  · obtain ⟨v, rfl, r1⟩ := rps1 rs
    cases r1
    exact call_int1 pins s σ H _ us Q I r (.inr ⟨_, rfl, p _ _ _ ι R Grow.refl (.int _)⟩)
  · obtain ⟨v, rfl, r1⟩ := rps1 rs
    cases r1
    exact call_abs pins s σ H _ us Q I r ⟨_, rfl, p _ _ _ ι R Grow.refl (.int _)⟩
  · obtain ⟨v, u, rfl, r1, r2⟩ := rps2 rs
    cases r1; cases r2
    exact call_max2 hc pins s σ H _ us Q I r ⟨_, _, rfl, p _ _ _ ι R Grow.refl (.int _)⟩
  · obtain ⟨v, u, rfl, r1, r2⟩ := rps2 rs
    cases r1; cases r2
    exact call_min2 hc pins s σ H _ us Q I r ⟨_, _, rfl, p _ _ _ ι R Grow.refl (.int _)⟩
  · obtain ⟨v, rfl, r1⟩ := rps1 rs
    rename_i d
    cases e : lstD M d with
    | none => rw [e] at p; exact p.elim
    | some xs =>
      cases e2 : blsOf xs with
      | none => rw [e, Option.bind_some, e2] at p; exact p.elim
      | some bs =>
        rw [e, Option.bind_some, e2] at p
        obtain ⟨a, ws, rfl, ha, rw'⟩ := lst_at R r1 e
        have e3 := bls_v rw' e2
        subst e3
        exact cr_all hc pins s σ H _ us Q I r ⟨a, bs, rfl, SqL.of ha, Pok.now (Pok.of p) R (.bl _)⟩
  · obtain ⟨v, rfl, r1⟩ := rps1 rs
    split at p
    · rename_i xs e
      obtain ⟨a, ws, rfl, ha, rw'⟩ := seq_at R r1 e
      obtain ⟨hl, z⟩ := mkL_end R rw' p
      exact call_list_of pins s σ H _ us Q I r ⟨a, ws, rfl, by rw [hK]; exact ha, z⟩
    · exact p.elim
  · obtain ⟨v, rfl, r1⟩ := rps1 rs
    split at p
    · rename_i xs e
      obtain ⟨a, ws, rfl, ha, rw'⟩ := seq_at R r1 e
      obtain ⟨hl, z⟩ := mkL_end R rw' p
      exact call_list_of pins s σ H _ us Q I r ⟨a, ws, rfl, by rw [hK]; exact ha, z⟩
    · exact p.elim
  · obtain ⟨v, rfl, r1⟩ := rps1 rs
    cases r1 with
    | tup h1 h2 =>
      exact call_tuple_of pins s σ H _ us Q I r ⟨_, _, rfl, .inr ⟨by rw [hK]; exact Same.seqT R.sub h1, p _ _ _ ι R Grow.refl (.tup h1 h2)⟩⟩
  · obtain ⟨v, rfl, r1⟩ := rps1 rs
    rename_i d _
    cases e : lstD M d with
    | none => rw [e] at p; exact p.elim
    | some xs =>
      rw [e] at p
      obtain ⟨a, ws, rfl, ha, rw'⟩ := lst_at R r1 e
      exact call_tuple_of pins s σ H _ us Q I r ⟨a, ws, rfl, .inl ⟨SqL.of ha, (Pok.of p).newT R rw'⟩⟩
  · obtain ⟨v, rfl, r1⟩ := rps1 rs
    rename_i d
    obtain ⟨u, rfl, ru⟩ := vals1 r
    cases e : reprD M d with
    | none => rw [e] at p; exact p.elim
    | some x =>
      rw [e] at p
      exact repr_w hK hg hu I R r1 ru e (Pok.now (Pok.of p) R (.str x))
  · exact p.elim

/-! ### methods -/
def rMth (W : Wd) (m : Me) : V → List V → Hp → VK → Prop := fun x vs H Q => ∃ Wx M F ι d ds, Rel W M F H ι ∧ Rp W F ι x d ∧ Rps W F ι vs ds ∧ Pst W Wx (Rp W) Q (mthD m d ds M) M F H ι
theorem rps0 {vs : List V} (r : Rps W F ι vs []) : vs = [] := by cases r; rfl
/-- the place's list -/
theorem loc_lst {n : Nat} {xs : List D} {v : V} (R : Rel W M F H ι) (r : Rp W F ι v (.loc n)) (e : M[n]? = some (some (.lst xs))) : ∃ a vs, v = .ref a ∧ ι[n]? = some a ∧ H a = some (.lst vs) ∧ Rps W F ι vs xs := by
  cases r with
  | loc h1 =>
    obtain ⟨o, q1, q2⟩ := R.has _ _ _ h1 e
    cases q2 with
    | lst q2 => exact ⟨_, _, rfl, h1, q1, q2⟩
theorem mt_app : MtM X "list.append" (rMth W .append) := by
  intro pins s σ H x vs v us Q I rx rv h
  obtain ⟨Wx, M, F, ι, d, ds, R, rd, rs, p⟩ := h
  simp only [mthD] at p
  split at p
  · rename_i n y
    split at p
    · rename_i xs e
      split at p
      · rename_i hc
        obtain ⟨w, rfl, rw'⟩ := rps1 rs
        obtain ⟨a, ws, rfl, hi, ha, rws⟩ := loc_lst R rd e
        refine mt_append pins s σ H _ _ v us Q I rx rv ⟨a, ws, w, rfl, rfl, ha, by rw [rws.length]; exact hc, ?_⟩
        exact p _ _ _ ι (R.setloc hi e (.lst (rws.append (.cons rw' .nil)))) (Grow.setloc R hi e) .non
      · exact p.elim
    · exact p.elim
  all_goals first | exact p.elim | (rename_i h1; cases h1; done) | skip
theorem ixN_lt {n : Nat} {i : Int} {j : Nat} (h : ixN n i = some j) : seqIndex? i n = some j := (ixN_seq h).1
theorem mt_pops : MtM X "list.pop" (rMth W .pop) := by
  intro pins s σ H x vs v us Q I rx rv h
  obtain ⟨Wx, M, F, ι, d, ds, R, rd, rs, p⟩ := h
  simp only [mthD] at p
  split at p
  · rename_i h1; cases h1
  · rename_i n _
    split at p
    · rename_i xs e
      split at p
      · rename_i y ey
        cases rps0 rs
        obtain ⟨a, ws, rfl, hi, ha, rws⟩ := loc_lst R rd e
        rw [List.getLast?_eq_getElem?] at ey
        obtain ⟨z, hz, rz⟩ := rws.get ey
        rw [← rws.length] at hz
        refine mt_pop pins s σ H _ _ v us Q I rx rv ⟨a, ws, z, rfl, rfl, ha, hz, ?_⟩
        refine p _ _ _ ι (R.setloc hi e (.lst ?_)) (Grow.setloc R hi e) rz
        rw [List.dropLast_eq_take, List.dropLast_eq_take, rws.length]
        exact rws.take _
      · exact p.elim
    · exact p.elim
  · rename_i n i _
    split at p
    · rename_i xs e
      split at p
      · rename_i j ej
        split at p
        · rename_i y ey
          split at p
          · rename_i hc
            obtain ⟨w, rfl, rw'⟩ := rps1 rs
            cases rw'
            obtain ⟨a, ws, rfl, hi, ha, rws⟩ := loc_lst R rd e
            obtain ⟨z, hz, rz⟩ := rws.get ey
            refine mt_popAt pins s σ H _ _ v us Q I rx rv ⟨a, ws, i, j, z, rfl, rfl, ha, hc.1, hc.2, by rw [rws.length]; exact ixN_lt ej, hz, ?_⟩
            exact p _ _ _ ι (R.setloc hi e (.lst (rws.eraseIdx j))) (Grow.setloc R hi e) rz
          · exact p.elim
        · exact p.elim
      · exact p.elim
    · exact p.elim
  all_goals first | exact p.elim | (rename_i h1; cases h1; done) | skip
theorem mt_joinW (hK : X.K = W.K) : MtR X "str.join" (rMth W .join) := by
  intro pins s σ H x vs v us Q I rx rv h
  obtain ⟨Wx, M, F, ι, d, ds, R, rd, rs, p⟩ := h
  simp only [mthD] at p
  split at p
  · rename_i h1; cases h1
  · rename_i h1; cases h1
  · rename_i h1; cases h1
  · rename_i sep y _
    split at p
    · rename_i xs e
      split at p
      · rename_i ys ey
        simp only [joinS] at p
        split at p
        · rename_i hc
          obtain ⟨w, rfl, rw'⟩ := rps1 rs
          obtain ⟨a, ws, rfl, ha, rws⟩ := lst_at R rw' e
          have e3 := strs_v rws ey
          subst e3
          cases rd
          exact mt_join pins s σ H _ _ v us Q I rx rv ⟨sep, a, ys, rfl, rfl, .inl (SqL.of ha), hc, Pok.now (Pok.of p) R (.str _)⟩
        · exact p.elim
      · exact p.elim
    · exact p.elim
  all_goals first | exact p.elim | (rename_i h1; cases h1; done) | skip
end
end Dv
end L2
namespace L2
namespace Dv
open PySem PySem.Spec PyProof.Rows

/-! ### targets -/
theorem wipe_set {σ : L2.St} {i : Nat} {x : Option V} : ∀ {own : List Nat}, i ∈ own → wipe (σ.set i x) own = wipe σ own
  | v :: vs, h => by
    show (wipe (σ.set i x) vs).set v none = (wipe σ vs).set v none
    by_cases hv : i ∈ vs
    · rw [wipe_set hv]
    · have e : v = i := by
        rcases List.mem_cons.mp h with h | h
        · exact h.symm
        · exact absurd h hv
      subst e
      have out : ∀ (vs : List Nat) (σ : L2.St), v ∉ vs → wipe (σ.set v x) vs = (wipe σ vs).set v x := fun vs => by
        induction vs with
        | nil => intro σ _; rfl
        | cons a r ih =>
          intro σ hn
          simp only [List.mem_cons, not_or] at hn
          show (wipe (σ.set v x) r).set a none = ((wipe σ r).set a none).set v x
          rw [ih σ hn.2, List.set_comm _ _ (fun z => hn.1 z)]
      rw [out vs σ hv, List.set_set]
theorem RelS.wipe {W : Wd} {F : Hp} {ι : List Addr} {ρ : Env'} {σ : L2.St} (S : RelS W F ι ρ σ) : ∀ own : List Nat, RelS W F ι (wipeD ρ own) (L2.wipe σ own)
  | [] => S
  | v :: vs => (RelS.wipe S vs).forget v
theorem lcl_of {sc : Scope} {x : Str} (h : lclB sc x = true) : sc.names.lookup x = some .local := by
  unfold lclB at h
  split at h
  · assumption
  · cases h
theorem okn_of {x : Str} (h : okn x = true) : (x == ("__debug__" : Str)) = false ∧ (x == ("__classdict__" : Str)) = false ∧ x ≠ "__name__" := by
  simp only [okn, Bool.and_eq_true, Bool.not_eq_true'] at h
  exact ⟨h.1.1, h.1.2, fun z => by rw [z] at h; simp at h⟩
def gT (W : Wd) (tg : Tg) : TG := fun v σ H Q => ∃ ρ M F ι d ρ', Rel W M F H ι ∧ RelS W F ι ρ σ ∧ Rp W F ι v d ∧ tg.put d ρ = some ρ' ∧
  ∀ σ', RelS W F ι ρ' σ' → (∀ own : List Nat, (∀ j ∈ tg.ix, j ∈ own) → wipe σ' own = wipe σ own) → Q σ' H
def gTs (W : Wd) (ts : List Tg) : TGs := fun vs σ H Q => ∃ ρ M F ι ds ρ', Rel W M F H ι ∧ RelS W F ι ρ σ ∧ Rps W F ι vs ds ∧ Tg.puts ts ds ρ = some ρ' ∧
  ∀ σ', RelS W F ι ρ' σ' → (∀ own : List Nat, (∀ j ∈ Tg.ixs ts, j ∈ own) → wipe σ' own = wipe σ own) → Q σ' H
theorem _root_.L2.PG.imp {X : Cx} {e : Expr} {t t' : TG} (h : PG X e t) (i : ∀ v σ H Q, t' v σ H Q → t v σ H Q) : PG X e t' := ⟨fun pins s σ H v u Q I r q => h.run pins s σ H v u Q I r (i v σ H Q q)⟩
theorem _root_.L2.PGs.imp {X : Cx} {e : List Expr} {t t' : TGs} (h : PGs X e t) (i : ∀ v σ H Q, t' v σ H Q → t v σ H Q) : PGs X e t' := ⟨fun pins s σ H v u Q I r q => h.run pins s σ H v u Q I r (i v σ H Q q)⟩
theorem loc_of {sc : Scope} {x : Str} (h : locB sc x = true) : Loc sc x := by
  unfold locB at h
  unfold Loc
  split at h
  · rename_i e; exact .inl e
  · rename_i e; exact .inr e
  · cases h
theorem chTs_plain {q : Bool} {N : List Str} {sc : Scope} {env : Env} : ∀ {ts : List Tg} {es : List Expr}, chTs q N sc ts es = true → (assignEach es env).length = ts.length ∧ (assignEach es env).findIdx? (·.1) = none
  | [], [], _ => ⟨rfl, rfl⟩
  | t :: ts, e :: es, h => by
    simp only [chTs, Bool.and_eq_true] at h
    obtain ⟨h1, h2⟩ := chTs_plain (env := env) h.2
    have e1 : assignEach (e :: es) env = (false, assign e env) :: assignEach es env := by
      cases e <;> first | rfl | (cases t <;> simp [chT] at h)
    rw [e1]
    refine ⟨by simp [h1], ?_⟩
    rw [List.findIdx?_cons]
    simp [h2]
  | [], _ :: _, h => by simp [chTs] at h
  | _ :: _, [], h => by simp [chTs] at h
mutual
theorem pg_T {X : Cx} {W : Wd} {q : Bool} (hK : X.K = W.K) (hN : X.N.Nodup) (hc : X.calm = true) (hq : q = true → ∀ x, X.fn x = true) : ∀ (tg : Tg) {e : Expr}, chT q X.N X.env.scope tg e = true → PG X e (gT W tg)
  | .nm i, e, h => by
    cases e with
    | Name x pos =>
      simp only [chT, Bool.and_eq_true, decide_eq_true_eq] at h
      have hl : Loc X.env.scope x ∧ (X.fn x = true ∨ X.env.scope.names.lookup x = some .local) := by
        have h0 := h.1.2
        split at h0
        · exact ⟨loc_of h0, .inl (hq (by assumption) x)⟩
        · exact ⟨.inl (lcl_of h0), .inr (lcl_of h0)⟩
      refine (pg_name hN h.1.1 hl.1 hl.2).imp fun v σ H Q ⟨ρ, M, F, ι, d, ρ', R, S, r, e, q⟩ => ?_
      simp only [Tg.put, Option.some.injEq] at e
      subst e
      exact q _ (S.set i r) fun own ho => wipe_set (ho i (by simp [Tg.ix]))
    | _ => simp [chT] at h
  | .tp ts, e, h => by
    cases e with
    | Tuple es k pos =>
      simp only [chT] at h
      obtain ⟨h1, h2⟩ := chTs_plain (env := X.env) h
      refine (pg_tup (n := ts.length) hc (pg_Ts hK hN hc hq ts h) h1 h2).imp fun v σ H Q ⟨ρ, M, F, ι, d, ρ', R, S, r, e, q⟩ => ?_
      cases d with
      | tup ds =>
        simp only [Tg.put] at e
        split at e
        · rename_i hl
          cases r with
          | tup a1 a2 => exact ⟨_, _, rfl, by rw [hK]; exact Same.seqT R.sub a1, by rw [a2.length]; exact hl, ρ, M, F, ι, ds, ρ', R, S, a2, e, fun σ' S' w => q σ' S' fun own ho => w own fun j hj => ho j (by simpa [Tg.ix] using hj)⟩
        · cases e
      | _ => simp [Tg.put] at e
    | _ => simp [chT] at h
theorem pg_Ts {X : Cx} {W : Wd} {q : Bool} (hK : X.K = W.K) (hN : X.N.Nodup) (hc : X.calm = true) (hq : q = true → ∀ x, X.fn x = true) : ∀ (ts : List Tg) {es : List Expr}, chTs q X.N X.env.scope ts es = true → PGs X es (gTs W ts)
  | [], [], _ => pgs_nil.imp fun vs σ H Q ⟨ρ, M, F, ι, ds, ρ', R, S, r, e, q⟩ => by
    cases ds with
    | nil =>
      cases r
      simp only [Tg.puts, Option.some.injEq] at e
      subst e
      exact ⟨rfl, q σ S fun _ _ => rfl⟩
    | cons _ _ => simp [Tg.puts] at e
  | t :: ts, e :: es, h => by
    simp only [chTs, Bool.and_eq_true] at h
    have e1 : (assignEach (e :: es) X.env).map (·.2) = assign e X.env :: (assignEach es X.env).map (·.2) := by
      cases e <;> first | rfl | (cases t <;> simp [chT] at h)
    refine (pgs_cons (pg_T hK hN hc hq t h.1) (pg_Ts hK hN hc hq ts h.2) e1).imp fun vs σ H Q ⟨ρ, M, F, ι, ds, ρ', R, S, r, ep, q⟩ => ?_
    cases ds with
    | nil => simp [Tg.puts] at ep
    | cons d ds =>
      simp only [Tg.puts] at ep
      split at ep
      · rename_i ρ1 e2
        cases r with
        | cons r1 r2 =>
          refine ⟨_, _, rfl, ρ, M, F, ι, d, ρ1, R, S, r1, e2, fun σ1 S1 w1 => ⟨ρ1, M, F, ι, ds, ρ', R, S1, r2, ep, fun σ2 S2 w2 => q σ2 S2 fun own ho => ?_⟩⟩
          rw [w2 own fun j hj => ho j (by simp [Tg.ixs, hj]), w1 own fun j hj => ho j (by simp [Tg.ixs, hj])]
      · cases ep
  | [], _ :: _, h => by simp [chTs] at h
  | _ :: _, [], h => by simp [chTs] at h
end

/-! ### what is walked -/
structure JOk (W : Wd) (F : Hp) (ι : List Addr) (J : L2.It) (ds : List D) : Prop where
  go : ∀ (i : Nat) (F2 H2 : Hp), Same F F2 → Same F2 H2 → i < ds.length → J.go i H2
  stop : ∀ (i : Nat) (F2 H2 : Hp), Same F F2 → Same F2 H2 → ds.length ≤ i → J.stop i H2
  yld : ∀ (i : Nat) (M2 : Mem) (F2 H2 : Hp) (ι2 : List Addr) (x : V) (H3 : Hp) (d : D), Same F F2 → Ext ι ι2 → Rel W M2 F2 H2 ι2 → J.yld i H2 x H3 → ds[i]? = some d →
    ∃ F3, Rel W M2 F3 H3 ι2 ∧ Grow M2 F2 H2 ι2 M2 F3 H3 ι2 ∧ Rp W F3 ι2 x d
def relI (W : Wd) : Hp → List Addr → L2.It → List D → Prop := fun F ι J ds => JOk W F ι J ds

section
variable {W : Wd} {F : Hp} {ι : List Addr}
theorem jok_list {a : Addr} {vs : List V} {ds : List D} (h : SqL W.K F a vs) (r : Rps W F ι vs ds) : JOk W F ι (Itl W.K a) ds where
  go := fun i F2 H2 s1 s2 hi => ⟨vs, vs[i]'(by rw [r.length]; exact hi), s2.seq (s1.seq h), by simp⟩
  stop := fun i F2 H2 s1 s2 hi => ⟨vs, s2.seq (s1.seq h), by rw [r.length]; exact hi⟩
  yld := fun i M2 F2 H2 ι2 x H3 d s1 e R y hd => by
    obtain ⟨rfl, y⟩ := y
    have hx := y vs (R.sub.seq (s1.seq h))
    obtain ⟨v, h1, h2⟩ := r.get hd
    rw [hx] at h1
    cases h1
    exact ⟨F2, R, Grow.refl, h2.mono s1 e⟩
theorem jok_tup {a : Addr} {vs : List V} {ds : List D} (h : SqT W.K F a vs) (r : Rps W F ι vs ds) : JOk W F ι (Itt W.K a) ds where
  go := fun i F2 H2 s1 s2 hi => ⟨vs, vs[i]'(by rw [r.length]; exact hi), Same.seqT s2 (Same.seqT s1 h), by simp⟩
  stop := fun i F2 H2 s1 s2 hi => ⟨vs, Same.seqT s2 (Same.seqT s1 h), by rw [r.length]; exact hi⟩
  yld := fun i M2 F2 H2 ι2 x H3 d s1 e R y hd => by
    obtain ⟨rfl, y⟩ := y
    have hx := y vs (Same.seqT R.sub (Same.seqT s1 h))
    obtain ⟨v, h1, h2⟩ := r.get hd
    rw [hx] at h1
    cases h1
    exact ⟨F2, R, Grow.refl, h2.mono s1 e⟩
theorem jok_str (x : Str) : JOk W F ι (Its x) (x.cps.toList.map fun c => .str ⟨#[c]⟩) where
  go := fun i F2 H2 s1 s2 hi => (show i < x.cps.size from by simpa using hi)
  stop := fun i F2 H2 s1 s2 hi => (show x.cps.size ≤ i from by simpa using hi)
  yld := fun i M2 F2 H2 ι2 v H3 d s1 e R y hd => by
    obtain ⟨rfl, c, hc, rfl⟩ := y
    rw [List.getElem?_map, Array.getElem?_toList, hc] at hd
    cases hd
    exact ⟨F2, R, Grow.refl, .str _⟩
theorem jok_rng (lo : Int) (n : Nat) : JOk W F ι (Itr lo n) ((List.range n).map fun (k : Nat) => .int (lo + (k : Int))) where
  go := fun i F2 H2 s1 s2 hi => (show i < n from by simpa using hi)
  stop := fun i F2 H2 s1 s2 hi => (show n ≤ i from by simpa using hi)
  yld := fun i M2 F2 H2 ι2 v H3 d s1 e R y hd => by
    obtain ⟨rfl, rfl⟩ := y
    rw [List.getElem?_map] at hd
    cases hr : (List.range n)[i]? with
    | none => rw [hr] at hd; cases hd
    | some k =>
      rw [hr] at hd
      cases hd
      have hk : i = k := by
        have := List.getElem?_range (n := n) (i := i) (by
          have := (List.getElem?_eq_some_iff.mp hr).1
          simpa using this)
        rw [hr] at this
        exact (Option.some.inj this).symm
      subst hk
      exact ⟨F2, R, Grow.refl, .int _⟩
theorem jok_zip {a b : Addr} {vs us : List V} {ds es : List D} (h1 : SqL W.K F a vs) (h2 : SqL W.K F b us) (r1 : Rps W F ι vs ds) (r2 : Rps W F ι us es) : JOk W F ι (Itz W.K a b) (List.zipWith (fun p q => D.tup [p, q]) ds es) where
  go := fun i F2 H2 s1 s2 hi => by
    rw [List.length_zipWith, ← r1.length, ← r2.length] at hi
    exact ⟨vs, us, vs[i], us[i], s2.seq (s1.seq h1), s2.seq (s1.seq h2), by simp, by simp⟩
  stop := fun i F2 H2 s1 s2 hi => by
    rw [List.length_zipWith, ← r1.length, ← r2.length] at hi
    exact ⟨vs, us, s2.seq (s1.seq h1), s2.seq (s1.seq h2), by omega⟩
  yld := fun i M2 F2 H2 ι2 v H3 d s1 e R y hd => by
    obtain ⟨T, x, y', rfl, nT, rfl, f1, f2⟩ := y
    have e1 := f1 vs (R.sub.seq (s1.seq h1))
    have e2 := f2 us (R.sub.seq (s1.seq h2))
    obtain ⟨p, q1, q2⟩ := r1.getv e1
    obtain ⟨q, q3, q4⟩ := r2.getv e2
    rw [List.getElem?_zipWith, q1, q3] at hd
    cases hd
    have hn := R.Fn nT
    exact ⟨_, R.frozen nT, Grow.frozen R nT, .tup (SqT.of upd_same) (.cons ((q2.mono s1 e).mono (same_upd hn) (Ext.refl _)) (.cons ((q4.mono s1 e).mono (same_upd hn) (Ext.refl _)) .nil))⟩
theorem jok_enum {a : Addr} {vs : List V} {ds : List D} (h1 : SqL W.K F a vs) (r1 : Rps W F ι vs ds) : JOk W F ι (Ite W.K a) (ds.zipIdx.map fun p => D.tup [.int p.2, p.1]) where
  go := fun i F2 H2 s1 s2 hi => by
    rw [List.length_map, List.length_zipIdx, ← r1.length] at hi
    exact ⟨vs, vs[i], s2.seq (s1.seq h1), by simp⟩
  stop := fun i F2 H2 s1 s2 hi => by
    rw [List.length_map, List.length_zipIdx, ← r1.length] at hi
    exact ⟨vs, s2.seq (s1.seq h1), hi⟩
  yld := fun i M2 F2 H2 ι2 v H3 d s1 e R y hd => by
    obtain ⟨T, x, rfl, nT, rfl, f1⟩ := y
    have e1 := f1 vs (R.sub.seq (s1.seq h1))
    obtain ⟨p, q1, q2⟩ := r1.getv e1
    rw [List.getElem?_map, List.getElem?_zipIdx, q1] at hd
    simp only [Option.map_some, Option.some.injEq, Nat.zero_add] at hd
    subst hd
    have hn := R.Fn nT
    exact ⟨_, R.frozen nT, Grow.frozen R nT, .tup (SqT.of upd_same) (.cons (.int _) (.cons ((q2.mono s1 e).mono (same_upd hn) (Ext.refl _)) .nil))⟩
end

/-- walking a value -/
def ItV (K : PySem.W.Frag) (v : V) (H : Hp) (R : L2.It → Hp → Prop) : Prop := (∃ x, v = .str x ∧ R (Its x) H) ∨ (∃ a xs, v = .ref a ∧ SqL K H a xs ∧ R (Itl K a) H) ∨ ∃ a xs, v = .ref a ∧ SqT K H a xs ∧ R (Itt K a) H
theorem pi_val {X : Cx} {tg e : Expr} {te : TE} (he : PE X e te) : PI X tg e (fun σ H R => te σ H fun v H1 => ItV X.K v H1 R) := by
  constructor
  intro pins s σ H R I h
  refine thn (he.run pins s σ H _ I h) ?_
  rintro u s1 ⟨v, H1, I1, r1, (⟨x, rfl, q⟩ | ⟨a, xs, rfl, hq, q⟩ | ⟨a, xs, rfl, hq, q⟩)⟩
  · obtain ⟨t, rfl⟩ := r1
    by_cases ha : x.cps.all (· < 128) = true
    · exact wpAny_pyIter_ascii ha (pi_one (tk := s1.toks) I1 _ (turn_str _ x t _ (.inl rfl)) ⟨_, Heap.get?_push_size _ rfl, rfl, rfl⟩ q)
    · exact wpAny_pyIter_wide (by simpa using ha) (pi_one (tk := s1.toks) I1 _ (turn_str _ x t _ (.inr rfl)) ⟨_, Heap.get?_push_size _ rfl, rfl, rfl⟩ q)
  · cases r1
    obtain ⟨its, rv, p, hz⟩ := I1.list hq
    refine wpAny_pyIter_list p.isList ⟨_, [s1.heap.objs.size], _, _, H1, rfl, I1.kept (t' := s1.toks) fun b o => Heap.get?_push_of_some _, turn_list a _, ⟨_, Heap.get?_push_size _ rfl, rfl, rfl⟩, ?_, q⟩
    intro b hb
    rw [List.mem_singleton.mp hb]
    exact I1.fpOk (Nat.le_refl _) (I1.hok.fresh (Nat.le_refl _))
  · cases r1
    obtain ⟨its, rv, p, hz⟩ := I1.tuple hq
    refine wpAny_pyIter_tuple (show s1.heap.IsTuple a its.toArray from p) ⟨_, [s1.heap.objs.size], _, _, H1, rfl, I1.kept (t' := s1.toks) fun b o => Heap.get?_push_of_some _, turn_tuple a _, ⟨_, Heap.get?_push_size _ rfl, rfl, rfl⟩, ?_, q⟩
    intro b hb
    rw [List.mem_singleton.mp hb]
    exact I1.fpOk (Nat.le_refl _) (I1.hok.fresh (Nat.le_refl _))
end Dv
end L2
/-! Dv: small facts of the syntax -/
namespace L2
namespace Dv
open PySem PySem.Spec PyProof.Rows
section
theorem asName_eq {x : Expr} {y : Str} (h : asName x = some y) : ∃ p, x = .Name y p := by cases x <;> simp [asName] at h; subst h; exact ⟨_, rfl⟩
theorem asConst_eq {x : Expr} {y : Const} (h : asConst x = some y) : ∃ j p, x = .Constant y j p := by cases x <;> simp [asConst] at h; subst h; exact ⟨_, _, rfl⟩
theorem asBin_eq {x : Expr} {y : Operator × Expr × Expr} (h : asBin x = some y) : ∃ p, x = .BinOp y.2.1 y.1 y.2.2 p := by cases x <;> simp [asBin] at h; subst h; exact ⟨_, rfl⟩
theorem asUn_eq {x : Expr} {y : UnaryOp × Expr} (h : asUn x = some y) : ∃ p, x = .UnaryOp y.1 y.2 p := by cases x <;> simp [asUn] at h; subst h; exact ⟨_, rfl⟩
theorem asBool_eq {x : Expr} {y : BoolOp × List Expr} (h : asBool x = some y) : ∃ p, x = .BoolOp y.1 y.2 p := by cases x <;> simp [asBool] at h; subst h; exact ⟨_, rfl⟩
theorem asCmp_eq {x : Expr} {y : Expr × CmpOp × Expr} (h : asCmp x = some y) : ∃ p, x = .Compare y.1 [y.2.1] [y.2.2] p := by
  unfold asCmp at h
  split at h <;> cases h
  exact ⟨_, rfl⟩
theorem asChn_eq {x : Expr} {y : Expr × CmpOp × Expr × CmpOp × Expr} (h : asChn x = some y) : ∃ p, x = .Compare y.1 [y.2.1, y.2.2.2.1] [y.2.2.1, y.2.2.2.2] p := by
  unfold asChn at h
  split at h <;> cases h
  exact ⟨_, rfl⟩
theorem asIf_eq {x : Expr} {y : Expr × Expr × Expr} (h : asIf x = some y) : ∃ p, x = .IfExp y.1 y.2.1 y.2.2 p := by cases x <;> simp [asIf] at h; subst h; exact ⟨_, rfl⟩
theorem asTup_eq {x : Expr} {y : List Expr} (h : asTup x = some y) : ∃ j p, x = .Tuple y j p := by cases x <;> simp [asTup] at h; subst h; exact ⟨_, _, rfl⟩
theorem asLst_eq {x : Expr} {y : List Expr} (h : asLst x = some y) : ∃ p, x = .List y p := by cases x <;> simp [asLst] at h; subst h; exact ⟨_, rfl⟩
theorem asDict0_eq {x : Expr} (h : asDict0 x = true) : ∃ p, x = .Dict [] [] p := by
  unfold asDict0 at h
  split at h <;> first | exact ⟨_, rfl⟩ | cases h
theorem asComp_eq {x : Expr} {y : Expr × Expr × Expr × List Expr × Scope} (h : asComp x = some y) : ∃ p, x = .ListComp y.1 [⟨y.2.1, y.2.2.1, y.2.2.2.1, 0⟩] y.2.2.2.2 p := by
  unfold asComp at h
  split at h
  · split at h <;> cases h
    rename_i e
    subst e
    exact ⟨_, rfl⟩
  · cases h
theorem asCall_eq {x : Expr} {y : Str × List Expr} (h : asCall x = some y) : ∃ p0 p, x = .Call (.Name y.1 p0) y.2 [] p := by
  unfold asCall at h
  split at h <;> cases h
  exact ⟨_, _, rfl⟩
theorem asMeth_eq {x : Expr} {y : Expr × Str × List Expr} (h : asMeth x = some y) : ∃ ap p, x = .Call (.Attribute y.1 y.2.1 ap) y.2.2 [] p ∧ (ap.endLine == p.line) = true := by
  unfold asMeth at h
  split at h
  · split at h <;> cases h
    exact ⟨_, _, rfl, by assumption⟩
  · cases h
theorem asSub_eq {x : Expr} {y : Expr × Expr} (h : asSub x = some y) : ∃ p, x = .Subscript y.1 y.2 p := by cases x <;> simp [asSub] at h; subst h; exact ⟨_, rfl⟩
theorem asSlc_eq {x : Expr} {y : Option Expr × Option Expr} (h : asSlc x = some y) : ∃ p, x = .Slice y.1 y.2 none p := by
  unfold asSlc at h
  split at h <;> cases h
  exact ⟨_, rfl⟩
theorem asBack_eq {x : Expr} (h : asBack x = true) : ∃ j p1 p2 p3, x = .Slice none none (some (.UnaryOp .USub (.Constant (.int 1) j p1) p2)) p3 := by
  unfold asBack at h
  split at h <;> first | exact ⟨_, _, _, _, rfl⟩ | cases h
end
section
variable {T : Tb} {N : List Str} {sc : Scope} {env : Env}
theorem chE_star {e : E} {y : Expr} {p : Pos} : chE T N sc e (.Starred y p) = false := by
  cases e <;> first | rfl | (rename_i a b; cases b <;> rfl) | (simp [chE, asName, asConst, asBin, asUn, asBool, asCmp, asChn, asIf, asTup, asLst, asDict0, asComp, asCall, asMeth, asSub])
theorem noStar_of {e : E} {x : Expr} (h : chE T N sc e x = true) : noStar x = true := by
  cases x <;> first | rfl | (rw [chE_star] at h; cases h)
theorem star_cons {x : Expr} {xs : List Expr} (h : noStar x = true) : starEach (x :: xs) env = (false, eval x env) :: starEach xs env := by
  cases x <;> first | rfl | (simp [noStar] at h)
theorem plain_args {pos : Pos} : ∀ {es : List E} {xs : List Expr}, chEs T N sc es xs = true → (backTo pos (starEach xs env)).any (·.1) = false ∧ (backTo pos (starEach xs env)).all (fun y => !y.1) = true ∧ xs.length = es.length
  | [], [], _ => ⟨rfl, rfl, rfl⟩
  | e :: es, x :: xs, h => by
    simp only [chEs, Bool.and_eq_true] at h
    obtain ⟨h1, h2, h3⟩ := plain_args (pos := pos) h.2
    rw [star_cons (noStar_of h.1)]
    refine ⟨?_, ?_, by simp [h3]⟩
    · show ((false || (backTo pos (starEach xs env)).any (·.1)) = false)
      rw [h1]; rfl
    · show ((!false && (backTo pos (starEach xs env)).all (fun y => !y.1)) = true)
      rw [h2]; rfl
  | [], _ :: _, h => by simp [chEs] at h
  | _ :: _, [], h => by simp [chEs] at h
theorem test_of {x : Expr} (h : plT x = true) (whole : Sem Value) : isTrue x env whole = (do let v ← whole; standAt x.pos; holding [v] (truthy v)) := by
  cases x with
  | UnaryOp op a p => cases op <;> first | rfl | (simp [plT] at h)
  | BoolOp _ _ _ => simp [plT] at h
  | IfExp _ _ _ _ => simp [plT] at h
  | Compare _ _ _ _ => simp [plT] at h
  | _ => rfl
theorem sup_of {o : Expr} {n : Str} {w : Sem Value} (h : noSup o = true) : attributeBase o n env w = w := by
  unfold attributeBase
  split
  · simp [noSup] at h
  · rfl
theorem sl_of {i : Expr} (h : noSl i = true) : PlainIx i := fun o k => by
  cases i <;> first | rfl | (simp [noSl] at h)
theorem set_of {i : Expr} (h : noSet i = true) (x : Value) : foldedSetIterable i env x = pure x := by
  cases i <;> first | rfl | (simp [noSet] at h)
theorem in_of {y : Expr} {op : CmpOp} (h : noSet y = true) : behindInMarks op y = false := by
  cases y <;> first | rfl | (simp [noSet] at h)
theorem last_of {x y : Expr} {op op' : CmpOp} (h : noSet y = true) : lastMarks [op, op'] [x, y] = false := by
  show behindInMarks op' y = false
  exact in_of h
theorem comp_of {x : Expr} {t : Option Expr} {l : Nat} (h : noComp x = true) : swapsWith x t l env = pure false := by
  cases x <;> first | rfl | (simp [noComp] at h)
theorem vis_of {x : Str} (h : visB sc x = true) : Vis sc x := by
  unfold visB at h
  unfold Vis
  split at h
  · rename_i e; exact .inl e
  · rename_i e; exact .inr (.inl e)
  · rename_i e; exact .inr (.inr e)
  · cases h
theorem gl_of {x : Str} (h : glB sc x = true) : sc.names.lookup x = some .globalImplicit := by
  unfold glB at h
  split at h
  · assumption
  · cases h
end
end Dv
end L2
/-! Dv: comprehensions -/
namespace L2
namespace Dv
open PySem PySem.Spec PyProof.Rows

theorem wipe_idem {σ : L2.St} : ∀ own : List Nat, wipe (wipe σ own) own = wipe σ own
  | [] => rfl
  | v :: vs => by
    have h : wipe ((wipe σ vs).set v none) (v :: vs) = wipe (wipe σ vs) (v :: vs) := wipe_set List.mem_cons_self
    show wipe ((wipe σ vs).set v none) (v :: vs) = (wipe σ vs).set v none
    rw [h]
    show (wipe (wipe σ vs) vs).set v none = _
    rw [wipe_idem vs]
theorem upd_it {H : Hp} {p : Addr} {o : HO} (h : H p = some o) : upd H p o = H := by
  funext a
  by_cases e : a = p
  · subst e; rw [upd_same, h]
  · rw [upd_ne e]
theorem hid_it {H : Hp} {p : Addr} {o : HO} (h : H p = none) : hid (upd H p o) p = H := by
  funext a
  by_cases e : a = p
  · subst e; rw [hid_same, h]
  · rw [hid_ne e, upd_ne e]
theorem hid_of {H : Hp} {p : Addr} {o : HO} : hid (upd H p o) p = hid H p := by
  funext a
  by_cases e : a = p
  · subst e; rw [hid_same, hid_same]
  · rw [hid_ne e, hid_ne e, upd_ne e]

abbrev WX0 : WX := fun _ _ _ _ => False
section
variable {W : Wd} {Φ : Calls} {T : Tb} {elt : E} {tg : Tg} {ifs : List E} {own : List Nat} {ρ : Env'} {σ : L2.St} {M1 : Mem} {F1 H1 : Hp} {ι1 : List Addr} {J : L2.It} {ds : List D} {Q : VK} {Wx : WXH} {fz : Bool}
/-- one item of a comprehension -/
def lcF (Φ : Calls) (T : Tb) (elt : E) (tg : Tg) (ifs : List E) (own : List Nat) (ρ : Env') : D → Mem → R (Option D) := fun x M2 => match tg.put x (wipeD ρ own) with
  | some ρ' => (evF Φ T ifs ρ' M2).bnd fun b M3 => if b then (ev Φ T elt ρ' M3).bnd fun y M4 => .ok (some y) M4 else .ok none M3
  | none => .bad
theorem lc_read (hix : ∀ j ∈ tg.ix, j ∈ own) (R0 : Rel W M1 F1 H1 ι1) (S : RelS W F1 ι1 ρ σ) (jok : JOk W F1 ι1 J ds)
    (p : Pst W Wx (Rp W) Q ((foldC (lcF Φ T elt tg ifs own ρ) ds [] M1).bnd fun ys M5 => mkL fz ys M5) M1 F1 H1 ι1) :
    ∀ D, H1 D = none → ∃ Wv : Nat → Nat → Hp → Prop, (∃ m, Wv 0 m (upd H1 D (.lst []))) ∧ ∀ i m H, Wv i m H →
      (J.stop i H ∧ Q (.ref D) H) ∨ (J.go i H ∧ ∃ Nx : Hp → Prop, (∀ H', Nx H' → ∃ m', m' < m ∧ Wv (i + 1) m' H') ∧ ∀ x H', J.yld i H x H' → gT W tg x (wipe σ own) H' fun σ2 H2 => wipe σ2 own = wipe σ own ∧ tG W WX0 eqB (evF Φ T ifs) σ2 H2 fun b H3 =>
        if b = true then tG W WX0 (Rp W) (ev Φ T elt) σ2 H3 fun y H4 => ∃ acc, H4 D = some (.lst acc) ∧ acc.length < sizeLine ∧ Nx (upd H4 D (.lst (acc ++ [y]))) else Nx H3) := by
  intro D hD
  let St : Nat → Hp → Prop := fun i H => ∃ M2 F2 ι2 acc vs, Rel W M2 F2 (hid H D) ι2 ∧ H D = some (.lst vs) ∧ Rps W F2 ι2 vs acc ∧ RelS W F2 ι2 ρ σ ∧ Same F1 F2 ∧ Ext ι1 ι2 ∧
    Pst W Wx (Rp W) Q ((foldC (lcF Φ T elt tg ifs own ρ) (ds.drop i) acc M2).bnd fun ys M5 => mkL fz ys M5) M2 F2 (hid H D) ι2
  refine ⟨fun i m H => m = ds.length - i ∧ i ≤ ds.length ∧ St i H, ⟨ds.length, by simp, Nat.zero_le _, M1, F1, ι1, [], [], ?_, upd_same, .nil, S, fun _ _ h => h, Ext.refl _, ?_⟩, ?_⟩
  · rw [hid_it hD]; exact R0
  · rw [hid_it hD]; exact p
  rintro i m H ⟨rfl, hi, M2, F2, ι2, acc, vs, R2, hV, rV, S2, s12, e12, p2⟩
  obtain ⟨R2', nF, nI⟩ := R2.shown
  by_cases hlt : i < ds.length
  · refine .inr ⟨jok.go i F2 H s12 R2'.sub hlt, fun H' => St (i + 1) H', fun H' n => ⟨ds.length - (i + 1), by omega, rfl, hlt, n⟩, fun x H' y => ?_⟩
    obtain ⟨F3, R3, g3, r3⟩ := jok.yld i M2 F2 H ι2 x H' ds[i] s12 e12 R2' y (List.getElem?_eq_getElem hlt)
    obtain ⟨hV3, nF3, nI3, gh3⟩ := g3.beside hV nF nI
    rw [List.drop_eq_getElem_cons hlt] at p2
    simp only [foldC, lcF] at p2
    cases ep : tg.put ds[i] (wipeD ρ own) with
    | none => rw [ep] at p2; exact p2.elim
    | some ρ' =>
      rw [ep] at p2
      simp only at p2
      refine ⟨wipeD ρ own, M2, F3, ι2, ds[i], ρ', R3, (S2.mono g3.f g3.i).wipe own, r3, ep, fun σ2 S2' w2 => ⟨?_, ?_⟩⟩
      · rw [w2 own hix, wipe_idem]
      · cases ef : evF Φ T ifs ρ' M2 with
        | bad => rw [ef] at p2; exact p2.elim
        | err x M => rw [ef] at p2; exact p2.elim
        | ok b M3 =>
          rw [ef] at p2
          simp only [R.bnd_ok] at p2
          refine ⟨ρ', M2, F3, ι2, R3, S2', ?_⟩
          rw [ef]
          rintro v F4 H4 ι4 R4 g4 rfl
          obtain ⟨hV4, nF4, nI4, gh4⟩ := g4.beside hV3 nF3 nI3
          cases v with
          | false =>
            rw [if_neg Bool.false_ne_true]
            simp only [Bool.false_eq_true, if_false] at p2
            exact ⟨M3, F4, ι4, acc, vs, R4.hidden nF4 nI4, hV4, rV.mono (g3.f.trans g4.f) (g3.i.trans g4.i), S2.mono (g3.f.trans g4.f) (g3.i.trans g4.i), s12.trans (g3.f.trans g4.f), e12.trans (g3.i.trans g4.i), p2.from (gh3.trans gh4)⟩
          | true =>
            rw [if_pos rfl]
            simp only [if_true] at p2
            cases ee : ev Φ T elt ρ' M3 with
            | bad => rw [ee] at p2; exact p2.elim
            | err x M => rw [ee] at p2; exact p2.elim
            | ok yv M4 =>
              rw [ee] at p2
              simp only [R.bnd_ok] at p2
              refine ⟨ρ', M3, F4, ι4, R4, S2'.mono g4.f g4.i, ?_⟩
              rw [ee]
              intro z F5 H5 ι5 R5 g5 rz
              obtain ⟨hV5, nF5, nI5, gh5⟩ := g5.beside hV4 nF4 nI4
              have gf := (g3.f.trans g4.f).trans g5.f
              have gi := (g3.i.trans g4.i).trans g5.i
              split at p2
              · rename_i hz
                refine ⟨vs, hV5, by rw [rV.length]; exact hz, M4, F5, ι5, acc ++ [yv], vs ++ [z], ?_, upd_same, (rV.mono gf gi).append (.cons rz .nil), S2.mono gf gi, s12.trans gf, e12.trans gi, ?_⟩
                · rw [hid_of]; exact R5.hidden nF5 nI5
                · rw [hid_of]; exact p2.from ((gh3.trans gh4).trans gh5)
              · exact p2.elim
  · have ei : i = ds.length := by omega
    refine .inl ⟨jok.stop i F2 H s12 R2'.sub (by omega), ?_⟩
    rw [ei, List.drop_length] at p2
    have z := (mkL_end R2 rV p2).2 D hid_same
    rw [hid_upd, upd_it hV] at z
    exact z
end
end Dv
end L2
/-! Dv: a tuple back to front -/
namespace L2
namespace Dv
open PySem PySem.Spec PyProof.Rows
section
variable {prog : Program} {w : World} {A : Around} {E : Value → Shared → Prop} {s : Shared}
theorem back_places (n : Nat) : Builtin.Slice.slicePlaces ((n : Int) - 1) (-1) (-1) = n := by
  unfold Builtin.Slice.slicePlaces
  rw [if_neg (by decide)]
  by_cases h : (n : Int) - 1 > -1
  · rw [if_pos h]
    have e : ((n : Int) - 1 - -1 - 1) / (- -1) + 1 = (n : Int) := by
      rw [show (- -1 : Int) = 1 by decide, Int.ediv_one]
      omega
    rw [e]; rfl
  · rw [if_neg h]
    omega
theorem back_applied {sl : Addr} {vl vu vs : Value} {n : Nat} {Q : Int × Int × Nat → Shared → Prop} (hs : s.heap.IsSliceOf sl vl vu vs) (pl : IsPart vl none) (pu : IsPart vu none) (ps : IsPart vs (some (-1)))
    (h : Q ((n : Int) - 1, -1, n) s) : wpAny (model prog w) A (Builtin.Slice.sliceApplied (.ref sl) (pure (n : Int))) Q E s := by
  obtain ⟨os, h1, h2, h3⟩ := id hs
  cases pl; cases pu
  obtain ⟨t, rfl⟩ : ∃ t, vs = .int (-1) t := by cases ps; exact ⟨_, rfl⟩
  unfold Builtin.Slice.sliceApplied Builtin.Slice.sliceFields
  refine wpAny_bind (wpAny_bind (wpAny_field h1 h3 (x := .none) rfl (wpAny_bind (wpAny_field h1 h3 (x := .none) rfl (wpAny_bind (wpAny_field h1 h3 (x := .int (-1) t) rfl (wpAny_pure ?_)))))))
  refine wpAny_bind (slicePart_int ?_)
  show wpAny _ _ (if ((-1 : Int) == 0) = true then _ else _) _ _ s
  rw [if_neg (by decide)]
  refine wpAny_bind (slicePart_none (wpAny_bind (slicePart_none (wpAny_bind (wpAny_pure ?_)))))
  show wpAny _ _ (match Builtin.Slice.sliceAdjust none none (-1) (n : Int) with | (x, y) => pure (x, (-1 : Int), Builtin.Slice.slicePlaces x y (-1))) _ _ s
  have e : Builtin.Slice.sliceAdjust none none (-1) (n : Int) = ((n : Int) - 1, -1) := rfl
  rw [e]
  show wpAny _ _ (pure ((n : Int) - 1, (-1 : Int), Builtin.Slice.slicePlaces ((n : Int) - 1) (-1) (-1))) _ _ s
  rw [back_places]
  exact wpAny_pure h
theorem fm_congr {α β : Type} {f g : α → Option β} : ∀ (l : List α), (∀ x ∈ l, f x = g x) → l.filterMap f = l.filterMap g
  | [], _ => rfl
  | a :: l, h => by
    have ih := fm_congr l fun x hx => h x (List.mem_cons_of_mem _ hx)
    have h1 := h a List.mem_cons_self
    simp only [List.filterMap_cons, h1, ih]
theorem back_pick (xs : Array Value) : ((List.range xs.size).filterMap fun (k : Nat) => xs[(((xs.size : Nat) : Int) - 1 + (k : Int) * (-1)).toNat]?).toArray = xs.toList.reverse.toArray := by
  congr 1
  have e : ((List.range xs.size).filterMap fun (k : Nat) => xs[(((xs.size : Nat) : Int) - 1 + (k : Int) * (-1)).toNat]?) = ((List.range xs.size).map fun k => xs.size - 1 - k).filterMap (fun j => xs[j]?) := by
    rw [List.filterMap_map]
    refine fm_congr _ fun k hk => ?_
    have hk := List.mem_range.mp hk
    show xs[(((xs.size : Nat) : Int) - 1 + (k : Int) * (-1)).toNat]? = xs[xs.size - 1 - k]?
    congr 1
    omega
  rw [e, PySem.W.krv_range, List.filterMap_reverse, PySem.W.krv_all]
theorem back_tuple {t sl : Addr} {items : Array Value} {vl vu vs : Value} {Q : Value → Shared → Prop} (ht : IsTup s.heap t items) (hs : s.heap.IsSliceOf sl vl vu vs) (pl : IsPart vl none) (pu : IsPart vu none) (ps : IsPart vs (some (-1)))
    (h : Q (.ref s.heap.objs.size) { s with heap := s.heap.push { cls := .type "tuple", data := .seq items.toList.reverse.toArray } }) (hz : items.size ≤ sizeLine) : wpAny (model prog w) A (getItem (.ref t) (.ref sl)) Q E s := by
  have ok : sizeOk (.seq items.toList.reverse.toArray) := by
    show items.toList.reverse.toArray.size ≤ sizeLine
    simpa using hz
  obtain ⟨os, h1, h2, h3⟩ := id hs
  have hT : s.TypeIs (.ref sl) "slice" := ⟨os, h1, h2⟩
  unfold getItem
  try with_reducible refine wpAny_holding ?_
  first | refine wpAny_bind (wpAny_pure ?_) | skip
  refine wpAny_bind (wpAny_sequenceKey ht.typeIs (by decide) (wpAny_bind (wpAny_callSpecial?_slot (name := Str.ofString "__getitem__") ht.typeIs PyProof.Rows.slot_tuple_getitem ?_)))
  refine wpAny_call_entry PyProof.Rows.slot_tuple_getitem ht.typeIs entry_tuple_getitem ?_ (args_tuple_getitem _ _)
  show wpAny _ _ (Builtin.Tuple.tupleItemsOf (.ref t) >>= _) _ _ s
  refine wpAny_bind (tupleItemsOf_ ht (wpAny_bind (wpAny_typeOf hT ?_)))
  rw [if_pos (by decide)]
  refine wpAny_bind (back_applied hs pl pu ps ?_)
  show wpAny _ _ (if ((((items.size : Nat) : Int) - 1 == 0) && ((-1 : Int) == 1) && (items.size == items.size)) = true then _ else _) _ _ s
  rw [if_neg (by simp), back_pick]
  first
    | exact wpAny_bind (m := Builtin.Tuple.tupleExact _) (wpAny_newObj_type (wpAny_pure ⟨_, rfl, wpAny_pure h⟩) ok)
    | exact wpAny_bind (m := Builtin.Tuple.tupleExact _) (wpAny_newObj_type (wpAny_bind (wpAny_pure (wpAny_pure ⟨_, rfl, wpAny_pure h⟩))) ok)
    | exact wpAny_bind (wpAny_bind (m := Builtin.Tuple.tupleExact _) (wpAny_newObj_type (wpAny_pure (wpAny_pure ⟨_, rfl, wpAny_pure h⟩)) ok))
    | exact wpAny_bind (wpAny_bind (m := Builtin.Tuple.tupleExact _) (wpAny_newObj_type (wpAny_pure ⟨_, rfl, wpAny_pure h⟩) ok))
end

/-- xs[::-1] of a list or a tuple -/
def tRevW (K : PySem.W.Frag) (te : TE) : TE := fun σ H Q => te σ H fun x H1 => (∃ a xs, x = .ref a ∧ SqL K H1 a xs ∧ ∀ p, H1 p = none → Q (.ref p) (upd H1 p (.lst xs.reverse))) ∨ ∃ a xs, x = .ref a ∧ SqT K H1 a xs ∧ ∀ p, H1 p = none → Q (.ref p) (upd H1 p (.tup xs.reverse))
theorem pe_revW {X : Cx} {e : Expr} {te : TE} {k : Nat} {p1 p2 p3 pos : Pos} (he : PE X e te) : PE X (.Subscript e (.Slice none none (some (.UnaryOp .USub (.Constant (.int 1) k p1) p2)) p3) pos) (tRevW X.K te) := by
  constructor
  intro pins s σ H Q I h
  refine Subscript_ (thn (he.run pins s σ H _ I h) fun v s1 ⟨x, H1, I1, r1, q1⟩ => ?_)
  have st : PO X (some (.UnaryOp .USub (.Constant (.int 1) k p1) p2)) (tPart (tUn (rU fun i => .int (-i)) (tC (.int 1)))) := po_some (pe_un un_neg pe_int)
  refine wpAny_Slice (thn (po_none.run pins s1 σ H1 (fun o H2 => o = none ∧ H2 = H1) I1 ⟨rfl, rfl⟩) ?_)
  rintro vl s2 ⟨_, _, I2, pl, rfl, rfl⟩
  refine thn (po_none.run pins s2 σ _ (fun o H3 => o = none ∧ H3 = _) I2 ⟨rfl, rfl⟩) ?_
  rintro vu s3 ⟨_, _, I3, pu, rfl, rfl⟩
  refine thn (st.run pins s3 σ _ (fun o H4 => o = some (-1) ∧ H4 = _) I3 ⟨1, rfl, -1, rfl, rfl, rfl⟩) ?_
  rintro vs s4 ⟨_, _, I4, ps, rfl, rfl⟩
  have I5 := I4.kept (h' := s4.heap.push { cls := .type "slice", data := .fields #[vl, vu, vs] }) (t' := s4.toks) fun b ob => Heap.get?_push_of_some _
  rcases q1 with ⟨a, xs, rfl, hx, q⟩ | ⟨a, xs, rfl, hx, q⟩
  · cases r1
    obtain ⟨its, r, ht, hz⟩ := I5.list hx
    have hl := r.length
    refine tail_any (ops := [.ref a, .ref s4.heap.objs.size]) ht.isList.typeIs PySem.slot_list_getitem.lookup ?_ (by with_unfolding_all rfl)
    refine wpAny_getItem_list_slice ht.isList (Heap.IsSliceOf.new _ vl vu vs) pl pu ps (by decide) ?_ (by rw [List.size_toArray]; omega)
    rw [PySem.W.krv_pick]
    refine ⟨.ref _, _, I5.laid (t' := s4.toks) (o := .lst xs.reverse) (fun b ob => Heap.get?_push_of_some _) (Nat.le_refl _) ?_, rfl, q _ (I5.hok.fresh (Nat.le_refl _))⟩
    exact ⟨by rw [List.length_reverse]; exact hz, _, 0, r.reverse, Heap.get?_push_size _ rfl⟩
  · cases r1
    obtain ⟨its, r, ht, hz⟩ := I5.tuple hx
    have hl := r.length
    refine tail_any (ops := [.ref a, .ref s4.heap.objs.size]) ht.typeIs PyProof.Rows.slot_tuple_getitem.lookup ?_ (by with_unfolding_all rfl)
    refine back_tuple ht (Heap.IsSliceOf.new _ vl vu vs) pl pu ps ?_ (by rw [List.size_toArray]; omega)
    refine ⟨.ref _, _, I5.laid (t' := s4.toks) (o := .tup xs.reverse) (fun b ob => Heap.get?_push_of_some _) (Nat.le_refl _) ?_, rfl, q _ (I5.hok.fresh (Nat.le_refl _))⟩
    exact ⟨by rw [List.length_reverse]; exact hz, _, r.reverse, ⟨_, Heap.get?_push_size _ rfl, rfl, _, rfl⟩⟩
end Dv
end L2
/-! Dv: expressions are run as the interpreter says -/
namespace L2
namespace Dv
open PySem PySem.Spec PyProof.Rows

section
variable {T : Tb} {Φ : Calls} {W : Wd} {k : Nat}
theorem Ok.blk {Wx : WX} {X : Cx} (O : Ok T Φ W k Wx X) (s : Shared) (H : Hp) (scope : Scope) (C : Addr) (cl : List (Str × Addr)) (fp : List Addr) : Ok T Φ W k WX0 (X.blk s H scope (compEnvC scope cl C X.env) fp) where
  K := O.K
  nd := O.nd
  room := O.room
  gd := O.gd
  calm := O.calm
  glo := O.glo
  tk := fun _ _ ⟨_, _, _, _, _, _, _, _, _, _, _, _, _, _, _, _, z⟩ => z.elim
theorem Ok.un {Wx : WX} {X : Cx} (O : Ok T Φ W k Wx X) : X.A.units + 64 < cLine := O.room.units

/-- a test by its value -/
theorem tst_of {Wx : WX} {X : Cx} (hK : X.K = W.K) {e : E} {x : Expr} (hb : tsB e x = true) (h1 : isT e = true → PT X x (tG W Wx eqB (evT Φ T e))) (h2 : PE X x (tG W Wx (Rp W) (ev Φ T e))) : PT X x (tG W Wx eqB (tst Φ T e)) := by
  cases hT : isT e with
  | true =>
    have e1 : tst Φ T e = evT Φ T e := by
      funext ρ M
      unfold tst
      rw [hT]
      rfl
    rw [e1]
    exact h1 hT
  | false =>
    have hp : plT x = true := by
      unfold tsB at hb
      rw [hT] at hb
      simpa using hb
    refine (pt_truth h2 (test_of hp)).imp fun σ H Q ⟨ρ, M, F, ι, R, S, p⟩ => ?_
    have e1 : tst Φ T e ρ M = (ev Φ T e ρ M).bnd fun d M9 => _root_.L2.Dv.R.of (truD M9 d) M9 := by
      unfold tst
      rw [hT]
      rfl
    rw [e1] at p
    obtain ⟨ρ1, M1, F1, ι1, R1, S1, p1⟩ := step (rel := Rp W) (Wx := Wx) R S p
    refine ⟨ρ1, M1, F1, ι1, R1, S1, p1.imp fun v H2 ⟨M2, F2, ι2, d, R2, S2, g2, r2, p2⟩ => ?_⟩
    cases et : truD M2 d with
    | none => rw [et] at p2; exact p2.elim
    | some b =>
      rw [et] at p2
      exact ⟨b, tru_v hK R2 r2 et, p2 _ _ _ _ R2 Grow.refl rfl⟩
/-- what is walked, by its value -/
theorem wlk_of {Wx : WX} {X : Cx} (hK : X.K = W.K) {e : E} {x t : Expr} (h1 : isIt e = true → PI X t x (tG W Wx (relI W) (evI Φ T e))) (h2 : PE X x (tG W Wx (Rp W) (ev Φ T e))) : PI X t x (tG W Wx (relI W) (wlk Φ T e)) := by
  cases hT : isIt e with
  | true =>
    have e1 : wlk Φ T e = evI Φ T e := by
      funext ρ M
      unfold wlk
      rw [hT]
      rfl
    rw [e1]
    exact h1 hT
  | false =>
    refine (pi_val h2).imp fun σ H Q ⟨ρ, M, F, ι, R, S, p⟩ => ?_
    have e1 : wlk Φ T e ρ M = (ev Φ T e ρ M).bnd fun d M9 => _root_.L2.Dv.R.of (itD M9 d) M9 := by
      unfold wlk
      rw [hT]
      rfl
    rw [e1] at p
    obtain ⟨ρ1, M1, F1, ι1, R1, S1, p1⟩ := step (rel := Rp W) (Wx := Wx) R S p
    refine ⟨ρ1, M1, F1, ι1, R1, S1, p1.imp fun v H2 ⟨M2, F2, ι2, d, R2, S2, g2, r2, p2⟩ => ?_⟩
    cases et : itD M2 d with
    | none => rw [et] at p2; exact p2.elim
    | some ds =>
      rw [et] at p2
      have fin : ∀ J, JOk W F2 ι2 J ds → Q J H2 := fun J j => p2 J _ _ _ R2 Grow.refl j
      cases r2 with
      | lst a1 a2 =>
        cases et
        exact .inr (.inl ⟨_, _, rfl, SqL.of (R2.sub _ _ a1), by rw [hK]; exact fin _ (jok_list (SqL.of a1) a2)⟩)
      | ro a1 a2 =>
        cases et
        exact .inr (.inl ⟨_, _, rfl, by rw [hK]; exact R2.sub.seq a1, by rw [hK]; exact fin _ (jok_list a1 a2)⟩)
      | tup a1 a2 =>
        cases et
        exact .inr (.inr ⟨_, _, rfl, by rw [hK]; exact Same.seqT R2.sub a1, by rw [hK]; exact fin _ (jok_tup a1 a2)⟩)
      | str y =>
        cases et
        exact .inl ⟨_, rfl, fin _ (jok_str y)⟩
      | _ => simp [itD] at et
end
end Dv
end L2
/-! Dv: expressions are run as the interpreter says -/
namespace L2
namespace Dv
open PySem PySem.Spec PyProof.Rows

section
variable {T : Tb} {Φ : Calls} {W : Wd} {k : Nat}
theorem pe_bad {X : Cx} {x : Expr} {t : TE} (h : ∀ σ H Q, ¬ t σ H Q) : PE X x t := ⟨fun _ _ σ H Q _ q => (h σ H Q q).elim⟩
theorem pe_blt {Wx : WX} {X : Cx} (O : Ok T Φ W k Wx X) (b : Bi) {x : Str} {p pos : Pos} {y : Expr} {ys : List Expr} {t : TA} (hx : x = Str.ofString b.nm) (hg : glB X.env.scope x = true) (ha : PA X (y :: ys) t)
    (he : starEach (y :: ys) X.env = (false, eval y X.env) :: starEach ys X.env) (hpl : (backTo pos (starEach ys X.env)).any (·.1) = false) : PE X (.Call (.Name x p) (y :: ys) [] pos) (tCB (rBlt W b) t) := by
  have hc := call_blt (X := X) O.K O.calm O.gd O.un b
  have hb := bi_boot b
  have hm : X.mg x = none := O.glo.bl x (by rw [hx]; cases b <;> decide)
  have hg' : Gl X x := gl_of hg
  subst hx
  cases b <;> first
    | exact pe_callB hc hg' hm hb ha (by decide) (by decide) he hpl
    | exact pe_callTy hc hg' hm hb ha (by decide) (by decide) he hpl
theorem Pst.bad' {α β : Type} {Wx : WXH} {rel : Hp → List Addr → β → α → Prop} {Q : β → Hp → Prop} {M : Mem} {F H : Hp} {ι : List Addr} : ¬ Pst W Wx rel Q R.bad M F H ι := id
theorem tB_of {Wx : WXH} {Q : Bool → Hp → Prop} {o : Option Bool} {M : Mem} {F H : Hp} {ι : List Addr} (R : Rel W M F H ι) (p : Pst W Wx eqB Q (_root_.L2.Dv.R.of o M) M F H ι) : ∃ b, o = some b ∧ Q b H := by
  cases o with
  | none => exact p.elim
  | some b => exact ⟨b, rfl, p _ _ _ _ R Grow.refl rfl⟩
theorem vB_of {Wx : WXH} {Q : VK} {o : Option Bool} {M : Mem} {F H : Hp} {ι : List Addr} (R : Rel W M F H ι) (p : Pst W Wx (Rp W) Q (_root_.L2.Dv.R.of (o.map .bl) M) M F H ι) : ∃ b, o = some b ∧ Q (.bl b) H := by
  cases o with
  | none => exact p.elim
  | some b => exact ⟨b, rfl, p _ _ _ _ R Grow.refl (.bl b)⟩
/-- what a method's receiver is -/
theorem rcv_ty {X : Cx} {W : Wd} {M : Mem} {F H : Hp} {ι : List Addr} (hK : X.K = W.K) (R : Rel W M F H ι) {v : V} {d : D} (r : Rp W F ι v d) :
    (rcvB .join M d = true → ∃ z, v = .str z) ∧ (rcvB .append M d = true ∨ rcvB .pop M d = true → tyV X.K "list" v H) := by
  constructor
  · intro h
    cases r with
    | str x => exact ⟨x, rfl⟩
    | _ => simp [rcvB] at h
  · intro h
    cases r with
    | @loc n a h1 =>
      have h : ∃ xs, M[n]? = some (some (.lst xs)) := by
        rcases h with h | h
        · simp only [rcvB] at h
          split at h
          · rename_i e; exact ⟨_, e⟩
          · cases h
        · simp only [rcvB] at h
          split at h
          · rename_i e; exact ⟨_, e⟩
          · cases h
      obtain ⟨xs, e⟩ := h
      obtain ⟨o, q1, q2⟩ := R.has _ _ _ h1 e
      cases q2 with
      | lst q2 => exact .inl ⟨rfl, _, SqL.of q1⟩
    | _ => simp [rcvB] at h


def EOk (T : Tb) (Φ : Calls) (W : Wd) (k : Nat) (e : E) : Prop := ∀ (X : Cx) (Wx : WX), Ok T Φ W k Wx X → ∀ {x : Expr}, chE T X.N X.env.scope e x = true → PE X x (tG W Wx (Rp W) (ev Φ T e))
def TOk (T : Tb) (Φ : Calls) (W : Wd) (k : Nat) (e : E) : Prop := ∀ (X : Cx) (Wx : WX), Ok T Φ W k Wx X → ∀ {x : Expr}, chE T X.N X.env.scope e x = true → isT e = true → PT X x (tG W Wx eqB (evT Φ T e))
def IOk (T : Tb) (Φ : Calls) (W : Wd) (k : Nat) (e : E) : Prop := ∀ (X : Cx) (Wx : WX), Ok T Φ W k Wx X → ∀ {x : Expr}, chE T X.N X.env.scope e x = true → isIt e = true → ∀ {q : Bool} {N : List Str} {sc : Scope} (tg : Tg) (t : Expr), itB e tg = true → chT q N sc tg t = true → PI X t x (tG W Wx (relI W) (evI Φ T e))
def BOk (T : Tb) (Φ : Calls) (W : Wd) (k : Nat) (es : List E) : Prop := ∀ (c : Bool) (X : Cx) (Wx : WX), Ok T Φ W k Wx X → ∀ {ys : List Expr} {o : BoolOp} {pos : Pos}, chEs T X.N X.env.scope es ys = true → (o = if c then BoolOp.And else BoolOp.Or) → PE X (.BoolOp o ys pos) (tG W Wx (Rp W) (evB Φ T c es))
def TsOk (T : Tb) (Φ : Calls) (W : Wd) (k : Nat) (es : List E) : Prop := ∀ (c : Bool) (X : Cx) (Wx : WX), Ok T Φ W k Wx X → ∀ {ys : List Expr} {o : BoolOp} {pos : Pos}, chEs T X.N X.env.scope es ys = true → tsBs es ys = true → (o = if c then BoolOp.And else BoolOp.Or) → PW X (.BoolOp o ys pos) (tG W Wx eqB (evTs Φ T c es))
def FOk (T : Tb) (Φ : Calls) (W : Wd) (k : Nat) (es : List E) : Prop := ∀ (X : Cx) (Wx : WX), Ok T Φ W k Wx X → ∀ {ys : List Expr}, chEs T X.N X.env.scope es ys = true → tsBs es ys = true → PTs X ys (tG W Wx eqB (evF Φ T es))
def AOk (T : Tb) (Φ : Calls) (W : Wd) (k : Nat) (es : List E) : Prop := ∀ (X : Cx) (Wx : WX), Ok T Φ W k Wx X → ∀ {ys : List Expr}, chEs T X.N X.env.scope es ys = true → PA X ys (tG W Wx (Rps W) (evs Φ T es))
def OOk (T : Tb) (Φ : Calls) (W : Wd) (k : Nat) (o : Option E) : Prop := ∀ (X : Cx) (Wx : WX), Ok T Φ W k Wx X → ∀ {x : Option Expr}, chO T X.N X.env.scope o x = true → PO X x (tG W Wx eqO (evO Φ T o))

theorem e_var (i : Nat) : EOk T Φ W k (.var i) := fun X Wx O x h => by
  simp only [chE] at h
  split at h
  · rename_i y e
    obtain ⟨pos, rfl⟩ := asName_eq e
    simp only [Bool.and_eq_true, decide_eq_true_eq] at h
    obtain ⟨h1, h2, h3⟩ := okn_of h.2
    refine (pe_var h.1.1 (vis_of h.1.2) h1 h2).imp fun σ H Q ⟨ρ, M, F, ι, R, S, p⟩ => ?_
    simp only [ev] at p
    split at p
    · rename_i d e
      obtain ⟨v, e1, r⟩ := S.at_ i d e
      exact ⟨v, e1, p _ _ _ _ R Grow.refl r⟩
    · exact p.elim
  · cases h
theorem e_cst (c : Const) : EOk T Φ W k (.cst c) := fun X Wx O x h => by
  simp only [chE] at h
  split at h
  · rename_i d e
    obtain ⟨j, pos, rfl⟩ := asConst_eq e
    simp only [decide_eq_true_eq] at h
    subst h
    cases c with
    | none => exact pe_non.imp fun σ H Q ⟨ρ, M, F, ι, R, S, p⟩ => p _ _ _ _ R Grow.refl .non
    | bool b => exact pe_bl.imp fun σ H Q ⟨ρ, M, F, ι, R, S, p⟩ => p _ _ _ _ R Grow.refl (.bl b)
    | int i => exact pe_int.imp fun σ H Q ⟨ρ, M, F, ι, R, S, p⟩ => p _ _ _ _ R Grow.refl (.int i)
    | str y => exact pe_str.imp fun σ H Q ⟨ρ, M, F, ι, R, S, p⟩ => p _ _ _ _ R Grow.refl (.str y)
    | _ => exact pe_bad fun σ H Q ⟨ρ, M, F, ι, R, S, p⟩ => p
  · cases h
theorem e_glo (g : Nat) : EOk T Φ W k (.glo g) := fun X Wx O x h => by
  simp only [chE] at h
  split at h
  · rename_i y e
    obtain ⟨pos, rfl⟩ := asName_eq e
    simp only [Bool.and_eq_true] at h
    obtain ⟨⟨h1, h2⟩, h3⟩ := h
    cases eg : T.gl g with
    | none => rw [eg] at h1; cases h1
    | some q =>
      obtain ⟨z, d⟩ := q
      rw [eg] at h1
      simp only [decide_eq_true_eq] at h1
      subst h1
      obtain ⟨u, v, hm, ru, rd⟩ := O.glo.gl g _ _ eg
      refine (pe_glob (gl_of h2) hm ru (okn_of h3).1).imp fun σ H Q ⟨ρ, M, F, ι, R, S, p⟩ => ?_
      simp only [ev, eg] at p
      have rd' : Rp W F ι v d := rd.mono (fun _ _ z => by cases z) (fun n a z => by simp at z)
      exact p _ _ _ _ R Grow.refl rd'
  · cases h
theorem e_bop {op : Operator} {a b : E} (ia : EOk T Φ W k a) (ib : EOk T Φ W k b) : EOk T Φ W k (.bop op a b) := fun X Wx O x h => by
  simp only [chE] at h
  split at h
  · rename_i o y z e
    obtain ⟨pos, rfl⟩ := asBin_eq e
    simp only [Bool.and_eq_true, decide_eq_true_eq] at h
    obtain ⟨⟨rfl, h1⟩, h2⟩ := h
    refine (pe_op (op_bop O.K op) (ia X Wx O h1) (ib X Wx O h2)).imp fun σ H Q ⟨ρ, M, F, ι, R, S, p⟩ => ?_
    simp only [ev] at p
    obtain ⟨ρ1, M1, F1, ι1, R1, S1, p1⟩ := step (rel := Rp W) (Wx := Wx) R S p
    refine ⟨ρ1, M1, F1, ι1, R1, S1, p1.imp fun v H2 ⟨M2, F2, ι2, d, R2, S2, g2, r2, p2⟩ => ?_⟩
    obtain ⟨ρ3, M3, F3, ι3, R3, S3, p3⟩ := step (rel := Rp W) (Wx := Wx) R2 S2 p2
    refine ⟨ρ3, M3, F3, ι3, R3, S3, p3.imp fun v2 H4 ⟨M4, F4, ι4, d4, R4, S4, g4, r4, p4⟩ => ?_⟩
    exact ⟨M4, F4, ι4, d, d4, R4, r2.mono g4.f g4.i, r4, Pok.of p4⟩
  · cases h
theorem e_neg {a : E} (ia : EOk T Φ W k a) : EOk T Φ W k (.neg a) := fun X Wx O x h => by
  simp only [chE] at h
  split at h
  · rename_i o y e
    obtain ⟨pos, rfl⟩ := asUn_eq e
    simp only [Bool.and_eq_true, decide_eq_true_eq] at h
    obtain ⟨rfl, h⟩ := h
    refine (pe_un un_neg (ia X Wx O h)).imp fun σ H Q ⟨ρ, M, F, ι, R, S, p⟩ => ?_
    simp only [ev] at p
    obtain ⟨ρ1, M1, F1, ι1, R1, S1, p1⟩ := step (rel := Rp W) (Wx := Wx) R S p
    refine ⟨ρ1, M1, F1, ι1, R1, S1, p1.imp fun v H2 ⟨M2, F2, ι2, d, R2, S2, g2, r2, p2⟩ => ?_⟩
    cases r2 with
    | int i => exact ⟨i, rfl, p2 _ _ _ _ R2 Grow.refl (.int _)⟩
    | _ => exact p2.elim
  · cases h
theorem e_boo {c : Bool} {es : List E} (i : BOk T Φ W k es) : EOk T Φ W k (.boo c es) := fun X Wx O x h => by
  simp only [chE] at h
  split at h
  · rename_i o ys e
    obtain ⟨pos, rfl⟩ := asBool_eq e
    simp only [Bool.and_eq_true, decide_eq_true_eq] at h
    obtain ⟨⟨h1, h2⟩, h3⟩ := h
    exact (i c X Wx O h2 h1).imp fun σ H Q p => by simpa only [ev] using p
  · cases h
theorem e_not {a : E} (ia : EOk T Φ W k a) : EOk T Φ W k (.not a) := fun X Wx O x h => by
  simp only [chE] at h
  split at h
  · rename_i o y e
    obtain ⟨pos, rfl⟩ := asUn_eq e
    simp only [Bool.and_eq_true, decide_eq_true_eq] at h
    obtain ⟨⟨rfl, h⟩, _⟩ := h
    refine (pe_notT (ia X Wx O h)).imp fun σ H Q ⟨ρ, M, F, ι, R, S, p⟩ => ?_
    simp only [ev] at p
    obtain ⟨ρ1, M1, F1, ι1, R1, S1, p1⟩ := step (rel := Rp W) (Wx := Wx) R S p
    refine ⟨ρ1, M1, F1, ι1, R1, S1, p1.imp fun v H2 ⟨M2, F2, ι2, d, R2, S2, g2, r2, p2⟩ => ?_⟩
    cases et : truD M2 d with
    | none => rw [et] at p2; exact p2.elim
    | some b =>
      rw [et] at p2
      exact ⟨b, tru_v O.K R2 r2 et, p2 _ _ _ _ R2 Grow.refl (.bl _)⟩
  · cases h
theorem e_cmp {op : CmpOp} {a b : E} (ia : EOk T Φ W k a) (ib : EOk T Φ W k b) : EOk T Φ W k (.cmp a op b) := fun X Wx O x h => by
  simp only [chE] at h
  split at h
  · rename_i y o z e
    obtain ⟨pos, rfl⟩ := asCmp_eq e
    simp only [Bool.and_eq_true, decide_eq_true_eq] at h
    obtain ⟨⟨⟨rfl, h1⟩, h2⟩, h3⟩ := h
    refine (pe_cmpR (op_cmp O.K O.un op) (ia X Wx O h1) (ib X Wx O h2) (in_of h3)).imp fun σ H Q ⟨ρ, M, F, ι, R, S, p⟩ => ?_
    simp only [ev] at p
    obtain ⟨ρ1, M1, F1, ι1, R1, S1, p1⟩ := step (rel := Rp W) (Wx := Wx) R S p
    refine ⟨ρ1, M1, F1, ι1, R1, S1, p1.imp fun v H2 ⟨M2, F2, ι2, d, R2, S2, g2, r2, p2⟩ => ?_⟩
    obtain ⟨ρ3, M3, F3, ι3, R3, S3, p3⟩ := step (rel := Rp W) (Wx := Wx) R2 S2 p2
    refine ⟨ρ3, M3, F3, ι3, R3, S3, p3.imp fun v2 H4 ⟨M4, F4, ι4, d4, R4, S4, g4, r4, p4⟩ => ?_⟩
    obtain ⟨c, e1, q⟩ := vB_of R4 p4
    exact ⟨M4, F4, ι4, d, d4, c, R4, r2.mono g4.f g4.i, r4, e1, q⟩
  · cases h
theorem t_cmp {op : CmpOp} {a b : E} (ia : EOk T Φ W k a) (ib : EOk T Φ W k b) : TOk T Φ W k (.cmp a op b) := fun X Wx O x h _ => by
  simp only [chE] at h
  split at h
  · rename_i y o z e
    obtain ⟨pos, rfl⟩ := asCmp_eq e
    simp only [Bool.and_eq_true, decide_eq_true_eq] at h
    obtain ⟨⟨⟨rfl, h1⟩, h2⟩, h3⟩ := h
    refine (pt_cmpR (op_cmp O.K O.un op) (ia X Wx O h1) (ib X Wx O h2) (in_of h3)).imp fun σ H Q ⟨ρ, M, F, ι, R, S, p⟩ => ?_
    simp only [evT] at p
    obtain ⟨ρ1, M1, F1, ι1, R1, S1, p1⟩ := step (rel := Rp W) (Wx := Wx) R S p
    refine ⟨ρ1, M1, F1, ι1, R1, S1, p1.imp fun v H2 ⟨M2, F2, ι2, d, R2, S2, g2, r2, p2⟩ => ?_⟩
    obtain ⟨ρ3, M3, F3, ι3, R3, S3, p3⟩ := step (rel := Rp W) (Wx := Wx) R2 S2 p2
    refine ⟨ρ3, M3, F3, ι3, R3, S3, p3.imp fun v2 H4 ⟨M4, F4, ι4, d4, R4, S4, g4, r4, p4⟩ => ?_⟩
    obtain ⟨c, e1, q⟩ := tB_of R4 p4
    exact ⟨M4, F4, ι4, d, d4, c, R4, r2.mono g4.f g4.i, r4, e1, c, rfl, q⟩
  · cases h
theorem e_chn {o1 o2 : CmpOp} {a b c : E} (ia : EOk T Φ W k a) (ib : EOk T Φ W k b) (ic : EOk T Φ W k c) : EOk T Φ W k (.chn a o1 b o2 c) := fun X Wx O x h => by
  simp only [chE] at h
  split at h
  · rename_i y q1 z q2 w e
    obtain ⟨pos, rfl⟩ := asChn_eq e
    simp only [Bool.and_eq_true, decide_eq_true_eq] at h
    obtain ⟨⟨⟨⟨⟨rfl, rfl⟩, h1⟩, h2⟩, h3⟩, h4⟩ := h
    refine (pe_chain (op_cmp O.K O.un o1) (op_cmp O.K O.un o2) (ia X Wx O h1) (ib X Wx O h2) (ic X Wx O h3) (last_of h4)).imp fun σ H Q ⟨ρ, M, F, ι, R, S, p⟩ => ?_
    simp only [ev] at p
    obtain ⟨ρ1, M1, F1, ι1, R1, S1, p1⟩ := step (rel := Rp W) (Wx := Wx) R S p
    refine ⟨ρ1, M1, F1, ι1, R1, S1, p1.imp fun v H2 ⟨M2, F2, ι2, d, R2, S2, g2, r2, p2⟩ => ?_⟩
    obtain ⟨ρ3, M3, F3, ι3, R3, S3, p3⟩ := step (rel := Rp W) (Wx := Wx) R2 S2 p2
    refine ⟨ρ3, M3, F3, ι3, R3, S3, p3.imp fun v2 H4 ⟨M4, F4, ι4, d4, R4, S4, g4, r4, p4⟩ => ?_⟩
    cases ec : cmpD M4 o1 d d4 with
    | none => rw [ec] at p4; exact p4.elim
    | some k1 =>
      rw [ec] at p4
      refine ⟨M4, F4, ι4, d, d4, k1, R4, r2.mono g4.f g4.i, r4, ec, k1, rfl, ?_⟩
      cases k1 with
      | false =>
        rw [if_neg Bool.false_ne_true]
        exact p4 _ _ _ _ R4 Grow.refl (.bl false)
      | true =>
        rw [if_pos rfl]
        obtain ⟨ρ5, M5, F5, ι5, R5, S5, p5⟩ := step (rel := Rp W) (Wx := Wx) R4 S4 p4
        refine ⟨ρ5, M5, F5, ι5, R5, S5, p5.imp fun v3 H6 ⟨M6, F6, ι6, d6, R6, S6, g6, r6, p6⟩ => ?_⟩
        obtain ⟨c', e1, q⟩ := vB_of R6 p6
        exact ⟨M6, F6, ι6, d4, d6, c', R6, r4.mono g6.f g6.i, r6, e1, q⟩
  · cases h
theorem t_chn {o1 o2 : CmpOp} {a b c : E} (ia : EOk T Φ W k a) (ib : EOk T Φ W k b) (ic : EOk T Φ W k c) : TOk T Φ W k (.chn a o1 b o2 c) := fun X Wx O x h _ => by
  simp only [chE] at h
  split at h
  · rename_i y q1 z q2 w e
    obtain ⟨pos, rfl⟩ := asChn_eq e
    simp only [Bool.and_eq_true, decide_eq_true_eq] at h
    obtain ⟨⟨⟨⟨⟨rfl, rfl⟩, h1⟩, h2⟩, h3⟩, h4⟩ := h
    refine (pt_chain (op_cmp O.K O.un o1) (op_cmp O.K O.un o2) (ia X Wx O h1) (ib X Wx O h2) (ic X Wx O h3) (last_of h4)).imp fun σ H Q ⟨ρ, M, F, ι, R, S, p⟩ => ?_
    simp only [evT] at p
    obtain ⟨ρ1, M1, F1, ι1, R1, S1, p1⟩ := step (rel := Rp W) (Wx := Wx) R S p
    refine ⟨ρ1, M1, F1, ι1, R1, S1, p1.imp fun v H2 ⟨M2, F2, ι2, d, R2, S2, g2, r2, p2⟩ => ?_⟩
    obtain ⟨ρ3, M3, F3, ι3, R3, S3, p3⟩ := step (rel := Rp W) (Wx := Wx) R2 S2 p2
    refine ⟨ρ3, M3, F3, ι3, R3, S3, p3.imp fun v2 H4 ⟨M4, F4, ι4, d4, R4, S4, g4, r4, p4⟩ => ?_⟩
    cases ec : cmpD M4 o1 d d4 with
    | none => rw [ec] at p4; exact p4.elim
    | some k1 =>
      rw [ec] at p4
      refine ⟨M4, F4, ι4, d, d4, k1, R4, r2.mono g4.f g4.i, r4, ec, k1, rfl, ?_⟩
      cases k1 with
      | false =>
        rw [if_neg Bool.false_ne_true]
        exact ⟨false, rfl, p4 _ _ _ _ R4 Grow.refl rfl⟩
      | true =>
        rw [if_pos rfl]
        obtain ⟨ρ5, M5, F5, ι5, R5, S5, p5⟩ := step (rel := Rp W) (Wx := Wx) R4 S4 p4
        refine ⟨ρ5, M5, F5, ι5, R5, S5, p5.imp fun v3 H6 ⟨M6, F6, ι6, d6, R6, S6, g6, r6, p6⟩ => ?_⟩
        obtain ⟨c', e1, q⟩ := tB_of R6 p6
        exact ⟨M6, F6, ι6, d4, d6, c', R6, r4.mono g6.f g6.i, r6, e1, c', rfl, q⟩
  · cases h
theorem e_ife {t a b : E} (tt : TOk T Φ W k t) (it : EOk T Φ W k t) (ia : EOk T Φ W k a) (ib : EOk T Φ W k b) : EOk T Φ W k (.ife t a b) := fun X Wx O x h => by
  simp only [chE] at h
  split at h
  · rename_i y z w e
    obtain ⟨pos, rfl⟩ := asIf_eq e
    simp only [Bool.and_eq_true] at h
    obtain ⟨⟨⟨⟨⟨h1, h2⟩, h3⟩, h4⟩, h5⟩, h6⟩ := h
    refine (pe_ifExp (tst_of O.K h4 (fun ht => tt X Wx O h1 ht) (it X Wx O h1)) (ia X Wx O h2) (ib X Wx O h3)).imp fun σ H Q ⟨ρ, M, F, ι, R, S, p⟩ => ?_
    simp only [ev] at p
    obtain ⟨ρ1, M1, F1, ι1, R1, S1, p1⟩ := step (rel := eqB) (Wx := Wx) (r := tst Φ T t) R S p
    refine ⟨ρ1, M1, F1, ι1, R1, S1, p1.imp fun v H2 ⟨M2, F2, ι2, d, R2, S2, g2, r2, p2⟩ => ?_⟩
    cases r2
    cases v with
    | true => rw [if_pos rfl] at p2 ⊢; exact ⟨ρ, M2, F2, ι2, R2, S2, p2⟩
    | false => rw [if_neg Bool.false_ne_true] at p2 ⊢; exact ⟨ρ, M2, F2, ι2, R2, S2, p2⟩
  · cases h
theorem e_tup {es : List E} (i : AOk T Φ W k es) : EOk T Φ W k (.tup es) := fun X Wx O x h => by
  simp only [chE] at h
  split at h
  · rename_i ys e
    obtain ⟨j, pos, rfl⟩ := asTup_eq e
    refine (pe_tup (i X Wx O h)).imp fun σ H Q ⟨ρ, M, F, ι, R, S, p⟩ => ?_
    simp only [ev] at p
    obtain ⟨ρ1, M1, F1, ι1, R1, S1, p1⟩ := step (rel := Rps W) (Wx := Wx) R S p
    refine ⟨ρ1, M1, F1, ι1, R1, S1, p1.imp fun vs H2 ⟨M2, F2, ι2, ds, R2, S2, g2, r2, p2⟩ => ?_⟩
    split at p2
    · rename_i hl
      exact ⟨by rw [r2.length]; exact hl, Pok.newT (M := M2) (ι := ι2) p2 R2 r2⟩
    · exact p2.elim
  · cases h
theorem e_lst {fz : Bool} {es : List E} (i : AOk T Φ W k es) : EOk T Φ W k (.lst fz es) := fun X Wx O x h => by
  simp only [chE] at h
  split at h
  · rename_i ys e
    obtain ⟨pos, rfl⟩ := asLst_eq e
    refine (pe_lst (i X Wx O h)).imp fun σ H Q ⟨ρ, M, F, ι, R, S, p⟩ => ?_
    simp only [ev] at p
    obtain ⟨ρ1, M1, F1, ι1, R1, S1, p1⟩ := step (rel := Rps W) (Wx := Wx) R S p
    refine ⟨ρ1, M1, F1, ι1, R1, S1, p1.imp fun vs H2 ⟨M2, F2, ι2, ds, R2, S2, g2, r2, p2⟩ => ?_⟩
    exact mkL_end R2 r2 p2
  · cases h
theorem e_dis {fz : Bool} {ks vs : List E} : EOk T Φ W k (.dis fz ks vs) := fun X Wx O x h => by
  simp only [chE, Bool.and_eq_true, List.isEmpty_iff] at h
  obtain ⟨⟨rfl, rfl⟩, h⟩ := h
  obtain ⟨pos, rfl⟩ := asDict0_eq h
  refine pe_dnewK.imp fun σ H Q ⟨ρ, M, F, ι, R, S, p⟩ => ?_
  simp only [ev] at p
  exact fun q hq => p _ _ _ ι (R.frozen hq) (Grow.frozen R hq) (.dic upd_same .nil .nil)
theorem e_lc {fz : Bool} {elt : E} {tg : Tg} {it : E} {ifs : List E} {own : List Nat} (jt : IOk T Φ W k it) (et : EOk T Φ W k it) (fs : FOk T Φ W k ifs) (ee : EOk T Φ W k elt) : EOk T Φ W k (.lc fz elt tg it ifs own) := fun X Wx O x h => by
  simp only [chE] at h
  split at h
  · rename_i y t i fss scope e
    obtain ⟨pos, rfl⟩ := asComp_eq e
    simp only [Bool.and_eq_true] at h
    obtain ⟨⟨⟨⟨⟨⟨⟨⟨h1, h2⟩, h3⟩, h4⟩, h5⟩, h6⟩, h7⟩, h8⟩, h9⟩ := h
    have hix : ∀ j ∈ tg.ix, j ∈ own := fun j hj => by
      have := List.all_eq_true.mp h5 j hj
      simpa using this
    have hown : (ownN X.N own).map (·.2) = own := by
      unfold ownN
      rw [List.map_map]
      show own.map (fun i => i) = own
      exact List.map_id' own
    have z := pe_lc (X := X) (elt := y) (tg := t) (iter := i) (ifs := fss) (scope := scope) (own := ownN X.N own) (pos := pos) (wi := tG W Wx (relI W) (wlk Φ T it)) (g := gT W tg) (tt := tG W WX0 eqB (evF Φ T ifs)) (te := tG W WX0 (Rp W) (ev Φ T elt)) O.calm O.nd
      (wlk_of O.K (fun hi => jt X Wx O h2 hi tg t h8 h4) (et X Wx O h2)) (blkOk_by h1)
      (fun s H C cl fp => pg_T (X := X.blk s H scope (compEnvC scope cl C X.env) fp) O.K O.nd O.calm (fun z => by cases z) tg h4)
      (fun s H C cl fp => fs _ WX0 (O.blk s H scope C cl fp) h6 h7)
      (fun s H C cl fp => ee _ WX0 (O.blk s H scope C cl fp) h9) (set_of h3)
    rw [hown] at z
    refine z.imp fun σ H Q ⟨ρ, M, F, ι, R, S, p⟩ => ?_
    simp only [ev] at p
    obtain ⟨ρ1, M1, F1, ι1, R1, S1, p1⟩ := step (rel := relI W) (Wx := Wx) (r := wlk Φ T it) R S p
    refine ⟨ρ1, M1, F1, ι1, R1, S1, p1.imp fun J H2 ⟨M2, F2, ι2, ds, R2, S2, g2, r2, p2⟩ => ?_⟩
    exact lc_read hix R2 S2 r2 p2
  · cases h
theorem e_call {f : Nat} {es : List E} (i : AOk T Φ W k es) : EOk T Φ W k (.call f es) := fun X Wx O x h => by
  simp only [chE] at h
  split at h
  · rename_i z ys e
    obtain ⟨p0, pos, rfl⟩ := asCall_eq e
    simp only [Bool.and_eq_true] at h
    obtain ⟨⟨⟨⟨h1, h2⟩, h3⟩, h4⟩, h5⟩ := h
    cases ef : T.fn f with
    | none => rw [ef] at h1; cases h1
    | some fe =>
      rw [ef] at h1
      simp only [decide_eq_true_eq] at h1
      subst h1
      obtain ⟨a, fd, q1, q2, q3, q4⟩ := O.glo.fn f fe ef
      rw [← O.K] at q2 q3 q4
      cases es with
      | nil => cases h4
      | cons e1 es' =>
        cases ys with
        | nil => simp [chEs] at h5
        | cons y ys =>
          have h5' := h5
          simp only [chEs, Bool.and_eq_true] at h5'
          obtain ⟨g1, g2, g3⟩ := plain_args (env := X.env) (pos := pos) h5'.2
          refine (pe_callG (E := WE Wx) q4 O.room O.gd (gl_of h2) q1 q2 q3 (fun σ => passAt O.tk σ) (i X Wx O h5) (okn_of h3).1 (star_cons (noStar_of h5'.1)) g1).imp fun σ H Q ⟨ρ, M, F, ι, R, S, p⟩ => ?_
          simp only [ev] at p
          obtain ⟨ρ1, M1, F1, ι1, R1, S1, p1⟩ := step (rel := Rps W) (Wx := Wx) R S p
          refine ⟨ρ1, M1, F1, ι1, R1, S1, p1.imp fun vs H2 ⟨M2, F2, ι2, ds, R2, S2, g2, r2, p2⟩ => ?_⟩
          exact ⟨M2, F2, ι2, ds, R2, r2, p2⟩
  · cases h
theorem e_blt {b : Bi} {es : List E} (i : AOk T Φ W k es) : EOk T Φ W k (.blt b es) := fun X Wx O x h => by
  simp only [chE] at h
  split at h
  · rename_i z ys e
    obtain ⟨p0, pos, rfl⟩ := asCall_eq e
    simp only [Bool.and_eq_true, decide_eq_true_eq] at h
    obtain ⟨⟨⟨h1, h2⟩, h4⟩, h5⟩ := h
    cases es with
    | nil => cases h4
    | cons e1 es' =>
      cases ys with
      | nil => simp [chEs] at h5
      | cons y ys =>
        have h5' := h5
        simp only [chEs, Bool.and_eq_true] at h5'
        obtain ⟨g1, g2, g3⟩ := plain_args (env := X.env) (pos := pos) h5'.2
        refine (pe_blt O b h1 h2 (i X Wx O h5) (star_cons (noStar_of h5'.1)) g1).imp fun σ H Q ⟨ρ, M, F, ι, R, S, p⟩ => ?_
        simp only [ev] at p
        obtain ⟨ρ1, M1, F1, ι1, R1, S1, p1⟩ := step (rel := Rps W) (Wx := Wx) R S p
        refine ⟨ρ1, M1, F1, ι1, R1, S1, p1.imp fun vs H2 ⟨M2, F2, ι2, ds, R2, S2, g2, r2, p2⟩ => ?_⟩
        exact ⟨_, M2, F2, ι2, ds, R2, r2, p2⟩
  · cases h
end
end Dv
end L2
/-! Dv: expressions, the other half -/
namespace L2
namespace Dv
open PySem PySem.Spec PyProof.Rows

section
variable {T : Tb} {Φ : Calls} {W : Wd} {k : Nat}
/-! ### methods -/
theorem mth_run {X : Cx} {Wx : WX} {m : Me} {o : E} {es : List E} (hK : X.K = W.K) (Ty : String) (hT : ∀ (M : Mem) (F H : Hp) (ι : List Addr) (v : V) (d : D), Rel W M F H ι → Rp W F ι v d → rcvB m M d = true → tyV X.K Ty v H)
    (σ : L2.St) (H : Hp) (Q : VK) : tG W Wx (Rp W) (ev Φ T (.mth m o es)) σ H Q → tBM X.K Ty (rMth W m) (tG W Wx (Rp W) (ev Φ T o)) (tG W Wx (Rps W) (evs Φ T es)) σ H Q := fun ⟨ρ, M, F, ι, R, S, p⟩ => by
  simp only [ev] at p
  obtain ⟨ρ1, M1, F1, ι1, R1, S1, p1⟩ := step (rel := Rp W) (Wx := Wx) R S p
  refine ⟨ρ1, M1, F1, ι1, R1, S1, p1.imp fun v H2 ⟨M2, F2, ι2, d, R2, S2, g2, r2, p2⟩ => ?_⟩
  split at p2
  · rename_i hc
    refine ⟨hT _ _ _ _ _ _ R2 r2 hc, ?_⟩
    obtain ⟨ρ3, M3, F3, ι3, R3, S3, p3⟩ := step (rel := Rps W) (Wx := Wx) R2 S2 p2
    exact ⟨ρ3, M3, F3, ι3, R3, S3, p3.imp fun vs H4 ⟨M4, F4, ι4, ds, R4, S4, g4, r4, p4⟩ => ⟨_, M4, F4, ι4, d, ds, R4, r2.mono g4.f g4.i, r4, p4⟩⟩
  · exact p2.elim
theorem mth_run0 {X : Cx} {Wx : WX} {m : Me} {o : E} (hK : X.K = W.K) (Ty : String) (hT : ∀ (M : Mem) (F H : Hp) (ι : List Addr) (v : V) (d : D), Rel W M F H ι → Rp W F ι v d → rcvB m M d = true → tyV X.K Ty v H)
    (σ : L2.St) (H : Hp) (Q : VK) : tG W Wx (Rp W) (ev Φ T (.mth m o [])) σ H Q → tBM0 X.K Ty (rMth W m) (tG W Wx (Rp W) (ev Φ T o)) σ H Q := fun ⟨ρ, M, F, ι, R, S, p⟩ => by
  simp only [ev, evs] at p
  obtain ⟨ρ1, M1, F1, ι1, R1, S1, p1⟩ := step (rel := Rp W) (Wx := Wx) R S p
  refine ⟨ρ1, M1, F1, ι1, R1, S1, p1.imp fun v H2 ⟨M2, F2, ι2, d, R2, S2, g2, r2, p2⟩ => ?_⟩
  split at p2
  · rename_i hc
    exact ⟨hT _ _ _ _ _ _ R2 r2 hc, _, M2, F2, ι2, d, [], R2, r2, .nil, p2⟩
  · exact p2.elim
theorem mth_few {N : List Str} {sc : Scope} {env : Env} {pos : Pos} {es : List E} {ys : List Expr} (h5 : chEs T N sc es ys = true) (h6 : es.length < 20) :
    ((backTo pos (starEach ys env)).all (fun x => !x.1) && (backToKw pos (keywordEach [] env)).all (fun x => x.1.isSome)
      && decide (ys.length + ([] : List Keyword).length + (if ([] : List Keyword).isEmpty then 0 else 1) < 30)) = true := by
  obtain ⟨_, g2, g3⟩ := plain_args (env := env) (pos := pos) h5
  rw [g2]
  have : decide (ys.length + ([] : List Keyword).length + (if ([] : List Keyword).isEmpty then 0 else 1) < 30) = true := by
    apply decide_eq_true
    simp only [List.length_nil, List.isEmpty_nil, if_true]
    omega
  rw [this]
  rfl
theorem e_mth {m : Me} {o : E} {es : List E} (io : EOk T Φ W k o) (i : AOk T Φ W k es) : EOk T Φ W k (.mth m o es) := fun X Wx O x h => by
  simp only [chE] at h
  split at h
  · rename_i y n ys e
    obtain ⟨ap, pos, rfl, hl⟩ := asMeth_eq e
    simp only [Bool.and_eq_true, decide_eq_true_eq] at h
    obtain ⟨⟨⟨⟨rfl, h3⟩, h4⟩, h5⟩, h6⟩ := h
    have hb : attributeBase y (Str.ofString m.nm) X.env (eval y X.env) = eval y X.env := sup_of h4
    have ho := io X Wx O h3
    have ha := i X Wx O h5
    cases es with
    | nil =>
      cases ys with
      | cons _ _ => simp [chEs] at h5
      | nil =>
        cases m <;> first
          | (exfalso; revert h6; decide)
          | exact (pe_bm0 PySem.F.plainAttrs_list PySem.F.slot_list_pop PySem.F.type_list_pop mt_pops ho hb hl).imp (mth_run0 O.K "list" fun M F H ι v d R r c => (rcv_ty O.K R r).2 (.inr c))
    | cons e1 es' =>
      cases ys with
      | nil => simp [chEs] at h5
      | cons y0 ys' =>
        have hlen : (e1 :: es').length < 20 := by
          cases es' with
          | nil => simp
          | cons _ _ => exfalso; revert h6; cases m <;> simp [mthB]
        have h5' := h5
        simp only [chEs, Bool.and_eq_true] at h5'
        obtain ⟨g1, _, _⟩ := plain_args (env := X.env) (pos := pos) h5'.2
        have few := mth_few (env := X.env) (pos := pos) h5 hlen
        cases m <;> first
          | (exfalso; revert h6; cases es' <;> simp [mthB]; done)
          | exact (pe_bm PySem.F.plainAttrs_list PySem.F.slot_list_append PySem.F.type_list_append mt_app ho ha hb few hl (star_cons (noStar_of h5'.1)) g1).imp (mth_run O.K "list" fun M F H ι v d R r c => (rcv_ty O.K R r).2 (.inl c))
          | exact (pe_bm PySem.F.plainAttrs_list PySem.F.slot_list_pop PySem.F.type_list_pop mt_pops ho ha hb few hl (star_cons (noStar_of h5'.1)) g1).imp (mth_run O.K "list" fun M F H ι v d R r c => (rcv_ty O.K R r).2 (.inr c))
          | exact (pe_bm PySem.F.plainAttrs_str PySem.F.slot_str_join PySem.F.type_str_join (mt_joinW O.K) ho ha hb few hl (star_cons (noStar_of h5'.1)) g1).imp (mth_run O.K "str" fun M F H ι v d R r c => by
              obtain ⟨z, rfl⟩ := (rcv_ty O.K R r).1 c
              exact rfl)
  · cases h
/-! ### isinstance, subscripts -/
theorem e_isi {a : E} {t : Ty} (ia : EOk T Φ W k a) : EOk T Φ W k (.isi a t) := fun X Wx O x h => by
  cases t with
  | own c => simp [chE] at h
  | bt n =>
    simp only [chE] at h
    split at h
    · rename_i y z t e
      obtain ⟨p0, pos, rfl⟩ := asCall_eq e
      simp only [Bool.and_eq_true, decide_eq_true_eq] at h
      obtain ⟨⟨rfl, h2⟩, h3⟩ := h
      split at h3
      · rename_i t' e2
        obtain ⟨pt, rfl⟩ := asName_eq e2
        simp only [Bool.and_eq_true, decide_eq_true_eq] at h3
        obtain ⟨⟨⟨⟨⟨g1, g2⟩, g3⟩, g4⟩, g5⟩, g6⟩ := h3
        have hi : X.mg "isinstance" = none := O.glo.bl _ (by decide)
        have ht : X.mg t' = none := O.glo.bl _ (by simpa using g4)
        have pa : PA X [z, .Name t' pt] (tCons (tG W Wx (Rp W) (ev Φ T a)) (tCons (tC (.ty n)) tNil)) := pa_cons (ia X Wx O g6) (pa_cons (pe_bltn (gl_of g2) ht g5 rfl (okn_of g3).2.2 (okn_of g3).1) pa_nil) (star_cons (noStar_of g6))
        refine (pe_callB call_isi (gl_of h2) hi (by rfl) pa (by decide) (by decide) (star_cons (noStar_of g6)) (by rfl)).imp fun σ H Q ⟨ρ, M, F, ι, R, S, p⟩ => ?_
        simp only [ev] at p
        obtain ⟨ρ1, M1, F1, ι1, R1, S1, p1⟩ := step (rel := Rp W) (Wx := Wx) R S p
        refine ⟨ρ1, M1, F1, ι1, R1, S1, p1.imp fun v H2 ⟨M2, F2, ι2, d, R2, S2, g2, r2, p2⟩ => ?_⟩
        obtain ⟨b, e3, q⟩ := vB_of R2 p2
        unfold isiD at e3
        dsimp only at e3
        split at e3
        · rename_i tn e4
          exact ⟨v, .ty n, .type tn, .type n, b, rfl, .ty n, ty_x O.K R2 r2 e4, kit_ty e3, q⟩
        · cases e3
      · cases h3
    · cases h
theorem e_sub {a b : E} (ia : EOk T Φ W k a) (ib : EOk T Φ W k b) : EOk T Φ W k (.sub a b) := fun X Wx O x h => by
  simp only [chE] at h
  split at h
  · rename_i y z e
    obtain ⟨pos, rfl⟩ := asSub_eq e
    simp only [Bool.and_eq_true] at h
    obtain ⟨⟨h1, h2⟩, h3⟩ := h
    refine (pe_ix (ix_sub O.K) (ia X Wx O h1) (ib X Wx O h2) (sl_of h3)).imp fun σ H Q ⟨ρ, M, F, ι, R, S, p⟩ => ?_
    simp only [ev] at p
    obtain ⟨ρ1, M1, F1, ι1, R1, S1, p1⟩ := step (rel := Rp W) (Wx := Wx) R S p
    refine ⟨ρ1, M1, F1, ι1, R1, S1, p1.imp fun v H2 ⟨M2, F2, ι2, d, R2, S2, g2, r2, p2⟩ => ?_⟩
    obtain ⟨ρ3, M3, F3, ι3, R3, S3, p3⟩ := step (rel := Rp W) (Wx := Wx) R2 S2 p2
    refine ⟨ρ3, M3, F3, ι3, R3, S3, p3.imp fun v2 H4 ⟨M4, F4, ι4, d4, R4, S4, g4, r4, p4⟩ => ?_⟩
    exact ⟨M4, F4, ι4, d, d4, R4, r2.mono g4.f g4.i, r4, Pok.of p4⟩
  · cases h
theorem e_slc {o : E} {lo hi : Option E} (io : EOk T Φ W k o) (il : OOk T Φ W k lo) (ih : OOk T Φ W k hi) : EOk T Φ W k (.slc o lo hi) := fun X Wx O x h => by
  simp only [chE] at h
  split at h
  · rename_i y z e
    obtain ⟨pos, rfl⟩ := asSub_eq e
    simp only [Bool.and_eq_true] at h
    obtain ⟨h1, h2⟩ := h
    split at h2
    · rename_i l u e2
      obtain ⟨p2, rfl⟩ := asSlc_eq e2
      simp only [Bool.and_eq_true] at h2
      refine (pe_slice (sl_slc O.K) (io X Wx O h1) (il X Wx O h2.1) (ih X Wx O h2.2)).imp fun σ H Q ⟨ρ, M, F, ι, R, S, p⟩ => ?_
      simp only [ev] at p
      obtain ⟨ρ1, M1, F1, ι1, R1, S1, p1⟩ := step (rel := Rp W) (Wx := Wx) R S p
      refine ⟨ρ1, M1, F1, ι1, R1, S1, p1.imp fun v H2 ⟨M2, F2, ι2, d, R2, S2, g2, r2, p2⟩ => ?_⟩
      obtain ⟨ρ3, M3, F3, ι3, R3, S3, p3⟩ := step (rel := eqO) (Wx := Wx) R2 S2 p2
      refine ⟨ρ3, M3, F3, ι3, R3, S3, p3.imp fun v2 H4 ⟨M4, F4, ι4, d4, R4, S4, g4, r4, p4⟩ => ?_⟩
      obtain ⟨ρ5, M5, F5, ι5, R5, S5, p5⟩ := step (rel := eqO) (Wx := Wx) R4 S4 p4
      refine ⟨ρ5, M5, F5, ι5, R5, S5, p5.imp fun v3 H6 ⟨M6, F6, ι6, d6, R6, S6, g6, r6, p6⟩ => ?_⟩
      cases r4
      cases r6
      exact ⟨M6, F6, ι6, d, R6, (r2.mono g4.f g4.i).mono g6.f g6.i, Pok.of p6⟩
    · cases h2
  · cases h
theorem e_rev {o : E} (io : EOk T Φ W k o) : EOk T Φ W k (.rev o) := fun X Wx O x h => by
  simp only [chE] at h
  split at h
  · rename_i y z e
    obtain ⟨pos, rfl⟩ := asSub_eq e
    simp only [Bool.and_eq_true] at h
    obtain ⟨h1, h2⟩ := h
    obtain ⟨j, p1, p2, p3, rfl⟩ := asBack_eq h2
    refine (pe_revW (io X Wx O h1)).imp fun σ H Q ⟨ρ, M, F, ι, R, S, p⟩ => ?_
    simp only [ev] at p
    obtain ⟨ρ1, M1, F1, ι1, R1, S1, p1⟩ := step (rel := Rp W) (Wx := Wx) R S p
    refine ⟨ρ1, M1, F1, ι1, R1, S1, p1.imp fun v H2 ⟨M2, F2, ι2, d, R2, S2, g2, r2, p2⟩ => ?_⟩
    rw [O.K]
    have fin : ∀ (d : D) (xs : List D), lstD M2 d = some xs → Rp W F2 ι2 v d → Pst W (fun c d H' => Wx c d σ H') (Rp W) Q (.ok (.lst xs.reverse) M2) M2 F2 H2 ι2 → (∃ a vs, v = .ref a ∧ SqL W.K H2 a vs ∧ ∀ p, H2 p = none → Q (.ref p) (upd H2 p (.lst vs.reverse))) := fun d xs e r p => by
      obtain ⟨a, vs, rfl, h1, h2⟩ := lst_at R2 r e
      exact ⟨a, vs, rfl, SqL.of h1, Pok.newL (M := M2) (ι := ι2) p R2 h2.reverse⟩
    cases r2 with
    | tup a1 a2 => exact .inr ⟨_, _, rfl, Same.seqT R2.sub a1, Pok.newT (M := M2) (ι := ι2) p2 R2 a2.reverse⟩
    | lst a1 a2 => exact .inl (fin _ _ rfl (.lst a1 a2) p2)
    | @loc n a a1 =>
      cases el : lstD M2 (.loc n) with
      | none => simp only [el] at p2; exact p2.elim
      | some xs => simp only [el] at p2; exact .inl (fin _ _ el (.loc a1) p2)
    | _ => exact p2.elim
  · cases h
/-! ### lists of arguments, and the rest -/
theorem a_nil : AOk T Φ W k [] := fun X Wx O ys h => by
  cases ys with
  | cons _ _ => simp [chEs] at h
  | nil => exact pa_nil.imp fun σ H Q ⟨ρ, M, F, ι, R, S, p⟩ => p [] _ _ _ R Grow.refl .nil
theorem a_cons {e : E} {es : List E} (ie : EOk T Φ W k e) (ies : AOk T Φ W k es) : AOk T Φ W k (e :: es) := fun X Wx O ys h => by
  cases ys with
  | nil => simp [chEs] at h
  | cons y ys =>
    simp only [chEs, Bool.and_eq_true] at h
    refine (pa_cons (ie X Wx O h.1) (ies X Wx O h.2) (star_cons (noStar_of h.1))).imp fun σ H Q ⟨ρ, M, F, ι, R, S, p⟩ => ?_
    have p : Pst W (fun c d H' => Wx c d σ H') (Rps W) Q ((ev Φ T e ρ M).bnd fun x M1 => (evs Φ T es ρ M1).bnd fun xs M2 => .ok (x :: xs) M2) M F H ι := by
      exact p
    obtain ⟨ρ1, M1, F1, ι1, R1, S1, p1⟩ := step (rel := Rp W) (Wx := Wx) R S p
    refine ⟨ρ1, M1, F1, ι1, R1, S1, p1.imp fun v H2 ⟨M2, F2, ι2, d, R2, S2, g2, r2, p2⟩ => ?_⟩
    obtain ⟨ρ3, M3, F3, ι3, R3, S3, p3⟩ := step (rel := Rps W) (Wx := Wx) R2 S2 p2
    refine ⟨ρ3, M3, F3, ι3, R3, S3, p3.imp fun vs H4 ⟨M4, F4, ι4, ds, R4, S4, g4, r4, p4⟩ => ?_⟩
    exact p4 _ _ _ _ R4 Grow.refl (.cons (r2.mono g4.f g4.i) r4)
theorem o_none : OOk T Φ W k none := fun X Wx O x h => by
  cases x with
  | some _ => simp [chO] at h
  | none => exact po_none.imp fun σ H Q ⟨ρ, M, F, ι, R, S, p⟩ => p none _ _ _ R Grow.refl rfl
theorem o_some {e : E} (ie : EOk T Φ W k e) : OOk T Φ W k (some e) := fun X Wx O x h => by
  cases x with
  | none => simp [chO] at h
  | some y =>
    simp only [chO] at h
    refine (po_some (ie X Wx O h)).imp fun σ H Q ⟨ρ, M, F, ι, R, S, p⟩ => ?_
    simp only [evO] at p
    obtain ⟨ρ1, M1, F1, ι1, R1, S1, p1⟩ := step (rel := Rp W) (Wx := Wx) R S p
    refine ⟨ρ1, M1, F1, ι1, R1, S1, p1.imp fun v H2 ⟨M2, F2, ι2, d, R2, S2, g2, r2, p2⟩ => ?_⟩
    cases r2 with
    | int i => exact ⟨i, rfl, p2 _ _ _ _ R2 Grow.refl rfl⟩
    | _ => exact p2.elim
theorem b_nil : BOk T Φ W k [] := fun c X Wx O ys o pos h e => pe_bad fun σ H Q ⟨ρ, M, F, ι, R, S, p⟩ => p
theorem b_one {a : E} (ia : EOk T Φ W k a) : BOk T Φ W k [a] := fun c X Wx O ys o pos h e => by
  match ys, h with
  | [y], h =>
    simp only [chEs, Bool.and_eq_true] at h
    exact (pe_one (ia X Wx O h.1)).imp fun σ H Q p => p
  | [], h => simp [chEs] at h
  | _ :: _ :: _, h => simp [chEs] at h
theorem b_cons {a b : E} {es : List E} (ia : EOk T Φ W k a) (ib : BOk T Φ W k (b :: es)) : BOk T Φ W k (a :: b :: es) := fun c X Wx O ys o pos h e => by
  match ys, h with
  | y :: z :: ys, h =>
    have h' := h
    rw [chEs, Bool.and_eq_true] at h'
    obtain ⟨h1, h2⟩ := h'
    have key : ∀ σ H Q, tG W Wx (Rp W) (evB Φ T c (a :: b :: es)) σ H Q → tG W Wx (Rp W) (ev Φ T a) σ H fun x H1 => ∃ t, TruV X.K x H1 t ∧ if t = c then tG W Wx (Rp W) (evB Φ T c (b :: es)) σ H1 Q else Q x H1 := fun σ H Q ⟨ρ, M, F, ι, R, S, p⟩ => by
      rw [evB] at p
      · obtain ⟨ρ1, M1, F1, ι1, R1, S1, p1⟩ := step (rel := Rp W) (Wx := Wx) R S p
        refine ⟨ρ1, M1, F1, ι1, R1, S1, p1.imp fun v H2 ⟨M2, F2, ι2, d, R2, S2, g2, r2, p2⟩ => ?_⟩
        split at p2
        · rename_i t et
          refine ⟨t, tru_v O.K R2 r2 et, ?_⟩
          split at p2
          · rename_i e1
            rw [if_pos e1]
            exact ⟨ρ, M2, F2, ι2, R2, S2, p2⟩
          · rename_i e1
            rw [if_neg e1]
            exact p2 _ _ _ _ R2 Grow.refl r2
        · exact p2.elim
      · simp
    cases c with
    | true =>
      subst e
      refine (pe_andT (ia X Wx O h1) (ib true X Wx O (o := .And) h2 rfl)).imp fun σ H Q p => ?_
      exact key σ H Q p
    | false =>
      subst e
      refine (pe_orT (ia X Wx O h1) (ib false X Wx O (o := .Or) h2 rfl)).imp fun σ H Q p => ?_
      obtain ⟨ρ, M, F, ι, R, S, p⟩ := key σ H Q p
      refine ⟨ρ, M, F, ι, R, S, p.imp fun v H2 ⟨t, h1, h2⟩ => ⟨t, h1, ?_⟩⟩
      cases t with
      | true => rw [if_neg Bool.noConfusion] at h2; rw [if_pos rfl]; exact h2
      | false => rw [if_pos rfl] at h2; rw [if_neg Bool.noConfusion]; exact h2
  | [], h => simp [chEs] at h
  | [_], h => simp [chEs] at h
theorem x_nil : TsOk T Φ W k [] := fun c X Wx O ys o pos h hb e => ⟨fun _ _ _ σ H Q _ ⟨ρ, M, F, ι, R, S, p⟩ => (show False from p).elim⟩
theorem x_one {a : E} (ta : TOk T Φ W k a) (ia : EOk T Φ W k a) : TsOk T Φ W k [a] := fun c X Wx O ys o pos h hb e => by
  match ys, h, hb with
  | [y], h, hb =>
    simp only [chEs, Bool.and_eq_true] at h
    simp only [tsBs, Bool.and_eq_true] at hb
    have z : PT X y (tG W Wx eqB (tst Φ T a)) := tst_of O.K hb.1 (fun ht => ta X Wx O h.1 ht) (ia X Wx O h.1)
    subst e
    cases c with
    | true => exact (pw_and1 z).imp fun σ H Q p => p
    | false => exact (pw_or1 z).imp fun σ H Q p => p
  | [], h, _ => simp [chEs] at h
  | _ :: _ :: _, h, _ => simp [chEs] at h
theorem x_cons {a b : E} {es : List E} (ta : TOk T Φ W k a) (ia : EOk T Φ W k a) (ib : TsOk T Φ W k (b :: es)) : TsOk T Φ W k (a :: b :: es) := fun c X Wx O ys o pos h hb e => by
  match ys, h, hb with
  | y :: z :: ys, h, hb =>
    rw [chEs, Bool.and_eq_true] at h
    rw [tsBs, Bool.and_eq_true] at hb
    have zz : PT X y (tG W Wx eqB (tst Φ T a)) := tst_of O.K hb.1 (fun ht => ta X Wx O h.1 ht) (ia X Wx O h.1)
    have key : ∀ σ H Q, tG W Wx eqB (evTs Φ T c (a :: b :: es)) σ H Q → tG W Wx eqB (tst Φ T a) σ H fun t H1 => if t = c then tG W Wx eqB (evTs Φ T c (b :: es)) σ H1 Q else Q t H1 := fun σ H Q ⟨ρ, M, F, ι, R, S, p⟩ => by
      rw [evTs] at p
      · obtain ⟨ρ1, M1, F1, ι1, R1, S1, p1⟩ := step (rel := eqB) (Wx := Wx) (r := tst Φ T a) R S p
        refine ⟨ρ1, M1, F1, ι1, R1, S1, p1.imp fun v H2 ⟨M2, F2, ι2, d, R2, S2, g2, r2, p2⟩ => ?_⟩
        cases r2
        split at p2
        · rename_i e1
          rw [if_pos e1]
          exact ⟨ρ, M2, F2, ι2, R2, S2, p2⟩
        · rename_i e1
          rw [if_neg e1]
          exact p2 _ _ _ _ R2 Grow.refl rfl
      · simp
    subst e
    cases c with
    | true =>
      refine (pw_and zz (ib true X Wx O (o := .And) h.2 hb.2 rfl)).imp fun σ H Q p => ?_
      obtain ⟨ρ, M, F, ι, R, S, p⟩ := key σ H Q p
      refine ⟨ρ, M, F, ι, R, S, p.imp fun t H2 h2 => ?_⟩
      cases t with
      | true => exact h2
      | false => rw [if_neg Bool.noConfusion] at h2; exact h2
    | false =>
      refine (pw_or zz (ib false X Wx O (o := .Or) h.2 hb.2 rfl)).imp fun σ H Q p => ?_
      obtain ⟨ρ, M, F, ι, R, S, p⟩ := key σ H Q p
      refine ⟨ρ, M, F, ι, R, S, p.imp fun t H2 h2 => ?_⟩
      cases t with
      | true => rw [if_neg Bool.noConfusion] at h2; exact h2
      | false => rw [if_pos rfl] at h2; exact h2
  | [], h, _ => simp [chEs] at h
  | [_], h, _ => simp [chEs] at h
theorem t_boo {c : Bool} {es : List E} (i : TsOk T Φ W k es) : TOk T Φ W k (.boo c es) := fun X Wx O x h _ => by
  simp only [chE] at h
  split at h
  · rename_i o ys e
    obtain ⟨pos, rfl⟩ := asBool_eq e
    simp only [Bool.and_eq_true, decide_eq_true_eq] at h
    obtain ⟨⟨h1, h2⟩, h3⟩ := h
    exact (i c X Wx O h2 h3 h1).pt.imp fun σ H Q p => by simpa only [evT] using p
  · cases h
theorem t_not {a : E} (ta : TOk T Φ W k a) (ia : EOk T Φ W k a) : TOk T Φ W k (.not a) := fun X Wx O x h _ => by
  simp only [chE] at h
  split at h
  · rename_i o y e
    obtain ⟨pos, rfl⟩ := asUn_eq e
    simp only [Bool.and_eq_true, decide_eq_true_eq] at h
    obtain ⟨⟨rfl, h⟩, hb⟩ := h
    have z : PT X y (tG W Wx eqB (tst Φ T a)) := tst_of O.K hb (fun ht => ta X Wx O h ht) (ia X Wx O h)
    refine (pt_not z).imp fun σ H Q ⟨ρ, M, F, ι, R, S, p⟩ => ?_
    simp only [evT] at p
    obtain ⟨ρ1, M1, F1, ι1, R1, S1, p1⟩ := step (rel := eqB) (Wx := Wx) (r := tst Φ T a) R S p
    refine ⟨ρ1, M1, F1, ι1, R1, S1, p1.imp fun v H2 ⟨M2, F2, ι2, d, R2, S2, g2, r2, p2⟩ => ?_⟩
    cases r2
    exact p2 _ _ _ _ R2 Grow.refl rfl
  · cases h
theorem pt_ife {X : Cx} {t a b : Expr} {pos : Pos} {tt ta tb : TT} (ht : PT X t tt) (ha : PT X a ta) (hb : PT X b tb) : PT X (.IfExp t a b pos) (fun σ H Q => tt σ H fun c H1 => if c = true then ta σ H1 Q else tb σ H1 Q) := by
  refine ⟨fun pins s σ H Q I h => ?_⟩
  refine isTrue_IfExp (thn (ht.run pins s σ H _ I h) fun c s1 ⟨H1, I1, q1⟩ => ?_)
  cases c with
  | true => exact ha.run pins s1 σ H1 Q I1 q1
  | false => exact hb.run pins s1 σ H1 Q I1 q1
theorem t_ife {t a b : E} (tt : TOk T Φ W k t) (it : EOk T Φ W k t) (ta : TOk T Φ W k a) (ia : EOk T Φ W k a) (tb : TOk T Φ W k b) (ib : EOk T Φ W k b) : TOk T Φ W k (.ife t a b) := fun X Wx O x h _ => by
  simp only [chE] at h
  split at h
  · rename_i y z w e
    obtain ⟨pos, rfl⟩ := asIf_eq e
    simp only [Bool.and_eq_true] at h
    obtain ⟨⟨⟨⟨⟨h1, h2⟩, h3⟩, h4⟩, h5⟩, h6⟩ := h
    have z1 : PT X _ (tG W Wx eqB (tst Φ T t)) := tst_of O.K h4 (fun ht => tt X Wx O h1 ht) (it X Wx O h1)
    have z2 : PT X _ (tG W Wx eqB (tst Φ T a)) := tst_of O.K h5 (fun ht => ta X Wx O h2 ht) (ia X Wx O h2)
    have z3 : PT X _ (tG W Wx eqB (tst Φ T b)) := tst_of O.K h6 (fun ht => tb X Wx O h3 ht) (ib X Wx O h3)
    refine (pt_ife z1 z2 z3).imp fun σ H Q ⟨ρ, M, F, ι, R, S, p⟩ => ?_
    simp only [evT] at p
    obtain ⟨ρ1, M1, F1, ι1, R1, S1, p1⟩ := step (rel := eqB) (Wx := Wx) (r := tst Φ T t) R S p
    refine ⟨ρ1, M1, F1, ι1, R1, S1, p1.imp fun v H2 ⟨M2, F2, ι2, d, R2, S2, g2, r2, p2⟩ => ?_⟩
    cases r2
    cases v with
    | true => rw [if_pos rfl] at p2 ⊢; exact ⟨ρ, M2, F2, ι2, R2, S2, p2⟩
    | false => rw [if_neg Bool.false_ne_true] at p2 ⊢; exact ⟨ρ, M2, F2, ι2, R2, S2, p2⟩
  · cases h
theorem f_nil : FOk T Φ W k [] := fun X Wx O ys h hb => by
  cases ys with
  | cons _ _ => simp [chEs] at h
  | nil =>
    refine ⟨fun pins s σ H Q I q => pts_nil.run pins s σ H Q I ?_⟩
    obtain ⟨ρ, M, F, ι, R, S, p⟩ := q
    exact p true _ _ _ R Grow.refl rfl
theorem f_one {a : E} (ta : TOk T Φ W k a) (ia : EOk T Φ W k a) : FOk T Φ W k [a] := fun X Wx O ys h hb => by
  match ys, h, hb with
  | [y], h, hb =>
    simp only [chEs, Bool.and_eq_true] at h
    simp only [tsBs, Bool.and_eq_true] at hb
    have z : PT X y (tG W Wx eqB (tst Φ T a)) := tst_of O.K hb.1 (fun ht => ta X Wx O h.1 ht) (ia X Wx O h.1)
    exact (pts_one z).imp fun σ H Q p => p
  | [], h, _ => simp [chEs] at h
  | _ :: _ :: _, h, _ => simp [chEs] at h
theorem f_more {a b : E} {es : List E} : FOk T Φ W k (a :: b :: es) := fun X Wx O ys h hb => ⟨fun _ _ σ H Q _ ⟨ρ, M, F, ι, R, S, p⟩ => (show False from p).elim⟩
/-! ### what is walked -/
theorem i_rng {es : List E} (i : AOk T Φ W k es) : IOk T Φ W k (.rng es) := fun X Wx O x h _ q0 N sc tg t hb ht => by
  simp only [chE] at h
  split at h
  · rename_i z ys e
    obtain ⟨p0, pos, rfl⟩ := asCall_eq e
    simp only [Bool.and_eq_true, decide_eq_true_eq] at h
    obtain ⟨⟨⟨rfl, h2⟩, h4⟩, h5⟩ := h
    have hm : X.mg "range" = none := O.glo.bl _ (by decide)
    have ha := i X Wx O h5
    match es, ys, h5, ha with
    | [a], [y], h5, ha =>
      simp only [chEs, Bool.and_eq_true] at h5
      refine (pi_range1 (gl_of h2) hm ha (star_cons (noStar_of h5.1))).imp fun σ H Q ⟨ρ, M, F, ι, R, S, p⟩ => ?_
      simp only [evI] at p
      obtain ⟨ρ1, M1, F1, ι1, R1, S1, p1⟩ := step (rel := Rps W) (Wx := Wx) R S p
      refine ⟨ρ1, M1, F1, ι1, R1, S1, p1.imp fun vs H2 ⟨M2, F2, ι2, ds, R2, S2, g2, r2, p2⟩ => ?_⟩
      split at p2
      · obtain ⟨v, rfl, rv⟩ := rps1 r2
        cases rv
        split at p2
        · rename_i j hj
          exact ⟨_, rfl, hj.1, hj.2, p2 _ _ _ _ R2 Grow.refl (jok_rng 0 _)⟩
        · exact p2.elim
      · rename_i he
        exact absurd he (by simp)
      · exact p2.elim
    | [a, b], [y, z], h5, ha =>
      simp only [chEs, Bool.and_eq_true] at h5
      refine (pi_range2 (gl_of h2) hm ha (by rw [star_cons (noStar_of h5.1), star_cons (noStar_of h5.2.1)]; rfl) (star_cons (noStar_of h5.2.1))).imp fun σ H Q ⟨ρ, M, F, ι, R, S, p⟩ => ?_
      simp only [evI] at p
      obtain ⟨ρ1, M1, F1, ι1, R1, S1, p1⟩ := step (rel := Rps W) (Wx := Wx) R S p
      refine ⟨ρ1, M1, F1, ι1, R1, S1, p1.imp fun vs H2 ⟨M2, F2, ι2, ds, R2, S2, g2, r2, p2⟩ => ?_⟩
      split at p2
      · rename_i he
        exact absurd he (by simp)
      · obtain ⟨v, u, rfl, rv, ru⟩ := rps2 r2
        cases rv
        cases ru
        split at p2
        · rename_i i j _ hj
          exact ⟨_, _, rfl, hj, p2 _ _ _ _ R2 Grow.refl (jok_rng _ _)⟩
        · exact p2.elim
      · exact p2.elim
    | [], _, _, _ => simp at h4
    | _ :: _ :: _ :: _, _, _, _ => simp at h4
    | [_], [], h5, _ => simp [chEs] at h5
    | [_], _ :: _ :: _, h5, _ => simp [chEs] at h5
    | [_, _], [], h5, _ => simp [chEs] at h5
    | [_, _], [_], h5, _ => simp [chEs] at h5
    | [_, _], _ :: _ :: _ :: _, h5, _ => simp [chEs] at h5
  · cases h
theorem tup_tgt {q : Bool} {N : List Str} {sc : Scope} {ts : List Tg} {t : Expr} (h : chT q N sc (.tp ts) t = true) : ∃ es kk p, t = .Tuple es kk p := by
  cases t with
  | Tuple es kk p => exact ⟨es, kk, p, rfl⟩
  | _ => simp [chT] at h
theorem i_zip {a b : E} (ia : EOk T Φ W k a) (ib : EOk T Φ W k b) : IOk T Φ W k (.zip a b) := fun X Wx O x h _ q0 N sc tg t hb ht => by
  cases tg with
  | nm i => simp [itB] at hb
  | tp ts =>
    obtain ⟨els, kk, tpos, rfl⟩ := tup_tgt ht
    simp only [chE] at h
    split at h
    · rename_i q z w e
      obtain ⟨p0, pos, rfl⟩ := asCall_eq e
      simp only [Bool.and_eq_true, decide_eq_true_eq] at h
      obtain ⟨⟨⟨rfl, h2⟩, h4⟩, h5⟩ := h
      have hm : X.mg "zip" = none := O.glo.bl _ (by decide)
      have s2 : starEach [w] X.env = [(false, eval w X.env)] := star_cons (noStar_of h5)
      refine (pi_zip (gl_of h2) hm (pa_cons (ia X Wx O h4) (pa_cons (ib X Wx O h5) pa_nil s2) (star_cons (noStar_of h4))) (star_cons (noStar_of h4)) (by rw [s2]; rfl)).imp fun σ H Q ⟨ρ, M, F, ι, R, S, p⟩ => ?_
      simp only [evI] at p
      obtain ⟨ρ1, M1, F1, ι1, R1, S1, p1⟩ := step (rel := Rp W) (Wx := Wx) R S p
      refine ⟨ρ1, M1, F1, ι1, R1, S1, p1.imp fun v H2 ⟨M2, F2, ι2, d, R2, S2, g2, r2, p2⟩ => ?_⟩
      obtain ⟨ρ3, M3, F3, ι3, R3, S3, p3⟩ := step (rel := Rp W) (Wx := Wx) R2 S2 p2
      refine ⟨ρ3, M3, F3, ι3, R3, S3, p3.imp fun v2 H4 ⟨M4, F4, ι4, d4, R4, S4, g4, r4, p4⟩ => ?_⟩
      split at p4
      · rename_i d d' xs ys
        cases r2.mono g4.f g4.i with
        | lst a1 a2 =>
          cases r4 with
          | lst b1 b2 =>
            rw [O.K]
            exact ⟨_, _, _, _, rfl, SqL.of (R4.sub _ _ a1), SqL.of (R4.sub _ _ b1), p4 _ _ _ _ R4 Grow.refl (jok_zip (SqL.of a1) (SqL.of b1) a2 b2)⟩
      · exact p4.elim
    · cases h
theorem i_enm {a : E} (ia : EOk T Φ W k a) : IOk T Φ W k (.enm a) := fun X Wx O x h _ q0 N sc tg t hb ht => by
  cases tg with
  | nm i => simp [itB] at hb
  | tp ts =>
    obtain ⟨els, kk, tpos, rfl⟩ := tup_tgt ht
    simp only [chE] at h
    split at h
    · rename_i q z e
      obtain ⟨p0, pos, rfl⟩ := asCall_eq e
      simp only [Bool.and_eq_true, decide_eq_true_eq] at h
      obtain ⟨⟨rfl, h2⟩, h4⟩ := h
      have hm : X.mg "enumerate" = none := O.glo.bl _ (by decide)
      have s2 : starEach [z] X.env = [(false, eval z X.env)] := star_cons (noStar_of h4)
      refine (pi_enum (gl_of h2) hm (pa_cons (ia X Wx O h4) pa_nil s2) s2).imp fun σ H Q ⟨ρ, M, F, ι, R, S, p⟩ => ?_
      simp only [evI] at p
      obtain ⟨ρ1, M1, F1, ι1, R1, S1, p1⟩ := step (rel := Rp W) (Wx := Wx) R S p
      refine ⟨ρ1, M1, F1, ι1, R1, S1, p1.imp fun v H2 ⟨M2, F2, ι2, d, R2, S2, g2, r2, p2⟩ => ?_⟩
      split at p2
      · cases r2 with
        | lst a1 a2 =>
          rw [O.K]
          exact ⟨_, _, rfl, SqL.of (R2.sub _ _ a1), p2 _ _ _ _ R2 Grow.refl (jok_enum (SqL.of a1) a2)⟩
      · exact p2.elim
    · cases h
/-! ### all -/
structure AllE (T : Tb) (Φ : Calls) (W : Wd) (k : Nat) (x : E) : Prop where
  e : EOk T Φ W k x
  t : TOk T Φ W k x
  i : IOk T Φ W k x
structure AllEs (T : Tb) (Φ : Calls) (W : Wd) (k : Nat) (es : List E) : Prop where
  a : AOk T Φ W k es
  b : BOk T Φ W k es
  x : TsOk T Φ W k es
  f : FOk T Φ W k es
theorem noT {e : E} (h : isT e = false) : TOk T Φ W k e := fun X Wx O x _ ht => by rw [h] at ht; cases ht
theorem noI {e : E} (h : isIt e = false) : IOk T Φ W k e := fun X Wx O x _ ht => by rw [h] at ht; cases ht
theorem badE {e : E} (h : ∀ ρ M, ev Φ T e ρ M = .bad) : EOk T Φ W k e := fun X Wx O x _ => pe_bad fun σ H Q ⟨ρ, M, F, ι, R, S, p⟩ => by rw [h] at p; exact p
mutual
theorem allE : ∀ e : E, AllE T Φ W k e
  | .var i => ⟨e_var i, noT rfl, noI rfl⟩
  | .cst c => ⟨e_cst c, noT rfl, noI rfl⟩
  | .glo g => ⟨e_glo g, noT rfl, noI rfl⟩
  | .bop op a b => ⟨e_bop (allE a).e (allE b).e, noT rfl, noI rfl⟩
  | .neg a => ⟨e_neg (allE a).e, noT rfl, noI rfl⟩
  | .boo c es => ⟨e_boo (allEs es).b, t_boo (allEs es).x, noI rfl⟩
  | .not a => ⟨e_not (allE a).e, t_not (allE a).t (allE a).e, noI rfl⟩
  | .cmp a op b => ⟨e_cmp (allE a).e (allE b).e, t_cmp (allE a).e (allE b).e, noI rfl⟩
  | .chn a p b q c => ⟨e_chn (allE a).e (allE b).e (allE c).e, t_chn (allE a).e (allE b).e (allE c).e, noI rfl⟩
  | .ife t a b => ⟨e_ife (allE t).t (allE t).e (allE a).e (allE b).e, t_ife (allE t).t (allE t).e (allE a).t (allE a).e (allE b).t (allE b).e, noI rfl⟩
  | .tup es => ⟨e_tup (allEs es).a, noT rfl, noI rfl⟩
  | .lst fz es => ⟨e_lst (allEs es).a, noT rfl, noI rfl⟩
  | .dis fz ks vs => ⟨e_dis, noT rfl, noI rfl⟩
  | .star e => ⟨badE fun ρ M => by rw [ev], noT rfl, noI rfl⟩
  | .lc fz elt tg it ifs own => ⟨e_lc (allE it).i (allE it).e (allEs ifs).f (allE elt).e, noT rfl, noI rfl⟩
  | .lc2 fz elt tg it tg2 it2 own own2 => ⟨badE fun ρ M => by rw [ev], noT rfl, noI rfl⟩
  | .call f es => ⟨e_call (allEs es).a, noT rfl, noI rfl⟩
  | .blt b es => ⟨e_blt (allEs es).a, noT rfl, noI rfl⟩
  | .mth m o es => ⟨e_mth (allE o).e (allEs es).a, noT rfl, noI rfl⟩
  | .isi a t => ⟨e_isi (allE a).e, noT rfl, noI rfl⟩
  | .sub o i => ⟨e_sub (allE o).e (allE i).e, noT rfl, noI rfl⟩
  | .slc o lo hi => ⟨e_slc (allE o).e (allO lo) (allO hi), noT rfl, noI rfl⟩
  | .rev o => ⟨e_rev (allE o).e, noT rfl, noI rfl⟩
  | .rng es => ⟨badE fun ρ M => by rw [ev], noT rfl, i_rng (allEs es).a⟩
  | .zip a b => ⟨badE fun ρ M => by rw [ev], noT rfl, i_zip (allE a).e (allE b).e⟩
  | .enm a => ⟨badE fun ρ M => by rw [ev], noT rfl, i_enm (allE a).e⟩
theorem allEs : ∀ es : List E, AllEs T Φ W k es
  | [] => ⟨a_nil, b_nil, x_nil, f_nil⟩
  | [a] => ⟨a_cons (allE a).e a_nil, b_one (allE a).e, x_one (allE a).t (allE a).e, f_one (allE a).t (allE a).e⟩
  | a :: b :: es => ⟨a_cons (allE a).e (allEs (b :: es)).a, b_cons (allE a).e (allEs (b :: es)).b, x_cons (allE a).t (allE a).e (allEs (b :: es)).x, f_more⟩
theorem allO : ∀ o : Option E, OOk T Φ W k o
  | none => o_none
  | some e => o_some (allE e).e
end
theorem test_ok {X : Cx} {Wx : WX} (O : Ok T Φ W k Wx X) {e : E} {x : Expr} (h : chE T X.N X.env.scope e x = true) (hb : tsB e x = true) : PT X x (tG W Wx eqB (tst Φ T e)) := tst_of O.K hb (fun ht => (allE e).t X Wx O h ht) ((allE e).e X Wx O h)
theorem walk_ok {X : Cx} {Wx : WX} (O : Ok T Φ W k Wx X) {e : E} {x t : Expr} {q : Bool} {N : List Str} {sc : Scope} {tg : Tg} (h : chE T X.N X.env.scope e x = true) (hb : itB e tg = true) (ht : chT q N sc tg t = true) : PI X t x (tG W Wx (relI W) (wlk Φ T e)) := wlk_of O.K (fun hi => (allE e).i X Wx O h hi tg t hb ht) ((allE e).e X Wx O h)
end
end Dv
end L2
/-! Dv: statements -/
namespace L2
namespace Dv
open PySem PySem.Spec PyProof.Rows

/-! ### a place taken as it stands -/
section
variable {W : Wd} {M : Mem} {F H : Hp} {ι : List Addr} {n : Nat} {a : Addr} {vs : List V} {ds : List D}
theorem live_set {k : Nat} (l : live (M.set n none) k) : k ≠ n ∧ live M k := by
  obtain ⟨o, e⟩ := l
  by_cases h : n = k
  · subst h
    by_cases hl : n < M.length
    · rw [List.getElem?_set_self hl] at e; cases e
    · rw [List.getElem?_eq_none (by simp; omega)] at e; cases e
  · rw [List.getElem?_set_ne h] at e
    exact ⟨fun z => h z.symm, o, e⟩
theorem Rel.inj (R : Rel W M F H ι) {k : Nat} {b : Addr} (e : ι[k]? = some b) (hn : ι[n]? = some b) : k = n := by
  obtain ⟨h1, e1⟩ := List.getElem?_eq_some_iff.mp e
  obtain ⟨h2, e2⟩ := List.getElem?_eq_some_iff.mp hn
  exact (List.getElem_inj R.nd).mp (by rw [e1, e2])
theorem Rel.freeze (R : Rel W M F H ι) (hn : ι[n]? = some a) (hl : live M n) {o : HO} (hH : H a = some o) : Rel W (M.set n none) (upd F a o) H ι := by
  have hF : F a = none := R.off n a hn hl
  refine ⟨fun b x e => ?_, by simp [R.len], R.nd, R.trk, fun k b e l => ?_, fun k b m e l => ?_⟩
  · by_cases hb : b = a
    · subst hb; rw [upd_same] at e; rw [hH]; exact e
    · rw [upd_ne hb] at e; exact R.sub _ _ e
  · obtain ⟨h1, h2⟩ := live_set l
    rw [upd_ne (fun z : b = a => h1 (R.inj (b := a) (by rw [← z]; exact e) hn))]
    exact R.off k b e h2
  · obtain ⟨h1, h2⟩ := live_set ⟨m, l⟩
    rw [List.getElem?_set_ne (fun z => h1 z.symm)] at l
    obtain ⟨o', q1, q2⟩ := R.has k b m e l
    exact ⟨o', q1, q2.mono (same_upd hF) (Ext.refl _)⟩
theorem Grow.freeze (R : Rel W M F H ι) (hn : ι[n]? = some a) (hl : live M n) {o : HO} : Grow M F H ι (M.set n none) (upd F a o) H ι := by
  refine ⟨same_upd (R.off n a hn hl), Ext.refl _, fun b u h _ => h, fun b h => h, fun k b h => .inl h, fun k b _ l => (live_set l).2, fun b x e => ?_⟩
  by_cases hb : b = a
  · subst hb; exact .inr (.inr ⟨n, hn, hl⟩)
  · rw [upd_ne hb] at e; exact .inl e
end

/-! ### what is wanted behind statements -/
def PoS (W : Wd) (Wx : WX) (D : Ends) (r : RS) (M : Mem) (F H : Hp) (ι : List Addr) : Prop := match r with
  | .nx ρ' M' => ∀ σ' F' H' ι', Rel W M' F' H' ι' → Grow M F H ι M' F' H' ι' → RelS W F' ι' ρ' σ' → D.nx σ' H'
  | .rt d M' => ∀ v F' H' ι', Rel W M' F' H' ι' → Grow M F H ι M' F' H' ι' → Rp W F' ι' v d → D.rt v H'
  | .bk ρ' M' => ∀ σ' F' H' ι', Rel W M' F' H' ι' → Grow M F H ι M' F' H' ι' → RelS W F' ι' ρ' σ' → D.bk σ' H'
  | .ct ρ' M' => ∀ σ' F' H' ι', Rel W M' F' H' ι' → Grow M F H ι M' F' H' ι' → RelS W F' ι' ρ' σ' → D.ct σ' H'
  | .er x ρ' M' => ∀ σ' cls dx F' H' ι', Rel W M' F' H' ι' → Grow M F H ι M' F' H' ι' → RelS W F' ι' ρ' σ' → XRp W F' ι' H' x cls dx → Wx cls dx σ' H'
  | .bad => False
def tS (W : Wd) (Wx : WX) (r : Env' → Mem → RS) : TS := fun D σ H => ∃ ρ M F ι, Rel W M F H ι ∧ RelS W F ι ρ σ ∧ PoS W Wx D (r ρ M) M F H ι
section
variable {W : Wd} {Wx : WX} {α β : Type} {rel : Hp → List Addr → β → α → Prop} {D : Ends} {M M1 : Mem} {F F1 H H1 : Hp} {ι ι1 : List Addr} {ρ : Env'} {σ : L2.St}
theorem PoS.from {r : RS} (g : Grow M F H ι M1 F1 H1 ι1) : PoS W Wx D r M F H ι → PoS W Wx D r M1 F1 H1 ι1 := by
  cases r with
  | nx ρ M' => exact fun p σ' F' H' ι' a b c => p σ' F' H' ι' a (g.trans b) c
  | rt d M' => exact fun p v F' H' ι' a b c => p v F' H' ι' a (g.trans b) c
  | bk ρ M' => exact fun p σ' F' H' ι' a b c => p σ' F' H' ι' a (g.trans b) c
  | ct ρ M' => exact fun p σ' F' H' ι' a b c => p σ' F' H' ι' a (g.trans b) c
  | er x ρ M' => exact fun p σ' cls dx F' H' ι' a b c => p σ' cls dx F' H' ι' a (g.trans b) c
  | bad => exact id
theorem stepS {r : Env' → Mem → R α} {f : α → Mem → RS} (R : Rel W M F H ι) (S : RelS W F ι ρ σ) (p : PoS W Wx D ((r ρ M).st ρ f) M F H ι) :
    tG W Wx rel r σ H (fun v H1 => ∃ M1 F1 ι1 d, Rel W M1 F1 H1 ι1 ∧ RelS W F1 ι1 ρ σ ∧ Grow M F H ι M1 F1 H1 ι1 ∧ rel F1 ι1 v d ∧ PoS W Wx D (f d M1) M1 F1 H1 ι1) := by
  refine ⟨ρ, M, F, ι, R, S, ?_⟩
  cases e : r ρ M with
  | ok d M' =>
    rw [e] at p
    exact fun v F' H' ι' a b c => ⟨M', F', ι', d, a, S.mono b.f b.i, b, c, p.from b⟩
  | err x M' =>
    rw [e] at p
    exact fun cls dx F' H' ι' a b c => p σ cls dx F' H' ι' a b (S.mono b.f b.i) c
  | bad => rw [e] at p; exact p
end

/-! ### syntax -/
section
theorem asExp_eq {s : Stmt} {x : Expr} (h : asExp s = some x) : ∃ p, s = .Expr x p := by cases s <;> simp [asExp] at h; subst h; exact ⟨_, rfl⟩
theorem asAsg_eq {s : Stmt} {y : Expr × Expr × Nat} (h : asAsg s = some y) : ∃ p, s = .Assign [y.1] y.2.1 p ∧ p.line = y.2.2 := by
  unfold asAsg at h
  split at h <;> cases h
  exact ⟨_, rfl, rfl⟩
theorem asAug_eq {s : Stmt} {y : Str × Operator × Expr} (h : asAug s = some y) : ∃ p0 p, s = .AugAssign (.Name y.1 p0) y.2.1 y.2.2 p := by
  unfold asAug at h
  split at h <;> cases h
  exact ⟨_, _, rfl⟩
theorem asIfS_eq {s : Stmt} {y : Expr × List Stmt × List Stmt} (h : asIfS s = some y) : ∃ p, s = .If y.1 y.2.1 y.2.2 p := by cases s <;> simp [asIfS] at h; subst h; exact ⟨_, rfl⟩
theorem asWhl_eq {s : Stmt} {y : Expr × List Stmt} (h : asWhl s = some y) : ∃ p, s = .While y.1 y.2 [] p := by
  unfold asWhl at h
  split at h <;> cases h
  exact ⟨_, rfl⟩
theorem asFor_eq {s : Stmt} {y : Expr × Expr × List Stmt} (h : asFor s = some y) : ∃ p, s = .For y.1 y.2.1 y.2.2 [] p := by
  unfold asFor at h
  split at h <;> cases h
  exact ⟨_, rfl⟩
theorem asRet_eq {s : Stmt} {y : Option Expr} (h : asRet s = some y) : ∃ p, s = .Return y p := by cases s <;> simp [asRet] at h; subst h; exact ⟨_, rfl⟩
theorem asMat_eq {s : Stmt} {y : Expr × List MatchCase} (h : asMat s = some y) : ∃ p, s = .Match y.1 y.2 p := by cases s <;> simp [asMat] at h; subst h; exact ⟨_, rfl⟩
theorem asPass_eq {s : Stmt} (h : asPass s = true) : ∃ p, s = .Pass p := by cases s <;> simp [asPass] at h; exact ⟨_, rfl⟩
theorem asBrk_eq {s : Stmt} (h : asBrk s = true) : ∃ p, s = .Break p := by cases s <;> simp [asBrk] at h; exact ⟨_, rfl⟩
theorem asCnt_eq {s : Stmt} (h : asCnt s = true) : ∃ p, s = .Continue p := by cases s <;> simp [asCnt] at h; exact ⟨_, rfl⟩
theorem asTwo_eq {s : Expr} {y : Str × Str} (h : asTwo s = some y) : ∃ px py k p, s = .Tuple [.Name y.1 px, .Name y.2 py] k p ∧ (py.line == px.line) = true := by
  unfold asTwo at h
  split at h
  · split at h <;> cases h
    exact ⟨_, _, _, _, rfl, by assumption⟩
  · cases h
theorem asPair_eq {s : Expr} {y : Expr × Expr} (h : asPair s = some y) : ∃ k p, s = .Tuple [y.1, y.2] k p := by
  unfold asPair at h
  split at h <;> cases h
  exact ⟨_, _, rfl⟩
theorem one_target {q : Bool} {N : List Str} {sc : Scope} {env : Env} {tg : Tg} {t : Expr} (h : chT q N sc tg t = true) : (assignEach [t] env).map (·.2) = [assign t env] := by
  cases t <;> first | rfl | (cases tg <;> simp [chT] at h)
theorem swapped_cell {t x : Expr} {env : Env} (h : cellT env.scope t = true) : swappedStores [t] x env = pure none := by
  unfold cellT at h
  split at h
  · rename_i a p1 b p2 k1 p3
    have e : ∀ y, lclB env.scope y = (env.kindOf y == some NameKind.local) := fun y => by
      unfold lclB Env.kindOf
      cases e : env.scope.names.lookup y with
      | none => rfl
      | some q => cases q <;> rfl
    rw [e, e] at h
    cases x with
    | Tuple vs k2 p4 =>
      unfold swappedStores
      simp only [List.filterMap_cons, List.filterMap_nil]
      have key : ∀ (c1 c2 c5 : Bool) (l m : List Str) (z : Sem (Option (List Str))), l.length ≤ 1 → (if c1 = true then pure none else if c2 = true then pure none else if (l.length != 2 || c5) = true then pure none else z : Sem (Option (List Str))) = pure none := fun c1 c2 c5 l m z hl => by
        have : (l.length != 2) = true := by simp; omega
        rw [this]
        cases c1 <;> cases c2 <;> rfl
      rcases Bool.eq_false_or_eq_true (env.kindOf a == some NameKind.local) with h1 | h1
      · rcases Bool.eq_false_or_eq_true (env.kindOf b == some NameKind.local) with h2 | h2
        · rw [h1, h2] at h; cases h
        · simp only [h2, Bool.false_and]
          refine key _ _ _ _ [] _ ?_
          simp only [Bool.false_eq_true, if_false]
          split <;> simp
      · simp only [h1, Bool.false_and]
        refine key _ _ _ _ [] _ ?_
        simp only [Bool.false_eq_true, if_false]
        split <;> simp
    | _ => rfl
  · cases h
theorem swapped_no {q : Bool} {N : List Str} {sc : Scope} {tg : Tg} {t x : Expr} {env : Env} (hT : chT q N sc tg t = true) (h : (noTup x || noTup t) = true) : swappedStores [t] x env = pure none := by
  cases t with
  | Name y p => rfl
  | Tuple es kk p =>
    cases x <;> first | rfl | (simp [noTup] at h)
  | _ => cases tg <;> simp [chT] at hT
theorem blk_fn {env : Env} (hk : env.scope.kind = .function) : env.blockKind = .function := by unfold Env.blockKind; rw [hk]; rfl
theorem sw_two {x y : Str} {px py pt p2 : Pos} {kt k2 : Nat} {u v : Expr} {env : Env} (hk : env.scope.kind = .function) (hx : env.scope.names.lookup x = some .local) (hy : env.scope.names.lookup y = some .local) (hl : (py.line == px.line) = true)
    (hne : x ≠ y) (hu : noStar u = true) (hv : noStar v = true) (hf : (foldedForSure 8 u && foldedForSure 8 v) = false) (hc : (constantsAlone 8 u && constantsAlone 8 v) = false) :
    swappedStores [.Tuple [.Name x px, .Name y py] kt pt] (.Tuple [u, v] k2 p2) env = pure (some [x, y]) := by
  have kx : env.kindOf x = some .local := hx
  have ky : env.kindOf y = some .local := hy
  have hb := blk_fn hk
  have hl' : py.line = px.line := by simpa using hl
  have e0 : ([u, v].any fun | .Starred .. => true | _ => false) = false := by
    simp only [List.any_cons, List.any_nil, Bool.or_false, Bool.or_eq_false_iff]
    constructor
    · cases u <;> first | rfl | (simp [noStar] at hu)
    · cases v <;> first | rfl | (simp [noStar] at hv)
  have e2 : [x, y].eraseDups.length = 2 := by
    have : (y == x) = false := by simpa using fun z => hne z.symm
    simp [List.eraseDups_cons, this]
  have e3 : [u, v].all (foldedForSure 8) = false := by simpa [List.all_cons] using hf
  have e4 : [u, v].all (constantsAlone 8) = false := by simpa [List.all_cons] using hc
  unfold swappedStores
  simp only [hb, e0, e3, e4, kx, ky, List.filterMap_cons, List.filterMap_nil]
  simp [hl', e2, Expr.pos]
  rintro (h | h)
  · exfalso
    cases u <;> first | exact absurd h Bool.false_ne_true | (simp [noStar] at hu)
  · exfalso
    cases v <;> first | exact absurd h Bool.false_ne_true | (simp [noStar] at hv)
end

/-! ### statements, one by one -/
/-- a def's body, and where it stands -/
structure OkS (T : Tb) (Φ : Calls) (W : Wd) (k : Nat) (Wx : WX) (X : Cx) : Prop extends Ok T Φ W k Wx X where
  own : PassesOwn (model X.prog X.w) X.A X.env X.xe
  kind : X.env.scope.kind = .function
  fnt : ∀ x, X.fn x = true
section
variable {T : Tb} {Φ : Calls} {W : Wd} {k : Nat}
def SOk (T : Tb) (Φ : Calls) (W : Wd) (k : Nat) (st : S) : Prop := ∀ (X : Cx) (Wx : WX), OkS T Φ W k Wx X → ∀ {x : Stmt}, chS T X.N X.env.scope st x = true → PS X x (tS W Wx (xc Φ T st))
def SsOk (T : Tb) (Φ : Calls) (W : Wd) (k : Nat) (st : List S) : Prop := ∀ (X : Cx) (Wx : WX), OkS T Φ W k Wx X → ∀ {x : List Stmt}, chSs T X.N X.env.scope st x = true → PSs X x (tS W Wx (xs Φ T st))
theorem ex_ok {X : Cx} {Wx : WX} (O : OkS T Φ W k Wx X) {e : E} {x : Expr} (h : chE T X.N X.env.scope e x = true) : PE X x (tG W Wx (Rp W) (ev Φ T e)) := (allE e).e X Wx O.toOk h
theorem s_exp (e : E) : SOk T Φ W k (.exp e) := fun X Wx O x h => by
  simp only [chS] at h
  split at h
  · rename_i y e1
    obtain ⟨pos, rfl⟩ := asExp_eq e1
    simp only [Bool.and_eq_true] at h
    refine (ps_expr (ex_ok O h.1) (comp_of h.2)).imp fun D σ H ⟨ρ, M, F, ι, R, S, p⟩ => ?_
    simp only [xc] at p
    obtain ⟨ρ1, M1, F1, ι1, R1, S1, p1⟩ := stepS (rel := Rp W) R S p
    exact ⟨ρ1, M1, F1, ι1, R1, S1, p1.imp fun v H2 ⟨M2, F2, ι2, d, R2, S2, g2, r2, p2⟩ => p2 _ _ _ _ R2 Grow.refl S2⟩
  · cases h
theorem swN_of {X : Cx} {x t : Expr} {l : Nat} (hk : X.env.scope.kind = .function) (h : swN X.env.scope x t = true) : swapsWith x (some t) l X.env = pure false := by
  cases x with
  | ListComp a b scope pos =>
    cases t with
    | Name y py =>
      have hb := blk_fn hk
      simp only [swN] at h
      unfold swapsWith
      show (pure _ : Sem Bool) = pure false
      congr 1
      simp only [hb]
      have hx : (X.env.kindOf y == some NameKind.local) = lclB X.env.scope y := by
        unfold lclB Env.kindOf
        cases e : X.env.scope.names.lookup y with
        | none => rfl
        | some q => cases q <;> rfl
      rw [hx]
      have : ((ScopeKind.function == ScopeKind.function) = true) := rfl
      simp only [this, Bool.true_and]
      exact (Bool.not_eq_true' _).mp h
    | _ => rfl
  | SetComp => simp [swN, noComp] at h
  | DictComp => simp [swN, noComp] at h
  | _ => rfl
theorem gT_step {Wx : WX} {Z : Ends} {X : Cx} {tg : Tg} {M : Mem} {F H : Hp} {ι : List Addr} {ρ : Env'} {σ : L2.St} {v : V} {d : D} (R : Rel W M F H ι) (S : RelS W F ι ρ σ) (r : Rp W F ι v d)
    (p : PoS W Wx Z (match tg.put d ρ with | some ρ' => .nx ρ' M | none => .bad) M F H ι) : gT W tg v σ H Z.nx := by
  cases e : tg.put d ρ with
  | none => rw [e] at p; exact p.elim
  | some ρ' =>
    rw [e] at p
    exact ⟨ρ, M, F, ι, d, ρ', R, S, r, e, fun σ' S' _ => p _ _ _ _ R Grow.refl S'⟩
theorem lc_imp {Wx : WX} {fz : Bool} {elt : E} {tg : Tg} {it : E} {ifs : List E} {own : List Nat} (hix : ∀ j ∈ tg.ix, j ∈ own) (σ : L2.St) (H : Hp) (Q : VK) :
    tG W Wx (Rp W) (ev Φ T (.lc fz elt tg it ifs own)) σ H Q → tLc (tG W Wx (relI W) (wlk Φ T it)) (gT W tg) (tG W WX0 eqB (evF Φ T ifs)) (tG W WX0 (Rp W) (ev Φ T elt)) own σ H Q := fun ⟨ρ, M, F, ι, R, S, p⟩ => by
  simp only [ev] at p
  obtain ⟨ρ1, M1, F1, ι1, R1, S1, p1⟩ := step (rel := relI W) (Wx := Wx) (r := wlk Φ T it) R S p
  refine ⟨ρ1, M1, F1, ι1, R1, S1, p1.imp fun J H2 ⟨M2, F2, ι2, ds, R2, S2, g2, r2, p2⟩ => ?_⟩
  exact lc_read hix R2 S2 r2 p2
theorem lc_only {N : List Str} {sc s : Scope} {e : E} {a : Expr} {b : List Comprehension} {p : Pos} (h : chE T N sc e (.ListComp a b s p) = true) : ∃ fz elt tg it ifs own, e = .lc fz elt tg it ifs own := by
  cases e <;> first
    | exact ⟨_, _, _, _, _, _, rfl⟩
    | exact absurd h Bool.false_ne_true
    | (rename_i a b; cases b <;> exact absurd h Bool.false_ne_true)
    | (exfalso; revert h; simp [chE, asName, asConst, asBin, asUn, asBool, asCmp, asChn, asIf, asTup, asLst, asDict0, asComp, asCall, asMeth, asSub])
theorem s_set (tg : Tg) (e : E) : SOk T Φ W k (.set tg e) := fun X Wx O x h => by
  simp only [chS] at h
  split at h
  · rename_i t y l e1
    obtain ⟨pos, rfl, hl⟩ := asAsg_eq e1
    simp only [Bool.and_eq_true, Bool.or_eq_true] at h
    obtain ⟨⟨h1, h2⟩, h3⟩ := h
    rcases h3 with h3 | h3
    · refine (ps_asg (ex_ok O h2) (pg_T (W := W) O.K O.nd O.calm (fun _ => O.fnt) tg h1) (swN_of O.kind h3.1) (by
        have h5 : (noTup y || noTup t) = true ∨ cellT X.env.scope t = true := by
          rcases h3.2 with h4 | h4
          · exact .inl (by simpa using h4)
          · exact .inr h4
        rcases h5 with h5 | h5
        · exact swapped_no h1 h5
        · exact swapped_cell h5) (one_target h1)).imp fun D σ H ⟨ρ, M, F, ι, R, S, p⟩ => ?_
      simp only [xc] at p
      obtain ⟨ρ1, M1, F1, ι1, R1, S1, p1⟩ := stepS (rel := Rp W) R S p
      exact ⟨ρ1, M1, F1, ι1, R1, S1, p1.imp fun v H2 ⟨M2, F2, ι2, d, R2, S2, g2, r2, p2⟩ => gT_step (X := X) R2 S2 r2 p2⟩
    · cases y with
      | ListComp elt gs scope cpos =>
        cases t with
        | Name y py =>
          simp only [swB, Bool.and_eq_true, Bool.not_eq_true'] at h3
          obtain ⟨⟨g1, g2⟩, g3⟩ := h3
          cases tg with
          | tp _ => simp [chT] at h1
          | nm i =>
            simp only [chT, Bool.and_eq_true, decide_eq_true_eq] at h1
            obtain ⟨fz, elt', tg', it, ifs, own, rfl⟩ := lc_only h2
            simp only [chE] at h2
            split at h2
            · rename_i y' t' i' fss scope' e2
              obtain ⟨pos', e3⟩ := asComp_eq e2
              cases e3
              simp only [Bool.and_eq_true] at h2
              obtain ⟨⟨⟨⟨⟨⟨⟨⟨k1, k2⟩, k3⟩, k4⟩, k5⟩, k6⟩, k7⟩, k8⟩, k9⟩ := h2
              have hix : ∀ j ∈ tg'.ix, j ∈ own := fun j hj => by
                have := List.all_eq_true.mp k5 j hj
                simpa using this
              have hown : (ownN X.N own).map (·.2) = own := by
                unfold ownN
                rw [List.map_map]
                show own.map (fun i => i) = own
                exact List.map_id' own
              have z := ps_setLc (X := X) (y := y) (py := py) (i := i) (elt := y') (tg := t') (iter := i') (ifs := fss) (scope := scope') (own := ownN X.N own) (pos := cpos) (spos := pos) (wi := tG W Wx (relI W) (wlk Φ T it)) (g := gT W tg') (tt := tG W WX0 eqB (evF Φ T ifs)) (te := tG W WX0 (Rp W) (ev Φ T elt'))
                O.calm O.nd h1.1.1 (lcl_of g1) (sw_true O.kind (lcl_of g1) g2 g3)
                (walk_ok O.toOk k2 k8 k4) (blkOk_by k1)
                (fun s H C cl fp => pg_T (X := X.blk s H scope' (compEnvC scope' cl C X.env) fp) O.K O.nd O.calm (fun z => by cases z) tg' k4)
                (fun s H C cl fp => (allEs ifs).f _ WX0 (O.toOk.blk s H scope' C cl fp) k6 k7)
                (fun s H C cl fp => (allE elt').e _ WX0 (O.toOk.blk s H scope' C cl fp) k9) (set_of k3)
              rw [hown] at z
              refine z.imp fun D σ H ⟨ρ, M, F, ι, R, S, p⟩ => ?_
              simp only [xc] at p
              refine lc_imp (fz := fz) hix σ H _ ?_
              obtain ⟨ρ1, M1, F1, ι1, R1, S1, p1⟩ := stepS (rel := Rp W) R S p
              exact ⟨ρ1, M1, F1, ι1, R1, S1, p1.imp fun v H2 ⟨M2, F2, ι2, d, R2, S2, g2, r2, p2⟩ => p2 _ _ _ _ R2 Grow.refl (S2.set i r2)⟩
            · cases h2
        | _ => simp [swB] at h3
      | _ => simp [swB] at h3
  · cases h
theorem s_par (i j : Nat) (a b : E) : SOk T Φ W k (.par i j a b) := fun X Wx O x h => by
  simp only [chS] at h
  split at h
  · rename_i t y l e1
    obtain ⟨pos, rfl, hl⟩ := asAsg_eq e1
    split at h
    · rename_i p q u v e2 e3
      obtain ⟨px, py, kt, pt, rfl, hln⟩ := asTwo_eq e2
      obtain ⟨k2, p2, rfl⟩ := asPair_eq e3
      simp only [Bool.and_eq_true, decide_eq_true_eq, Bool.not_eq_true'] at h
      obtain ⟨⟨⟨⟨⟨⟨⟨⟨h1, h2⟩, h3⟩, h4⟩, h5⟩, h6⟩, h7⟩, h8⟩, h9⟩ := h
      have hne : p ≠ q := fun z => h3 (by
        subst z
        obtain ⟨g1, e1⟩ := List.getElem?_eq_some_iff.mp h1
        obtain ⟨g2, e2⟩ := List.getElem?_eq_some_iff.mp h2
        exact (List.getElem_inj O.nd).mp (by rw [e1, e2]))
      refine (ps_par O.calm O.nd h1 h2 h3 (lcl_of h4) (lcl_of h5) (pa_cons (ex_ok O h6) (pa_cons (ex_ok O h7) pa_nil (star_cons (noStar_of h7))) (star_cons (noStar_of h6)))
        (sw_two O.kind (lcl_of h4) (lcl_of h5) hln hne (noStar_of h6) (noStar_of h7) h8 h9)).imp fun D σ H ⟨ρ, M, F, ι, R, S, p⟩ => ?_
      simp only [xc] at p
      obtain ⟨ρ1, M1, F1, ι1, R1, S1, p1⟩ := stepS (rel := Rp W) R S p
      refine ⟨ρ1, M1, F1, ι1, R1, S1, p1.imp fun v H2 ⟨M2, F2, ι2, d, R2, S2, g2, r2, p2⟩ => ?_⟩
      obtain ⟨ρ3, M3, F3, ι3, R3, S3, p3⟩ := stepS (rel := Rp W) R2 S2 p2
      refine ⟨ρ3, M3, F3, ι3, R3, S3, p3.imp fun v2 H4 ⟨M4, F4, ι4, d4, R4, S4, g4, r4, p4⟩ => ?_⟩
      exact ⟨v, v2, rfl, p4 _ _ _ _ R4 Grow.refl ((S4.set i (r2.mono g4.f g4.i)).set j r4)⟩
    · cases h
  · cases h
theorem s_aug (i : Nat) (op : Operator) (e : E) : SOk T Φ W k (.aug i op e) := fun X Wx O x h => by
  simp only [chS] at h
  split at h
  · rename_i n o y e1
    obtain ⟨p0, pos, rfl⟩ := asAug_eq e1
    simp only [Bool.and_eq_true, decide_eq_true_eq] at h
    obtain ⟨⟨⟨⟨rfl, h1⟩, h2⟩, h3⟩, h4⟩ := h
    have hl : Loc X.env.scope n := loc_of h2
    have ho : ∃ f, ipF op = some f ∧ PIp X op (ipI f) := by
      cases op <;> first | exact ⟨_, rfl, ip_add⟩ | exact ⟨_, rfl, ip_sub⟩ | (exact absurd h3 Bool.false_ne_true)
    obtain ⟨f, ef, hf⟩ := ho
    refine (ps_aug O.nd h1 hl (ex_ok O h4) hf (.inl (O.fnt _))).imp fun D σ H ⟨ρ, M, F, ι, R, S, p⟩ => ?_
    simp only [xc, ef] at p
    split at p
    · rename_i d0 e0
      obtain ⟨v, e1, r⟩ := S.at_ i d0 e0
      refine ⟨v, e1, ?_⟩
      obtain ⟨ρ1, M1, F1, ι1, R1, S1, p1⟩ := stepS (rel := Rp W) R S p
      refine ⟨ρ1, M1, F1, ι1, R1, S1, p1.imp fun v2 H2 ⟨M2, F2, ι2, d, R2, S2, g2, r2, p2⟩ => ?_⟩
      have r' := r.mono g2.f g2.i
      split at p2
      · rename_i g a b _ _
        have e3 : some f = some g := by assumption
        cases e3
        cases r'
        cases r2
        exact ⟨_, _, rfl, rfl, p2 _ _ _ _ R2 Grow.refl (S2.set i (.int _))⟩
      · exact p2.elim
    · exact p.elim
  · cases h
theorem s_sst (o i e : E) : SOk T Φ W k (.sst o i e) := fun X Wx O x h => by
  simp only [chS] at h
  split at h
  · rename_i t z l e1
    obtain ⟨pos, rfl, hl⟩ := asAsg_eq e1
    split at h
    · rename_i x y e2
      obtain ⟨p2, rfl⟩ := asSub_eq e2
      simp only [Bool.and_eq_true] at h
      obtain ⟨⟨⟨⟨h1, h2⟩, h3⟩, h4⟩, h5⟩ := h
      have ha : ∀ v, assign (.Subscript x y p2) X.env v = (do
          let ov ← holding [v] (eval x X.env)
          let iv ← holding [v, ov] (eval y X.env)
          standAt p2
          holding [v, ov, iv] (setItem ov iv v)
          release [v, ov, iv] []) := fun v => by
        cases y <;> first | rfl | (simp [noSl] at h3)
      refine (ps_asg (ex_ok O h4) (pg_sub (ex_ok O h1) (ex_ok O h2) set_list ha) (by show swapsWith z (some (.Subscript x y p2)) pos.line X.env = pure false; exact comp_of h5) (by cases z <;> rfl) rfl).imp fun D σ H ⟨ρ, M, F, ι, R, S, p⟩ => ?_
      simp only [xc] at p
      obtain ⟨ρ1, M1, F1, ι1, R1, S1, p1⟩ := stepS (rel := Rp W) R S p
      refine ⟨ρ1, M1, F1, ι1, R1, S1, p1.imp fun v H2 ⟨M2, F2, ι2, d, R2, S2, g2, r2, p2⟩ => ?_⟩
      obtain ⟨ρ3, M3, F3, ι3, R3, S3, p3⟩ := stepS (rel := Rp W) R2 S2 p2
      refine ⟨ρ3, M3, F3, ι3, R3, S3, p3.imp fun v2 H4 ⟨M4, F4, ι4, d4, R4, S4, g4, r4, p4⟩ => ?_⟩
      obtain ⟨ρ5, M5, F5, ι5, R5, S5, p5⟩ := stepS (rel := Rp W) R4 S4 p4
      refine ⟨ρ5, M5, F5, ι5, R5, S5, p5.imp fun v3 H6 ⟨M6, F6, ι6, d6, R6, S6, g6, r6, p6⟩ => ?_⟩
      have r2' := (r2.mono g4.f g4.i).mono g6.f g6.i
      have r4' := r4.mono g6.f g6.i
      split at p6
      · rename_i n j _
        split at p6
        · rename_i ds em
          split at p6
          · rename_i q eq
            obtain ⟨a, vs, rfl, ha, hH, rv⟩ := loc_lst R6 r4' em
            cases r6
            refine ⟨a, vs, j, q, rfl, rfl, hH, by rw [rv.length]; exact eq, ?_⟩
            exact p6 _ _ _ _ (R6.setloc ha em (.lst (rv.set r2' q))) (Grow.setloc R6 ha em) S6
          · exact p6.elim
        · exact p6.elim
      · exact p6.elim
    · cases h
  · cases h
theorem s_ret (e : E) : SOk T Φ W k (.ret e) := fun X Wx O x h => by
  simp only [chS] at h
  split at h
  · rename_i y e1
    obtain ⟨pos, rfl⟩ := asRet_eq e1
    refine (ps_ret (ex_ok O h)).imp fun D σ H ⟨ρ, M, F, ι, R, S, p⟩ => ?_
    simp only [xc] at p
    obtain ⟨ρ1, M1, F1, ι1, R1, S1, p1⟩ := stepS (rel := Rp W) R S p
    exact ⟨ρ1, M1, F1, ι1, R1, S1, p1.imp fun v H2 ⟨M2, F2, ι2, d, R2, S2, g2, r2, p2⟩ => p2 _ _ _ _ R2 Grow.refl r2⟩
  · cases h
theorem s_retN : SOk T Φ W k .retN := fun X Wx O x h => by
  simp only [chS] at h
  split at h
  · rename_i e1
    obtain ⟨pos, rfl⟩ := asRet_eq e1
    exact ps_retN.imp fun D σ H ⟨ρ, M, F, ι, R, S, p⟩ => p .non _ _ _ R Grow.refl .non
  · cases h
theorem s_pass : SOk T Φ W k .pass := fun X Wx O x h => by
  obtain ⟨pos, rfl⟩ := asPass_eq h
  exact ps_pass.imp fun D σ H ⟨ρ, M, F, ι, R, S, p⟩ => p _ _ _ _ R Grow.refl S
theorem s_brk : SOk T Φ W k .brk := fun X Wx O x h => by
  obtain ⟨pos, rfl⟩ := asBrk_eq h
  exact ps_break.imp fun D σ H ⟨ρ, M, F, ι, R, S, p⟩ => p _ _ _ _ R Grow.refl S
theorem s_cnt : SOk T Φ W k .cnt := fun X Wx O x h => by
  obtain ⟨pos, rfl⟩ := asCnt_eq h
  exact ps_continue.imp fun D σ H ⟨ρ, M, F, ι, R, S, p⟩ => p _ _ _ _ R Grow.refl S
theorem s_frz (i : Nat) : SOk T Φ W k (.frz i) := fun X Wx O x h => by simp [chS] at h
theorem s_ite {t : E} {a b : List S} (ia : SsOk T Φ W k a) (ib : SsOk T Φ W k b) : SOk T Φ W k (.ite t a b) := fun X Wx O x h => by
  simp only [chS] at h
  split at h
  · rename_i y ys zs e1
    obtain ⟨pos, rfl⟩ := asIfS_eq e1
    simp only [Bool.and_eq_true] at h
    obtain ⟨⟨⟨h1, h2⟩, h3⟩, h4⟩ := h
    refine (ps_if (test_ok O.toOk h1 h2) (ia X Wx O h3) (ib X Wx O h4)).imp fun D σ H ⟨ρ, M, F, ι, R, S, p⟩ => ?_
    simp only [xc] at p
    obtain ⟨ρ1, M1, F1, ι1, R1, S1, p1⟩ := stepS (rel := eqB) R S p
    refine ⟨ρ1, M1, F1, ι1, R1, S1, p1.imp fun v H2 ⟨M2, F2, ι2, d, R2, S2, g2, r2, p2⟩ => ?_⟩
    cases r2
    cases v with
    | true => rw [if_pos rfl] at p2 ⊢; exact ⟨ρ, M2, F2, ι2, R2, S2, p2⟩
    | false => rw [if_neg Bool.false_ne_true] at p2 ⊢; exact ⟨ρ, M2, F2, ι2, R2, S2, p2⟩
  · cases h
/-- a loop's body -/
theorem PoS.body {Z Z' : Ends} {Wx : WX} {M : Mem} {F H : Hp} {ι : List Addr} {g : RS} {f : Env' → Mem → RS} (hr : Z'.rt = Z.rt) (hb : Z'.bk = Z.nx)
    (hn : ∀ ρ' M' σ' F' H' ι', Rel W M' F' H' ι' → Grow M F H ι M' F' H' ι' → RelS W F' ι' ρ' σ' → PoS W Wx Z (f ρ' M') M' F' H' ι' → Z'.nx σ' H' ∧ Z'.ct σ' H')
    (p : PoS W Wx Z (match g with | .nx ρ1 M1 => f ρ1 M1 | .ct ρ1 M1 => f ρ1 M1 | .bk ρ1 M1 => .nx ρ1 M1 | r => r) M F H ι) : PoS W Wx Z' g M F H ι := by
  cases g with
  | nx ρ1 M1 => exact fun σ' F' H' ι' a b c => (hn ρ1 M1 σ' F' H' ι' a b c (p.from b)).1
  | ct ρ1 M1 => exact fun σ' F' H' ι' a b c => (hn ρ1 M1 σ' F' H' ι' a b c (p.from b)).2
  | bk ρ1 M1 => show ∀ σ' F' H' ι', _ → _ → _ → Z'.bk σ' H'; rw [hb]; exact p
  | rt d M1 => show ∀ v F' H' ι', _ → _ → _ → Z'.rt v H'; rw [hr]; exact p
  | er x ρ1 M1 => exact p
  | bad => exact p
theorem s_whl {t : E} {b : List S} (ib : SsOk T Φ W k b) : SOk T Φ W k (.whl t b) := fun X Wx O x h => by
  simp only [chS] at h
  split at h
  · rename_i y ys e1
    obtain ⟨pos, rfl⟩ := asWhl_eq e1
    simp only [Bool.and_eq_true] at h
    obtain ⟨⟨h1, h2⟩, h3⟩ := h
    refine (ps_while O.own (test_ok O.toOk h1 h2) (ib X Wx O h3)).imp fun D σ H ⟨ρ, M, F, ι, R, S, p⟩ => ?_
    simp only [xc] at p
    refine ⟨fun m σ H => ∃ ρ M F ι, Rel W M F H ι ∧ RelS W F ι ρ σ ∧ PoS W Wx D (loopW (fun ρ M => tst Φ T t ρ M) (fun ρ M => xs Φ T b ρ M) m ρ M) M F H ι, ⟨turns, ρ, M, F, ι, R, S, p⟩, ?_⟩
    rintro m σ1 H1 ⟨ρ1, M1, F1, ι1, R1, S1, p1⟩
    cases m with
    | zero => exact p1.elim
    | succ m =>
      simp only [loopW] at p1
      obtain ⟨ρ3, M3, F3, ι3, R3, S3, p3⟩ := stepS (rel := eqB) (r := tst Φ T t) R1 S1 p1
      refine ⟨ρ3, M3, F3, ι3, R3, S3, p3.imp fun v H2 ⟨M2, F2, ι2, d, R2, S2, g2, r2, p2⟩ => ?_⟩
      cases r2
      cases v with
      | false =>
        rw [if_neg Bool.false_ne_true] at p2 ⊢
        exact p2 _ _ _ _ R2 Grow.refl S2
      | true =>
        rw [if_pos rfl] at p2 ⊢
        refine ⟨_, fun σ' H' z => z, ρ1, M2, F2, ι2, R2, S2, PoS.body (Z := D) rfl rfl (fun ρ' M' σ' F' H' ι' a b c q => ?_) p2⟩
        have z : ∃ m', m' < m + 1 ∧ ∃ ρ M F ι, Rel W M F H' ι ∧ RelS W F ι ρ σ' ∧ PoS W Wx D (loopW (fun ρ M => tst Φ T t ρ M) (fun ρ M => xs Φ T _ ρ M) m' ρ M) M F H' ι := ⟨m, Nat.lt_succ_self m, ρ', M', F', ι', a, c, q⟩
        exact ⟨z, z⟩
  · cases h
theorem s_fr {tg : Tg} {it : E} {b : List S} (ib : SsOk T Φ W k b) : SOk T Φ W k (.fr tg it b) := fun X Wx O x h => by
  simp only [chS] at h
  split at h
  · rename_i t i ys e1
    obtain ⟨pos, rfl⟩ := asFor_eq e1
    simp only [Bool.and_eq_true] at h
    obtain ⟨⟨⟨⟨h1, h2⟩, h3⟩, h4⟩, h5⟩ := h
    refine (ps_for O.own O.calm (walk_ok O.toOk h3 h2 h1) (pg_T (W := W) O.K O.nd O.calm (fun _ => O.fnt) tg h1) (ib X Wx O h5) (set_of h4)).imp fun D σ H ⟨ρ, M, F, ι, R, S, p⟩ => ?_
    simp only [xc] at p
    obtain ⟨ρ0, M0, F0, ι0, R0, S0, p0⟩ := stepS (rel := relI W) R S p
    refine ⟨ρ0, M0, F0, ι0, R0, S0, p0.imp fun J H1 ⟨M1, F1, ι1, ds, R1, S1, g1, jok, p1⟩ => ?_⟩
    refine ⟨fun i m σ H => m = ds.length - i ∧ ∃ ρ M F ι, Rel W M F H ι ∧ RelS W F ι ρ σ ∧ Same F1 F ∧ Ext ι1 ι ∧ PoS W Wx D (loopF (fun d ρ M => match tg.put d ρ with | some ρ' => xs Φ T b ρ' M | none => .bad) (ds.drop i) ρ M) M F H ι,
      ⟨ds.length, rfl, ρ, M1, F1, ι1, R1, S1, fun _ _ z => z, Ext.refl _, p1⟩, ?_⟩
    rintro n m σ2 H2 ⟨rfl, ρ2, M2, F2, ι2, R2, S2, sm, ex, p2⟩
    by_cases hn : n < ds.length
    · refine .inr ⟨jok.go n F2 H2 sm R2.sub hn, _, fun σ' H' z => z, fun x H3 y => ?_⟩
      have hd : ds[n]? = some ds[n] := List.getElem?_eq_getElem hn
      obtain ⟨F3, R3, g3, r3⟩ := jok.yld n M2 F2 H2 ι2 x H3 ds[n] sm ex R2 y hd
      rw [List.drop_eq_getElem_cons hn] at p2
      simp only [loopF] at p2
      cases ep : tg.put ds[n] ρ2 with
      | none => simp only [ep] at p2; exact p2.elim
      | some ρ' =>
        simp only [ep] at p2
        refine ⟨ρ2, M2, F3, ι2, ds[n], ρ', R3, S2.mono g3.f g3.i, r3, ep, fun σ3 S3 _ => ⟨ρ', M2, F3, ι2, R3, S3, PoS.body (Z := D) rfl rfl (fun ρ4 M4 σ4 F4 H4 ι4 a b c q => ?_) (p2.from g3)⟩⟩
        have z : ∃ m', m' < ds.length - n ∧ m' = ds.length - (n + 1) ∧ ∃ ρ M F ι, Rel W M F H4 ι ∧ RelS W F ι ρ σ4 ∧ Same F1 F ∧ Ext ι1 ι ∧ PoS W Wx D (loopF (fun d ρ M => match tg.put d ρ with | some ρ' => xs Φ T _ ρ' M | none => .bad) (ds.drop (n + 1)) ρ M) M F H4 ι :=
          ⟨ds.length - (n + 1), by omega, rfl, ρ4, M4, F4, ι4, a, c, (sm.trans g3.f).trans b.f, (ex.trans g3.i).trans b.i, q⟩
        exact ⟨z, z⟩
    · refine .inl ⟨jok.stop n F2 H2 sm R2.sub (by omega), ?_⟩
      rw [List.drop_eq_nil_of_le (by omega)] at p2
      exact p2 _ _ _ _ R2 Grow.refl S2
  · cases h
end
end Dv
end L2
/-! Dv: match, lists of statements, and all of them -/
namespace L2
namespace Dv
open PySem PySem.Spec PyProof.Rows

section
variable {T : Tb} {Φ : Calls} {W : Wd} {k : Nat}
/-- what a pattern took -/
inductive Took (W : Wd) (F : Hp) (ι : List Addr) (X : Cx) : List (Nat × Dv.D) → List (Str × Value) → Prop
  | nil : Took W F ι X [] []
  | cons {i : Nat} {d : Dv.D} {n : Str} {u : Value} {v : V} {l : List (Nat × Dv.D)} {bs : List (Str × Value)} : X.N[i]? = some n → locB X.env.scope n = true → RelV v u → Rp W F ι v d → Took W F ι X l bs → Took W F ι X ((i, d) :: l) ((n, u) :: bs)
theorem Took.app {F : Hp} {ι : List Addr} {X : Cx} : ∀ {l l' : List (Nat × Dv.D)} {bs bs' : List (Str × Value)}, Took W F ι X l bs → Took W F ι X l' bs' → Took W F ι X (l ++ l') (bs ++ bs')
  | _, _, _, _, .nil, h => h
  | _, _, _, _, .cons a b c d e, h => .cons a b c d (e.app h)
def PatR (W : Wd) (F : Hp) (ι : List Addr) (X : Cx) (res : Option (List (Nat × Dv.D))) (r : Option (List (Str × Value))) : Prop := match res with
  | some l => ∃ bs, r = some bs ∧ Took W F ι X l bs
  | none => r = none
theorem cst_pe {X : Cx} {c : Const} {e : Dv.D} {j : Nat} {p : Pos} (h : cstD c = some e) : ∃ v, (∀ F ι, Rp W F ι v e) ∧ PE X (.Constant c j p) (tC v) := by
  cases c with
  | none => cases h; exact ⟨.non, fun _ _ => .non, pe_non⟩
  | bool b => cases h; exact ⟨.bl b, fun _ _ => .bl b, pe_bl⟩
  | int b => cases h; exact ⟨.int b, fun _ _ => .int b, pe_int⟩
  | str b => cases h; exact ⟨.str b, fun _ _ => .str b, pe_str⟩
  | _ => cases h
def PatOk (T : Tb) (Φ : Calls) (W : Wd) (k : Nat) (p : Pt) : Prop := ∀ (X : Cx) (Wx : WX), OkS T Φ W k Wx X → ∀ {q : Pattern}, chP X.N X.env.scope p q = true → ∀ (pins : List (Addr × Obj)) (s : Shared) (σ : L2.St) (H F : Hp) (u : Value) (v : V) (d : Dv.D) (M : Mem) (ι : List Addr) (res : Option (List (Nat × Dv.D))) (Q : Option (List (Str × Value)) → Shared → Prop),
  Inv X pins σ H s → Rel W M F H ι → RelV v u → Rp W F ι v d → Pt.go M p d = some res → (∀ r s', Inv X pins σ H s' → PatR W F ι X res r → Q r s') → wpAny (model X.prog X.w) X.A (matchPattern q X.env u) Q X.xe s
def PatsOk (T : Tb) (Φ : Calls) (W : Wd) (k : Nat) (p : List Pt) : Prop := ∀ (X : Cx) (Wx : WX), OkS T Φ W k Wx X → ∀ {q : List Pattern}, chPs X.N X.env.scope p q = true → ∀ (pins : List (Addr × Obj)) (s : Shared) (σ : L2.St) (H F : Hp) (us : List Value) (vs : List V) (ds : List Dv.D) (M : Mem) (ι : List Addr) (res : Option (List (Nat × Dv.D))) (Q : Option (List (Str × Value)) → Shared → Prop),
  Inv X pins σ H s → Rel W M F H ι → Vals vs us → Rps W F ι vs ds → ds.length = p.length → Pt.gos M p ds = some res → (∀ r s', Inv X pins σ H s' → PatR W F ι X res r → Q r s') → wpAny (model X.prog X.w) X.A (matchEach q X.env us) Q X.xe s
theorem p_val (c : Const) : PatOk T Φ W k (.val c) := fun X Wx O q h pins s σ H F u v d M ι res Q I R rv r e hQ => by
  cases q with
  | MatchValue x p =>
    cases x with
    | Constant c' j p' =>
      simp only [chP, decide_eq_true_eq] at h
      subst h
      simp only [Pt.go] at e
      split at e
      · rename_i e' ec
        obtain ⟨v2, r2, pe⟩ := cst_pe (X := X) (j := j) (p := p') ec
        refine wpAny_matchPattern_Value (thn (pe.run pins s σ H (fun z H' => z = v2 ∧ H' = H) I ⟨rfl, rfl⟩) fun u2 s1 ⟨z, H1, I1, rz, e1, e2⟩ => ?_)
        subst e1
        subst e2
        have key : ∀ b, eqD M d e' = some b → (∀ r s', Inv X pins σ H1 s' → PatR W F ι X (if b then some [] else none) r → Q r s') → wpAny (model X.prog X.w) X.A (compareOp .Eq u u2) (fun c s₂ => wpAny (model X.prog X.w) X.A (truthy c) (fun b s₃ => if b then Q (some []) s₃ else Q none s₃) X.xe s₂) X.xe s1 := fun b hb hq => by
          refine thn (op_eqW O.K O.toOk.un pins s1 σ H1 v z u u2 (fun y H' => y = .bl b ∧ H' = H1) I1 rv rz ⟨M, F, ι, d, e', b, R, r, r2 F ι, hb, rfl, rfl⟩) fun c s2 ⟨y, H2, I2, ry, e1, e2⟩ => ?_
          subst e1
          subst e2
          cases ry
          refine wpAny_truthy_bool ?_
          cases b with
          | true => exact hq _ _ I2 ⟨[], rfl, .nil⟩
          | false => exact hq _ _ I2 rfl
        split at e
        · rename_i eb
          cases e
          exact key true eb (fun r s' i p => hQ r s' i p)
        · rename_i eb
          cases e
          exact key false eb (fun r s' i p => hQ r s' i p)
        · cases e
      · cases e
    | _ => simp [chP] at h
  | _ => simp [chP] at h
theorem p_alts (X : Cx) (Wx : WX) (O : OkS T Φ W k Wx X) (pins : List (Addr × Obj)) (σ : L2.St) (H F : Hp) (u : Value) (v : V) (d : Dv.D) (M : Mem) (ι : List Addr) (R : Rel W M F H ι) (rv : RelV v u) (r : Rp W F ι v d) :
    ∀ (ps : List Pt) (qs : List Pattern), chPs X.N X.env.scope ps qs = true → chNo X.N ps = true → ∀ (res : Option (List (Nat × Dv.D))) (s : Shared) (Q : Option (List (Str × Value)) → Shared → Prop), Inv X pins σ H s → Pt.alts M ps d = some res →
      (∀ r s', Inv X pins σ H s' → PatR W F ι X res r → (∀ l, res = some l → l = []) → Q r s') → wpAny (model X.prog X.w) X.A (matchFirst qs X.env u) Q X.xe s
  | [], [], _, _, res, s, Q, I, e, hQ => by
    simp only [Pt.alts] at e
    cases e
    exact wpAny_matchFirst_nil (hQ _ _ I rfl fun l z => by cases z)
  | p :: ps, q :: qs, h, hn, res, s, Q, I, e, hQ => by
    simp only [chPs, Bool.and_eq_true] at h
    cases p with
    | val c =>
      simp only [chNo] at hn
      rw [Pt.alts] at e
      cases ev : Pt.go M (.val c) d with
      | none => rw [ev] at e; cases e
      | some r0 =>
        rw [ev] at e
        refine wpAny_matchFirst_cons (p_val c X Wx O h.1 pins s σ H F u v d M ι r0 _ I R rv r ev fun r1 s' I' pr => ?_)
        cases r0 with
        | some l =>
          have hl : l = [] := by
            simp only [Pt.go] at ev
            split at ev
            · split at ev <;> cases ev
              rfl
            · cases ev
          subst hl
          cases e
          obtain ⟨bs, rfl, tk⟩ := pr
          exact hQ _ _ I' ⟨bs, rfl, tk⟩ fun l z => by cases z; rfl
        | none =>
          have : r1 = none := pr
          subst this
          exact p_alts X Wx O pins σ H F u v d M ι R rv r ps qs h.2 hn res s' Q I' e hQ
    | _ => simp [chNo] at hn
  | [], _ :: _, h, _, _, _, _, _, _, _ => by simp [chPs] at h
  | _ :: _, [], h, _, _, _, _, _, _, _ => by simp [chPs] at h
theorem first_names {N : List Str} {sc : Scope} {ps : List Pt} {qs : List Pattern} (h : chPs N sc ps qs = true) (hn : chNo N ps = true) : namesOfAll (qs.take 1) = [] := by
  match ps, qs, h with
  | [], [], _ => rfl
  | [], _ :: _, h => simp [chPs] at h
  | _ :: _, [], h => simp [chPs] at h
  | p :: ps, q :: qs, h =>
    simp only [chPs, Bool.and_eq_true] at h
    cases p with
    | val c =>
      cases q with
      | MatchValue x p => rfl
      | _ => simp [chP] at h
    | _ => simp [chNo] at hn
theorem pats_plain {N : List Str} {sc : Scope} : ∀ {ps : List Pt} {qs : List Pattern}, chPs N sc ps qs = true → qs.length = ps.length ∧ qs.findIdx? (·.isStar) = none ∧ (qs.all fun p => p.isWildcard || (p.isStar && p.names.isEmpty)) = (ps.all fun p => match p with | .wild => true | _ => false)
  | [], [], _ => ⟨rfl, rfl, rfl⟩
  | [], _ :: _, h => by simp [chPs] at h
  | _ :: _, [], h => by simp [chPs] at h
  | p :: ps, q :: qs, h => by
    simp only [chPs, Bool.and_eq_true] at h
    obtain ⟨h1, h2, h3⟩ := pats_plain h.2
    have hs : q.isStar = false := by
      cases q <;> first | rfl | (cases p <;> simp [chP] at h)
    have hw : q.isWildcard = (match p with | .wild => true | _ => false) := by
      have h0 := h.1
      unfold chP at h0
      split at h0 <;> first | rfl | (cases h0; done)
    refine ⟨by simp [h1], by rw [List.findIdx?_cons, hs]; simp [h2], ?_⟩
    rw [List.all_cons, List.all_cons, h3, hs, hw]
    cases p <;> simp
mutual
theorem pat_ok : ∀ p : Pt, PatOk T Φ W k p
  | .wild => fun X Wx O q h pins s σ H F u v d M ι res Q I R rv r e hQ => by
    simp only [Pt.go] at e
    cases e
    cases q with
    | MatchAs p n pos =>
      cases p with
      | some _ => simp [chP] at h
      | none =>
        cases n with
        | some _ => simp [chP] at h
        | none => exact wpAny_matchPattern_Capture (hQ _ _ I ⟨[], rfl, .nil⟩)
    | _ => simp [chP] at h
  | .cap i => fun X Wx O q h pins s σ H F u v d M ι res Q I R rv r e hQ => by
    simp only [Pt.go] at e
    cases e
    cases q with
    | MatchAs p n pos =>
      cases p with
      | some _ => simp [chP] at h
      | none =>
        cases n with
        | none => simp [chP] at h
        | some x =>
          simp only [chP, Bool.and_eq_true, decide_eq_true_eq] at h
          exact wpAny_matchPattern_Capture (hQ _ _ I ⟨[(x, u)], rfl, .cons h.1.1 h.1.2 rv r .nil⟩)
    | _ => simp [chP] at h
  | .val c => p_val c
  | .alt ps => fun X Wx O q h pins s σ H F u v d M ι res Q I R rv r e hQ => by
    cases q with
    | MatchOr qs pos =>
      simp only [chP, Bool.and_eq_true] at h
      simp only [Pt.go] at e
      refine wpAny_matchPattern_Or (p_alts X Wx O pins σ H F u v d M ι R rv r ps qs h.1 h.2 res s _ I e fun r1 s' I' pr hl => ?_)
      cases res with
      | none =>
        have : r1 = none := pr
        subst this
        exact hQ _ _ I' rfl
      | some l =>
        obtain ⟨bs, rfl, tk⟩ := pr
        have := hl l rfl
        subst this
        cases tk
        have e1 := first_names h.1 h.2
        show Q (some ((namesOfAll (qs.take 1)).filterMap _)) s'
        rw [e1]
        exact hQ _ _ I' ⟨[], rfl, .nil⟩
    | _ => simp [chP] at h
  | .seq ps => fun X Wx O q h pins s σ H F u v d M ι res Q I R rv r e hQ => by
    cases q with
    | MatchSequence qs pos =>
      simp only [chP, Bool.and_eq_true, Bool.not_eq_true', decide_eq_true_eq] at h
      obtain ⟨⟨h1, h2⟩, h3⟩ := h
      obtain ⟨g1, g2, g3⟩ := pats_plain h1
      replace g3 := g3.trans h2
      cases r with
      | @tup a vs ds sq rs =>
        have hq : SqT X.K H a vs := by rw [O.K]; exact Same.seqT R.sub sq
        cases (show u = Value.ref a from rv)
        obtain ⟨its, rv', ht, hz⟩ := I.tuple hq
        have hn := line63
        have hlen : its.length = ds.length := by rw [← rv'.length, rs.length]
        have hsz : its.toArray.size = ds.length := by simpa using hlen
        have hfit : (its.toArray.size : Int) < 2 ^ 63 := by
          have := rs.length
          omega
        simp only [Pt.go] at e
        have I1 : Inv X pins σ H { s with toks := s.toks + 1 + 1 } := I.tok _
        split at e
        · rename_i hl
          refine matchSeq_tuple_hit ht hfit (by rw [hsz, hl, g1]) ?_ g2 g3
          have hp : qs.length = its.toArray.size := by rw [hsz, hl, g1]
          rw [hp]
          refine unpackItems_tuple (I.ok.hd O.calm) ht fun h' hx => ?_
          have I2 : Inv X pins σ H { s with heap := h', toks := s.toks + 1 + 1 } := I.kept (t' := s.toks + 1 + 1) fun b o e => hx b o (Nat.ne_of_lt (Heap.lt_size e)) e
          exact pats_ok ps X Wx O h1 pins _ σ H F its vs ds M ι res Q I2 R rv' rs hl e hQ
        · rename_i hl
          cases e
          exact matchSeq_tuple_miss ht hfit (by rw [hsz, g1]; exact hl) (hQ _ _ I1 rfl) g2 g3
      | _ => simp [Pt.go] at e
    | _ => simp [chP] at h
theorem pats_ok : ∀ p : List Pt, PatsOk T Φ W k p
  | [] => fun X Wx O q h pins s σ H F us vs ds M ι res Q I R rv r hl e hQ => by
    cases q with
    | cons _ _ => simp [chPs] at h
    | nil =>
      have e' : res = some [] := by cases ds <;> (simp only [Pt.gos] at e; cases e; rfl)
      subst e'
      exact wpAny_matchEach_nil (hQ _ _ I ⟨[], rfl, .nil⟩)
  | p :: ps => fun X Wx O q h pins s σ H F us vs ds M ι res Q I R rv r hl e hQ => by
    cases q with
    | nil => simp [chPs] at h
    | cons q qs =>
      simp only [chPs, Bool.and_eq_true] at h
      cases r with
      | nil => simp at hl
      | @cons v vs d ds r rs =>
        cases rv with
        | cons rv rvs =>
          rename_i u us
          have hs : q.isStar = false := by
            have h0 := h.1
            cases q <;> first | rfl | (cases p <;> simp [chP] at h0)
          simp only [Pt.gos] at e
          cases e1 : Pt.go M p d with
          | none => rw [e1] at e; simp at e
          | some r0 =>
            rw [e1] at e
            refine wpAny_matchEach_cons (pat_ok p X Wx O h.1 pins s σ H F u v d M ι r0 _ I R rv r e1 fun r1 s1 I1 pr => ?_) hs
            cases r0 with
            | none =>
              have : r1 = none := pr
              subst this
              simp only at e
              cases e
              exact hQ _ _ I1 rfl
            | some l =>
              obtain ⟨bs, rfl, tk⟩ := pr
              simp only at e
              cases e2 : Pt.gos M ps ds with
              | none => rw [e2] at e; simp at e
              | some r2 =>
                rw [e2] at e
                refine pats_ok ps X Wx O h.2 pins s1 σ H F us vs ds M ι r2 _ I1 R rvs rs (by simpa using hl) e2 fun r3 s2 I2 pr => ?_
                cases r2 with
                | none =>
                  have : r3 = none := pr
                  subst this
                  simp only at e
                  cases e
                  exact hQ _ _ I2 rfl
                | some l2 =>
                  obtain ⟨bs2, rfl, tk2⟩ := pr
                  simp only at e
                  cases e
                  exact hQ _ _ I2 ⟨bs ++ bs2, rfl, tk.app tk2⟩
end
theorem took_store {X : Cx} {Wx : WX} (O : OkS T Φ W k Wx X) {F : Hp} {ι : List Addr} {pins : List (Addr × Obj)} {H : Hp} {Q : Unit → Shared → Prop} : ∀ {l : List (Nat × Dv.D)} {bs : List (Str × Value)} {s : Shared} {σ : L2.St} {ρ : Env'}, Took W F ι X l bs → Inv X pins σ H s → RelS W F ι ρ σ →
    (∀ s' σ', Inv X pins σ' H s' → RelS W F ι (sets ρ l) σ' → Q () s') → wpAny (model X.prog X.w) X.A (assignInOrder (bs.map fun (n, _) => bindName X.env n) (bs.map (·.2))) Q X.xe s
  | _, _, s, σ, ρ, .nil, I, S, h => wpAny_assignInOrder_none (h _ _ I S)
  | _, _, s, σ, ρ, .cons a b c d tk, I, S, h => by
    refine wpAny_assignInOrder_more (bindName_ (store_ok I O.nd a (loc_of b) c (fun s' I' => ?_) (.inl (O.fnt _))))
    exact took_store O tk I' (S.set _ d) h
theorem m_ok {X : Cx} {Wx : WX} (O : OkS T Φ W k Wx X) {pins : List (Addr × Obj)} {σ : L2.St} {H : Hp} {D : Ends} {u : Value} {v : V} {d : Dv.D} {M : Mem} {F : Hp} {ι : List Addr} {ρ : Env'} (R : Rel W M F H ι) (S : RelS W F ι ρ σ) (rv : RelV v u) (r : Rp W F ι v d) :
    ∀ (ps : List Pt) (bs : List (List Dv.S)) (cs : List MatchCase), (∀ b ∈ bs, SsOk T Φ W k b) → chCs T X.N X.env.scope ps bs cs = true → ∀ (s : Shared) (first : Bool), Inv X pins σ H s → PoS W Wx D (xm Φ T ps bs d ρ M) M F H ι →
      wpAny (model X.prog X.w) X.A (matchCases cs X.env u first) (SP X pins D) X.xe s
  | [], [], [], _, _, s, first, I, p => wpAny_matchCases_nil ⟨σ, H, I, p _ _ _ _ R Grow.refl S⟩
  | q :: ps, b :: bs, ⟨q', g, c⟩ :: cs, hb, h, s, first, I, p => by
    cases g with
    | some _ => simp [chCs] at h
    | none =>
      simp only [chCs, Bool.and_eq_true] at h
      obtain ⟨⟨h1, h2⟩, h3⟩ := h
      rw [xm] at p
      cases e : Pt.go M q d with
      | none => rw [e] at p; exact p.elim
      | some res =>
        rw [e] at p
        refine wpAny_matchCases_cons (pat_ok q X Wx O h1 pins s σ H F u v d M ι res _ I R rv r e fun r1 s' I' pr => ?_)
        cases res with
        | none =>
          have : r1 = none := pr
          subst this
          exact m_ok O R S rv r ps bs cs (fun b hb' => hb b (List.mem_cons_of_mem _ hb')) h3 s' false I' p
        | some l =>
          obtain ⟨bs', rfl, tk⟩ := pr
          refine took_store O tk I' S fun s2 σ2 I2 S2 => ?_
          exact (hb b List.mem_cons_self X Wx O h2).run pins s2 σ2 H D I2 ⟨_, M, F, ι, R, S2, p⟩
  | [], _ :: _, _, _, h, _, _, _, _ => by simp [chCs] at h
  | _ :: _, [], _, _, h, _, _, _, _ => by simp [chCs] at h
  | _ :: _, _ :: _, [], _, h, _, _, _, _ => by simp [chCs] at h
  | [], [], _ :: _, _, h, _, _, _, _ => by simp [chCs] at h
theorem s_mat {e : E} {ps : List Pt} {bs : List (List Dv.S)} (ib : ∀ b ∈ bs, SsOk T Φ W k b) : SOk T Φ W k (.mat e ps bs) := fun X Wx O x h => by
  simp only [chS] at h
  split at h
  · rename_i y cs e1
    obtain ⟨pos, rfl⟩ := asMat_eq e1
    simp only [Bool.and_eq_true] at h
    refine ⟨fun pins s σ H D I q => ?_⟩
    obtain ⟨ρ, M, F, ι, R, S, p⟩ := q
    simp only [xc] at p
    refine wpAny_Match (thn ((ex_ok O h.1).run pins s σ H _ I (stepS (rel := Rp W) R S p)) fun u s1 ⟨v, H1, I1, rv, M1, F1, ι1, d, R1, S1, g1, r1, p1⟩ => ?_)
    exact m_ok O R1 S1 rv r1 ps bs cs ib h.2 s1 true I1 p1
  · cases h
/-! ### lists of statements -/
theorem ss_nil : SsOk T Φ W k [] := fun X Wx O x h => by
  cases x with
  | cons _ _ => simp [chSs] at h
  | nil => exact pss_nil.imp fun D σ H ⟨ρ, M, F, ι, R, S, p⟩ => p _ _ _ _ R Grow.refl S
theorem ss_frz {i : Nat} {r : List Dv.S} (ir : SsOk T Φ W k r) : SsOk T Φ W k (.frz i :: r) := fun X Wx O x h => by
  simp only [chSs] at h
  refine (ir X Wx O h).imp fun D σ H ⟨ρ, M, F, ι, R, S, p⟩ => ?_
  cases e1 : ρ[i]? with
  | none => simp only [xs, xc, e1] at p; exact p.elim
  | some o =>
    cases o with
    | none => simp only [xs, xc, e1] at p; exact p.elim
    | some d0 =>
      cases d0 with
      | loc n =>
        cases e2 : M[n]? with
        | none => simp only [xs, xc, e1, e2] at p; exact p.elim
        | some mo =>
          cases mo with
          | none => simp only [xs, xc, e1, e2] at p; exact p.elim
          | some m =>
            cases m with
            | lst ds =>
              simp only [xs, xc, e1, e2] at p
              obtain ⟨v, g1, g2⟩ := S.at_ i _ e1
              obtain ⟨a, vs, rfl, ha, hH, rv⟩ := loc_lst R g2 e2
              have lv : live M n := ⟨_, e2⟩
              have gr := Grow.freeze (o := .lst vs) R ha lv
              have S' := (S.mono gr.f gr.i).set i (v := .ref a) (d := .lst ds) (.lst upd_same (rv.mono gr.f gr.i))
              refine ⟨_, _, _, ι, R.freeze ha lv hH, ?_, p.from gr⟩
              have : σ.set i (some (.ref a)) = σ := by
                apply List.ext_getElem?
                intro j
                by_cases hj : i = j
                · subst hj
                  rw [List.getElem?_set_self (List.getElem?_eq_some_iff.mp g1).1, g1]
                · rw [List.getElem?_set_ne hj]
              rw [this] at S'
              exact S'
            | _ => simp only [xs, xc, e1, e2] at p; exact p.elim
      | _ => simp only [xs, xc, e1] at p; exact p.elim
theorem ss_cons {s : Dv.S} {r : List Dv.S} (hs : ∀ i, s ≠ .frz i) (is : SOk T Φ W k s) (ir : SsOk T Φ W k r) : SsOk T Φ W k (s :: r) := fun X Wx O x h => by
  have h' : ∃ y ys, x = y :: ys ∧ chS T X.N X.env.scope s y = true ∧ chSs T X.N X.env.scope r ys = true := by
    have h0 : (match (generalizing := false) x with | y :: ys => chS T X.N X.env.scope s y && chSs T X.N X.env.scope r ys | [] => false) = true := by
      cases s with
      | frz i => exact absurd rfl (hs i)
      | _ => exact h
    split at h0
    · simp only [Bool.and_eq_true] at h0
      exact ⟨_, _, rfl, h0.1, h0.2⟩
    · cases h0
  obtain ⟨y, ys, rfl, h1, h2⟩ := h'
  refine (pss_cons (is X Wx O h1) (ir X Wx O h2)).imp fun D σ H ⟨ρ, M, F, ι, R, S, p⟩ => ⟨ρ, M, F, ι, R, S, ?_⟩
  simp only [xs] at p
  cases e : xc Φ T s ρ M with
  | nx ρ1 M1 =>
    rw [e] at p
    exact fun σ' F' H' ι' a b c => ⟨ρ1, M1, F', ι', a, c, p.from b⟩
  | rt d M1 => rw [e] at p; exact p
  | bk ρ1 M1 => rw [e] at p; exact p
  | ct ρ1 M1 => rw [e] at p; exact p
  | er x ρ1 M1 => rw [e] at p; exact p
  | bad => rw [e] at p; exact p
theorem ss_step {s : Dv.S} {r : List Dv.S} (is : SOk T Φ W k s) (ir : SsOk T Φ W k r) : SsOk T Φ W k (s :: r) := by
  cases s with
  | frz i => exact ss_frz ir
  | _ => exact ss_cons (fun i z => by cases z) is ir
def AllSs (T : Tb) (Φ : Calls) (W : Wd) (k : Nat) (l : List (List Dv.S)) : Prop := ∀ b ∈ l, SsOk T Φ W k b
theorem alls_cons {a : List Dv.S} {l : List (List Dv.S)} (h : SsOk T Φ W k a) (t : AllSs T Φ W k l) : AllSs T Φ W k (a :: l) := fun b hb => by
  rcases List.mem_cons.mp hb with rfl | h'
  · exact h
  · exact t b h'
mutual
theorem s_ok : ∀ s : Dv.S, SOk T Φ W k s
  | .exp e => s_exp e
  | .set tg e => s_set tg e
  | .par i j a b => s_par i j a b
  | .aug i op e => s_aug i op e
  | .sst o i e => s_sst o i e
  | .ite t a b => s_ite (ss_ok a) (ss_ok b)
  | .whl t b => s_whl (ss_ok b)
  | .fr tg it b => s_fr (ss_ok b)
  | .ret e => s_ret e
  | .retN => s_retN
  | .pass => s_pass
  | .brk => s_brk
  | .cnt => s_cnt
  | .mat e ps bs => s_mat (sss_ok bs)
  | .frz i => s_frz i
theorem ss_ok : ∀ l : List Dv.S, SsOk T Φ W k l
  | [] => ss_nil
  | s :: r => ss_step (s_ok s) (ss_ok r)
theorem sss_ok : ∀ l : List (List Dv.S), AllSs T Φ W k l
  | [] => fun b h => nomatch h
  | a :: l => alls_cons (ss_ok a) (sss_ok l)
end
end
end Dv
end L2
/-! Dv: a call's end, defs, all defs -/
namespace L2
namespace Dv
open PySem PySem.Spec PyProof.Rows

section
variable {W : Wd} {F F' H H' : Hp} {ι ι' : List Addr} {n : Nat}
/-! ### what has only places below n -/
mutual
theorem Rp.low : ∀ {v : V} {d : Dv.D}, Rp W F ι v d → d.bel n = true → Rp W F (ι.take n) v d
  | _, _, .non, _ => .non
  | _, _, .bl b, _ => .bl b
  | _, _, .int i, _ => .int i
  | _, _, .str x, _ => .str x
  | _, _, .tup h r, b => .tup h (r.low (by simpa only [D.bel] using b))
  | _, _, .lst h r, b => .lst h (r.low (by simpa only [D.bel] using b))
  | _, _, .ro h r, b => .ro h (r.low (by simpa only [D.bel] using b))
  | _, _, .dic h r1 r2, b => by
    simp only [D.bel, Bool.and_eq_true] at b
    exact .dic h (r1.low b.1) (r2.low b.2)
  | _, _, .obj hc h l r, b => .obj hc h l (r.low (by simpa only [D.bel] using b))
  | _, _, .loc (n := k) h, b => .loc (by
    simp only [D.bel, decide_eq_true_eq] at b
    rw [List.getElem?_take_of_lt b]
    exact h)
theorem Rps.low : ∀ {vs : List V} {ds : List Dv.D}, Rps W F ι vs ds → D.bels n ds = true → Rps W F (ι.take n) vs ds
  | _, _, .nil, _ => .nil
  | _, _, .cons r rs, b => by
    simp only [D.bels, Bool.and_eq_true] at b
    exact .cons (r.low b.1) (rs.low b.2)
end
theorem MRp.low {o : HO} {m : MO} : MRp W F ι o m → m.bel n = true → MRp W F (ι.take n) o m
  | .lst r, b => .lst (r.low (by simpa only [MO.bel] using b))
  | .dic r1 r2, b => by
    simp only [MO.bel, Bool.and_eq_true] at b
    exact .dic (r1.low b.1) (r2.low b.2)
  | .ins hc l r, b => .ins hc l (r.low (by simpa only [MO.bel] using b))
theorem old_at : ∀ {M : Mem} {k : Nat} {m : MO}, oldOk n M = true → M[k]? = some (some m) → m.bel n = true
  | [], _, _, _, e => by simp at e
  | none :: r, 0, _, _, e => by simp at e
  | none :: r, k + 1, _, h, e => old_at (M := r) (by simpa only [oldOk] using h) (by simpa using e)
  | some o :: r, 0, m, h, e => by
    simp only [oldOk, Bool.and_eq_true] at h
    have : o = m := by simpa using e
    rw [← this]
    exact h.1
  | some o :: r, k + 1, _, h, e => by
    simp only [oldOk, Bool.and_eq_true] at h
    exact old_at h.2 (by simpa using e)
theorem take_at {α : Type} {l : List α} {k : Nat} {x : α} (h : (l.take n)[k]? = some x) : k < n ∧ l[k]? = some x := by
  by_cases hk : k < n
  · rw [List.getElem?_take_of_lt hk] at h
    exact ⟨hk, h⟩
  · rw [List.getElem?_eq_none (by simp; omega)] at h
    cases h
theorem live_take {M : Mem} {k : Nat} (l : live (M.take n) k) : k < n ∧ live M k := by
  obtain ⟨o, e⟩ := l
  obtain ⟨h1, h2⟩ := take_at e
  exact ⟨h1, o, h2⟩
theorem Rel.trim {M : Mem} (R : Rel W M F H ι) (ok : oldOk n (M.take n) = true) : Rel W (M.take n) F H (ι.take n) where
  sub := R.sub
  len := by rw [List.length_take, List.length_take, R.len]
  nd := R.nd.sublist (List.take_sublist _ _)
  trk := fun k a e => R.trk k a (take_at e).2
  off := fun k a e l => R.off k a (take_at e).2 (live_take l).2
  has := fun k a m e l => by
    obtain ⟨o, h1, h2⟩ := R.has k a m (take_at e).2 (take_at l).2
    exact ⟨o, h1, h2.low (old_at ok l)⟩
theorem Grow.trim {M M' : Mem} (R : Rel W M F H ι) (g : Grow M F H ι M' F' H' ι') (hn : n = M.length) : Grow M F H ι (M'.take n) F' H' (ι'.take n) where
  f := g.f
  i := fun k a e => by
    have hk : k < n := by rw [hn, ← R.len]; exact (List.getElem?_eq_some_iff.mp e).1
    rw [List.getElem?_take_of_lt hk]
    exact g.i k a e
  keep := g.keep
  there := g.there
  fresh := fun k a e => g.fresh k a (take_at e).2
  lv := fun k a e l => g.lv k a e (live_take l).2
  fz := g.fz
theorem take_set {M : Mem} {k : Nat} (h : n ≤ k) : (M.set k none).take n = M.take n := by
  apply List.ext_getElem?
  intro j
  by_cases hj : j < n
  · rw [List.getElem?_take_of_lt hj, List.getElem?_take_of_lt hj, List.getElem?_set_ne (by omega)]
  · rw [List.getElem?_eq_none (by simp; omega), List.getElem?_eq_none (by simp; omega)]
/-- THE END OF A CALL: places made within are forgotten, the value is taken as it stands -/
theorem trim_ok {M M' : Mem} {v : V} {d e : Dv.D} (R0 : Rel W M F H ι) (hn : n = M.length) (R : Rel W M' F' H' ι') (g : Grow M F H ι M' F' H' ι') (r : Rp W F' ι' v d) (he : res M' n d = some e) (ok : oldOk n (M'.take n) = true) :
    ∃ F2, Rel W (M'.take n) F2 H' (ι'.take n) ∧ Grow M F H ι (M'.take n) F2 H' (ι'.take n) ∧ Rp W F2 (ι'.take n) v e := by
  have plain : d.bel n = true → e = d → ∃ F2, Rel W (M'.take n) F2 H' (ι'.take n) ∧ Grow M F H ι (M'.take n) F2 H' (ι'.take n) ∧ Rp W F2 (ι'.take n) v e := fun hb z => by
    subst z
    exact ⟨F', R.trim ok, g.trim R0 hn, r.low hb⟩
  have other : (∀ k, d ≠ .loc k) → ∃ F2, Rel W (M'.take n) F2 H' (ι'.take n) ∧ Grow M F H ι (M'.take n) F2 H' (ι'.take n) ∧ Rp W F2 (ι'.take n) v e := fun hl => by
    have h1 : (if d.bel n then some d else none) = some e := by
      cases d <;> first | exact he | exact absurd rfl (hl _)
    by_cases hb : d.bel n = true
    · rw [if_pos hb] at h1
      exact plain hb (by cases h1; rfl)
    · rw [if_neg hb] at h1
      cases h1
  cases r with
  | @loc k a ha =>
    by_cases hk : k < n
    · refine plain (by simpa only [D.bel, decide_eq_true_eq] using hk) ?_
      simp only [res, if_pos hk] at he
      cases he
      rfl
    · simp only [res, if_neg hk] at he
      have fin : ∀ (m : MO) (o : HO), M'[k]? = some (some m) → H' a = some o → (Rp W (upd F' a o) (ι'.take n) (.ref a) e) → ∃ F2, Rel W (M'.take n) F2 H' (ι'.take n) ∧ Grow M F H ι (M'.take n) F2 H' (ι'.take n) ∧ Rp W F2 (ι'.take n) (.ref a) e := fun m o hm ho hr => by
        have lv : live M' k := ⟨m, hm⟩
        have R2 := R.freeze ha lv ho
        have e1 : (M'.set k none).take n = M'.take n := take_set (by omega)
        have R3 := R2.trim (n := n) (by rw [e1]; exact ok)
        have g3 := (g.trans (Grow.freeze (o := o) R ha lv)).trim R0 hn
        rw [e1] at R3 g3
        exact ⟨_, R3, g3, hr⟩
      have sm : ∀ o : HO, H' a = some o → live M' k → Same F' (upd F' a o) := fun o ho lv => same_upd (R.off k a ha lv)
      split at he
      · rename_i xs em
        split at he
        · rename_i hb
          cases he
          obtain ⟨o, ho, mr⟩ := R.has k a _ ha em
          cases mr with
          | lst rs => exact fin _ _ em ho (.lst upd_same ((rs.low hb).mono (sm _ ho ⟨_, em⟩) (Ext.refl _)))
        · cases he
      · rename_i ks vs em
        split at he
        · rename_i hb
          simp only [Bool.and_eq_true] at hb
          cases he
          obtain ⟨o, ho, mr⟩ := R.has k a _ ha em
          cases mr with
          | dic r1 r2 => exact fin _ _ em ho (.dic upd_same ((r1.low hb.1).mono (sm _ ho ⟨_, em⟩) (Ext.refl _)) ((r2.low hb.2).mono (sm _ ho ⟨_, em⟩) (Ext.refl _)))
        · cases he
      · rename_i c ns vs em
        split at he
        · rename_i hb
          cases he
          obtain ⟨o, ho, mr⟩ := R.has k a _ ha em
          cases mr with
          | ins hc l rs => exact fin _ _ em ho (.obj hc upd_same l ((rs.low hb).mono (sm _ ho ⟨_, em⟩) (Ext.refl _)))
        · cases he
      · cases he
  | _ => exact other (fun k z => by cases z)
theorem Pst.trim {Wx : WXH} {Q : VK} {M M' : Mem} {v : V} {d : Dv.D} (R0 : Rel W M F H ι) (p : Pst W Wx (Rp W) Q (Dv.trim M.length d M') M F H ι) (R : Rel W M' F' H' ι') (g : Grow M F H ι M' F' H' ι') (r : Rp W F' ι' v d) : Q v H' := by
  unfold Dv.trim at p
  split at p
  · rename_i e he
    split at p
    · rename_i ok
      obtain ⟨F2, a, b, c⟩ := trim_ok R0 rfl R g r he ok
      exact p _ _ _ _ a b c
    · exact p.elim
  · exact p.elim
/-- .. as the statements' end -/
theorem fin_ok {Q : VK} {E : XK} {M : Mem} {keep : Bool} {r : RS} (R0 : Rel W M F H ι) (p : Pst W (fun c d H' => E c d H') (Rp W) Q (fin keep M.length r) M F H ι) :
    PoS W (fun c d _ H' => E c d H') { nx := fun _ H' => Q .non H', rt := Q } r M F H ι := by
  cases r with
  | nx ρ M' =>
    intro σ' F' H' ι' a b c
    simp only [fin] at p
    split at p
    · exact p _ _ _ _ a b .non
    · exact Pst.trim R0 p a b .non
  | rt d M' =>
    intro v F' H' ι' a b c
    simp only [fin] at p
    split at p
    · exact p _ _ _ _ a b c
    · exact Pst.trim R0 p a b c
  | er x ρ M' =>
    intro σ' cls dx F' H' ι' a b _ c
    simp only [fin] at p
    split at p
    · exact p _ _ _ _ _ a b c
    · exact p.elim
  | bk ρ M' => exact p.elim
  | ct ρ M' => exact p.elim
  | bad => exact p.elim
/-- the slots at the entry -/
theorem relS_start {N : List Str} {vs : List V} {ds : List Dv.D} (r : Rps W F ι vs ds) : RelS W F ι (ds.map some ++ List.replicate (N.length - ds.length) none) (start N vs) := by
  refine ⟨?_, fun i d h => ?_⟩
  · unfold start
    simp [r.length]
  · by_cases hi : i < ds.length
    · rw [List.getElem?_append_left (by simpa using hi), List.getElem?_map] at h
      cases e : ds[i]? with
      | none => rw [e] at h; cases h
      | some d' =>
        rw [e] at h
        cases h
        obtain ⟨v, h1, h2⟩ := r.get e
        refine ⟨v, ?_, h2⟩
        unfold start
        rw [List.getElem?_append_left (by rw [List.length_map, r.length]; exact hi), List.getElem?_map, h1]
        rfl
    · rw [List.getElem?_append_right (by simpa using hi), List.getElem?_replicate] at h
      split at h <;> cases h
end

/-! ### defs -/
section
variable {P : Program} {w : World} {mg : Str → Option Value} {base : Heap}
/-- a def of the text, where nothing is being shown -/
theorem fn_ofG {T : Tb} {Φ : Calls} {W : Wd} {k : Nat} {e : FnE} {st : Stmt} {f : Addr} {fd : FuncData} {sp : Sp} (Fn : Fun W.K e.name e.name st f fd) (S : FnScope e.N e.ps (defScope st)) (ch : chSs T e.N (defScope st) e.body (defBody st) = true)
    (G : Glo T Φ W k P w mg base)
    (len : ∀ vs H Q E, sp vs H Q E → vs.length = e.ps.length)
    (hsp : ∀ vs H Q E, sp vs H Q E → tS W (fun c d _ H' => E c d H') (xs Φ T e.body) { nx := fun _ H' => Q .non H', rt := Q } (start e.N vs) H) : FnG P w W.K mg base (k + 1) f fd e.ps sp := by
  obtain ⟨oc, od, kV, doc, pm, an, cdv, ct, osl, rfl, lk, hcd⟩ := Fn.ex
  refine ⟨len, fun A outer s H args us vs Q E room gd e0 hb rv hs => ?_⟩
  have hl := len _ _ _ _ hs
  have inK : W.K.In s.heap := e0.mod.kin.keeps fun b o z => (e0.bs b o z).1
  have noLim : s.heap.NoLimit := e0.mod.nolimit.keeps fun b o z => (e0.bs b o z).1
  have kinds : ∀ y ∈ e.ps.zip us, (defScope st).names.lookup y.1 = some .local ∨ ((defScope st).names.lookup y.1 = some .cell ∧ ((cellsFrom (s.heap.objs.size + 1) (defScope st).names []).lookup y.1).isSome = true) := fun y hy => by
    rcases S.par y.1 (List.of_mem_zip (a := y.1) (b := y.2) hy).1 with z | z
    · exact Or.inl z
    · exact Or.inr ⟨z, PySem.W.cellsFrom_some _ _ _ (Or.inl z)⟩
  refine codeAny_call_function room.depth (inK _ _ lk) rfl S.co S.gen rfl (PySem.W.codeRec_of inK hcd) (hb _ _ _ _ ?_)
  refine wpAny_newFunctionEnv_cells S.kind kinds fun env ev1 s1 call => ?_
  subst ev1
  refine ⟨noLim.keeps call.toInCall.keep, codeAny_func ?_⟩
  have I := inv_start (CX := L2.CX P w) (E := E) S room.hd e0 hl rv call
  have O : OkS T Φ W k (fun c d _ H' => E c d H') (cxOf (L2.CX P w) P w W.K mg base e.N e.name (defScope st) f cdv A outer s H E) :=
    { K := rfl, nd := S.nd, room := room.deeper _, gd := gd, calm := rfl, glo := G, tk := takes_of rfl rfl rfl rfl, own := passes_of rfl, kind := S.kind, fnt := fun _ => rfl }
  refine wpAny_mono ((ss_ok e.body _ _ O ch).run [] s1 (start e.N vs) H _ I (hsp _ _ _ _ hs)) (fun fl s' h => ?_) fun x s' h => h
  cases fl with
  | next =>
    obtain ⟨σ', H', J, q⟩ := h
    exact ⟨.non, H', J.os, J.bare, J.base, J.hok, rfl, q⟩
  | ret u =>
    obtain ⟨v, σ', H', J, r, q⟩ := h
    exact ⟨v, H', J.os, J.bare, J.base, J.hok, r, q⟩
  | brk => obtain ⟨_, _, _, q⟩ := h; exact q.elim
  | cont => obtain ⟨_, _, _, q⟩ := h; exact q.elim
/-- the module's defs are those of the table -/
structure Fits (T : Tb) (W : Wd) (mg : Str → Option Value) : Prop where
  fn : ∀ f e, T.fn f = some e → ∃ a fd st, mg e.name = some (.ref a) ∧ Fun W.K e.name e.name st a fd ∧ Binds W.K fd e.ps [] ∧ FnScope e.N e.ps (defScope st) ∧ chSs T e.N (defScope st) e.body (defBody st) = true
  gl : ∀ g x d, T.gl g = some (x, d) → ∃ u v, mg x = some u ∧ RelV v u ∧ Rp W (fun _ => none) [] v d
  bl : ∀ x, x ∈ bnames → mg x = none
/-- THE RULE: all defs do as the interpreter says -/
theorem phi_ok {T : Tb} {W : Wd} (ft : Fits T W mg) : ∀ k : Nat, Glo T (Phi T k) W k P w mg base
  | 0 => ⟨fun f e h => by
      obtain ⟨a, fd, st, h1, h2, h3, _⟩ := ft.fn f e h
      exact ⟨a, fd, h1, h2.kp, h3, ⟨fun vs H Q E ⟨M, F, ι, ds, R, r, p⟩ => (show False from p).elim, fun A outer s H args us vs Q E _ _ _ _ _ ⟨M, F, ι, ds, R, r, p⟩ => (show False from p).elim⟩⟩, ft.gl, ft.bl⟩
  | k + 1 => ⟨fun f e h => by
      obtain ⟨a, fd, st, h1, h2, h3, h4, h5⟩ := ft.fn f e h
      refine ⟨a, fd, h1, h2.kp, h3, fn_ofG h2 h4 h5 (phi_ok ft k) (fun vs H Q E ⟨M, F, ι, ds, R, r, p⟩ => ?_) (fun vs H Q E ⟨M, F, ι, ds, R, r, p⟩ => ?_)⟩
      · simp only [Phi, h] at p
        split at p
        · rename_i hl
          rw [r.length, hl]
        · exact p.elim
      · simp only [Phi, h] at p
        split at p
        · exact ⟨_, M, F, ι, R, relS_start r, fin_ok R p⟩
        · exact p.elim, ft.gl, ft.bl⟩
end
end Dv
end L2
/-! Dv: a law, by what the interpreter says -/
namespace L2
namespace Dv
open PySem PySem.Spec PyProof.Rows

/-- the script alone is tracked, or nothing -/
structure Lone (W : Wd) (h : Heap) (H : Hp) (a : Addr) (ob : Obj) (ns : List Int) : Prop where
  only : ∀ b, H b = none ∨ (b = a ∧ W.K.lookup a = none ∧ H b = some (.frz ob (.lst (ns.map V.int))))
  seq : SqL W.K H a (ns.map V.int)
theorem seq_ints {K : PySem.W.Frag} {H : Hp} {cl : Nat → Option Addr} {ι : List Addr} : ∀ ns : List Int, Rps ⟨K, cl⟩ H ι (ns.map V.int) (ns.map D.int)
  | [] => .nil
  | n :: r => .cons (.int n) (seq_ints r)
section
variable {P : Program} {w : World} {W : Wd} {mg mb : Str → Option Value} {k : Nat} {fa a : Addr} {fd : FuncData} {ps : List Str} {sp : Sp} {s : Shared} {vs : List Value} {ns : List Int}
theorem lone_run {H : Hp} {ob : Obj} (eo : ob = { cls := .type "list", data := .seq vs.toArray }) (L : Lone W s.heap H a ob ns) (hok : HOk P w H s.heap) (inK : W.K.In s.heap) (hns : s.heap.Ns mainGlobals mg) (hb : s.heap.Ns builtinsNs mb) (hbb : ∀ x : Str, x ≠ "__name__" → mb x = bootBuiltins x)
    (noLim : s.heap.NoLimit) (hg : s.gens = #[]) (ha : s.heap.get? a = some ob) (room : Room k callerA)
    (G : FnG P w W.K mg (hidT s.heap H) k fa fd ps sp) (bnd : Binds W.K fd ps []) (h1 : ps.length = 1)
    (hsp : sp [.ref a] H (fun v _ => v = .bl true) fun _ _ _ => False) :
    codeAny (model P w) callerA (.call (.ref fa) ⟨[.ref a], []⟩) (fun r s' => r = .ok (.ret (.bool true)) ∧ OldK s.heap s'.heap ∧ s'.os = s.os ∧ AllBare s'.gens) s := by
  have plain : ∀ {b : Addr} {o : Obj}, s.heap.get? b = some o → (b ≠ a ∨ H b = none) → H b = none := fun {b o} _ z => by
    rcases L.only b with q | ⟨q, _⟩
    · exact q
    · rcases z with z | z
      · exact absurd q z
      · exact z
  have shown : ∀ {b : Addr} {o : Obj}, s.heap.get? b = some o → H b = none → (hidT s.heap H).get? b = some o := fun e n => hidT_get e n
  have dicts : ∀ {b : Addr} {o : Obj} {es : Array DictEntry} {ep : Nat}, s.heap.get? b = some o → o.data = .dict es ep → H b = none := fun {b o es ep} e dt => plain e (by
    by_cases z : b = a
    · subst z
      rw [ha] at e
      cases e
      rw [eo] at dt
      cases dt
    · exact Or.inl z)
  have nss : ∀ {b : Addr} {m : Str → Option Value}, s.heap.Ns b m → (hidT s.heap H).Ns b m := fun {b m} ⟨o, es, ep, e, dt, r⟩ => ⟨o, es, ep, shown e (dicts e dt), dt, r⟩
  have ground : Mod W.K mg (hidT s.heap H) :=
    { kin := fun b o e => shown (inK b o e) (plain (inK b o e) (by
        rcases L.only b with q | ⟨q, n, _⟩
        · exact Or.inr q
        · subst q; rw [n] at e; cases e))
      glob := nss hns
      blt := ⟨mb, nss hb, hbb⟩
      nolimit := by obtain ⟨mc, g1, g2⟩ := noLim; exact ⟨mc, nss g1, g2⟩ }
  have start : Env0 P w W.K mg (hidT s.heap H) callerA [] s H :=
    { frames := rfl, mod := ground, bs := fun b o e => of_hidT e, bsz := Nat.le_of_eq (hidT_size _ _), funs := trivial
      frf := fun b z => absurd (show b ∈ ([] : List Addr) from z) List.not_mem_nil
      hok := hok, bare := .of_eq hg }
  have args : BindsTo s fd ⟨[.ref a], []⟩ (ps.zip [.ref a]) := by
    have z := bnd s [.ref a] inK (by simpa using h1.symm)
    simpa using z
  refine codeAny_mono (G.run callerA [] s H ⟨[.ref a], []⟩ [.ref a] [.ref a] _ _ room rfl start args (.cons rfl .nil) hsp) fun r s' h => ?_
  match r, h with
  | .error e, h =>
    obtain ⟨_, _, _, _, _, _, _, _, _, _, _, _, z⟩ := h
    exact z.elim
  | .ok .next, h => exact False.elim h
  | .ok .brk, h => exact False.elim h
  | .ok .cont, h => exact False.elim h
  | .ok (.ret u), h =>
    obtain ⟨v, H', os, bare, un, hok', r', q⟩ := h
    have q : v = .bl true := q
    subst q
    have r' : u = .bool true := r'
    subst r'
    refine ⟨rfl, OldK.of_keep fun b o e => ?_, os, bare⟩
    rcases L.only b with z | ⟨_, _, z⟩
    · exact un.keep b o e z (by intro y; exact absurd (show b ∈ ([] : List Addr) from y) List.not_mem_nil) List.not_mem_nil
    · obtain ⟨e2, _⟩ := hok' b _ (un.frzs b ob _ z)
      obtain ⟨e1, _⟩ := hok b _ z
      rw [e] at e1
      cases e1
      exact e2
/-- the script's own heap -/
theorem lone_of (inK : W.K.In s.heap) (hi : IntsAre vs ns) (hl : ns.length ≤ sizeLine) (ha : s.heap.get? a = some { cls := .type "list", data := .seq vs.toArray }) :
    ∃ H, Lone W s.heap H a { cls := .type "list", data := .seq vs.toArray } ns ∧ HOk P w H s.heap := by
  have rv := vals_ints hi
  cases e : W.K.lookup a with
  | none =>
    refine ⟨fun b => if b = a then some (.frz { cls := .type "list", data := .seq vs.toArray } (.lst (ns.map V.int))) else none, ⟨fun b => ?_, .inl (.inr ⟨_, if_pos rfl⟩)⟩, fun b u z => ?_⟩
    · by_cases hb : b = a
      · exact Or.inr ⟨hb, e, if_pos hb⟩
      · exact Or.inl (if_neg hb)
    · by_cases hb : b = a
      · replace z := (if_pos hb).symm.trans z
        cases z
        subst hb
        exact ⟨ha, by rw [List.length_map]; exact hl, vs, _, rv, ha⟩
      · replace z := (if_neg hb).symm.trans z
        cases z
  | some o =>
    have z := inK a o e
    rw [ha] at z
    cases z
    refine ⟨fun _ => none, ⟨fun b => Or.inl rfl, .inr ⟨_, vs.toArray, _, e, rfl, rfl, rfl, by rw [List.size_toArray, hi.length]; exact hl, by simpa using rv⟩⟩, fun b u z => ?_⟩
    exact absurd (show (none : Option HO) = some u from z) (fun y => nomatch y)
end
/-- THE END: the law holds where the interpreter says True -/
theorem walk_dv {l : PySem.W.OpenLaw} {n k : Nat} {q : Program} {loose : List Str} {XP : (Str → Option Value) → Heap → Prop} {YP : World → Heap → Prop} {d : DefRec} {K : Params → PySem.W.Frag} {T : Tb} {fL : Nat} {eL : FnE}
    (hT : T.fn fL = some eL) (hname : eL.name = d.name) (hps : eL.ps.length = 1) (hn : l.most = some n) (hn2 : n ≤ sizeLine) (hdf : d.params.defaults = []) (room : Room k callerA)
    (hY : ∀ (w : World) (h : Heap), YP w h → (K w.params).In h)
    (F : ∀ (w : World) (mg : Str → Option Value) (h : Heap), (K w.params).In h → h.Ns mainGlobals mg → ∃ cl, Fits T ⟨K w.params, cl⟩ mg)
    (law : ∀ ns : List Int, ns.length ≤ n → (∀ i ∈ ns, Builtin.Int.intBits i ≤ 1048576) → ∃ M, Phi T k fL [.ro (ns.map D.int)] [] = .ok (.bl true) M) :
    PySem.W.WalkO q loose XP YP l.row.toRowW d [] (fun f vs => PySem.call f vs) := by
  refine Att.attach_callB hn hdf fun w s₀ s₁ mg mb fa o pm cd doc a vs ns G Y ho hd hcd hmg hobj hints hlen hbits hg => ?_
  have inK := hY w _ Y
  obtain ⟨cl, ft⟩ := F w mg _ inK G.T.g
  obtain ⟨H, L, hok⟩ := lone_of (P := l.prog) (w := w) (W := ⟨K w.params, cl⟩) inK hints (Nat.le_trans hlen hn2) hobj
  obtain ⟨f, fd, h1, h2, h3, h4⟩ := (phi_ok (P := l.prog) (w := w) (base := hidT s₁.heap H) ft k).fn fL eL hT
  rw [hname, hmg] at h1
  cases h1
  refine lone_run rfl L hok inK G.T.g G.T.b G.T.builtins G.T.nolimit hg hobj room h4 h3 hps ?_
  obtain ⟨M, e⟩ := law ns hlen hbits
  refine ⟨[], H, [], [.ro (ns.map D.int)], ⟨fun _ _ z => z, rfl, List.nodup_nil, fun n a z => by simp at z, fun n a z => by simp at z, fun n a m z => by simp at z⟩, .cons (.ro L.seq (seq_ints ns)) .nil, ?_⟩
  rw [e]
  intro v F' H' ι' _ _ r
  cases r
  rfl
end Dv
end L2
/-! Dv: tools for plain laws -/
namespace L2
namespace Dv
open PySem PySem.Spec PyProof.Rows

/-! ### the interpreter, form by form -/
section
variable {Φ : Calls} {G : Tb} {ρ : Env'} {M : Mem}
@[simp] theorem ev_var (i : Nat) : ev Φ G (.var i) ρ M = (match ρ[i]? with | some (some d) => .ok d M | _ => .bad) := rfl
@[simp] theorem ev_cst (c : Const) : ev Φ G (.cst c) ρ M = R.of (cstD c) M := rfl
@[simp] theorem ev_glo (g : Nat) : ev Φ G (.glo g) ρ M = R.of ((G.gl g).map (·.2)) M := rfl
@[simp] theorem ev_bop (op : Operator) (a b : E) : ev Φ G (.bop op a b) ρ M = (ev Φ G a ρ M).bnd fun x M1 => (ev Φ G b ρ M1).bnd fun y M2 => R.of (bopD M2 op x y) M2 := rfl
@[simp] theorem ev_neg (a : E) : ev Φ G (.neg a) ρ M = (ev Φ G a ρ M).bnd fun x M1 => match x with | .int i => .ok (.int (-i)) M1 | _ => .bad := rfl
@[simp] theorem ev_boo (k : Bool) (es : List E) : ev Φ G (.boo k es) ρ M = evB Φ G k es ρ M := rfl
@[simp] theorem ev_not (a : E) : ev Φ G (.not a) ρ M = (ev Φ G a ρ M).bnd fun x M1 => R.of ((truD M1 x).map fun b => .bl (!b)) M1 := rfl
@[simp] theorem ev_cmp (a : E) (op : CmpOp) (b : E) : ev Φ G (.cmp a op b) ρ M = (ev Φ G a ρ M).bnd fun x M1 => (ev Φ G b ρ M1).bnd fun y M2 => R.of ((cmpD M2 op x y).map .bl) M2 := rfl
@[simp] theorem ev_chn (a : E) (p : CmpOp) (b : E) (q : CmpOp) (c : E) : ev Φ G (.chn a p b q c) ρ M = (ev Φ G a ρ M).bnd fun x M1 => (ev Φ G b ρ M1).bnd fun y M2 => match cmpD M2 p x y with
    | some true => (ev Φ G c ρ M2).bnd fun z M3 => R.of ((cmpD M3 q y z).map .bl) M3
    | some false => .ok (.bl false) M2
    | none => .bad := rfl
@[simp] theorem ev_ife (t a b : E) : ev Φ G (.ife t a b) ρ M = (tst Φ G t ρ M).bnd fun k M1 => if k then ev Φ G a ρ M1 else ev Φ G b ρ M1 := rfl
@[simp] theorem ev_tup (es : List E) : ev Φ G (.tup es) ρ M = (evs Φ G es ρ M).bnd fun xs M1 => if xs.length ≤ sizeLine then .ok (.tup xs) M1 else .bad := rfl
@[simp] theorem ev_lst (fz : Bool) (es : List E) : ev Φ G (.lst fz es) ρ M = (evs Φ G es ρ M).bnd fun xs M1 => mkL fz xs M1 := rfl
@[simp] theorem ev_dis (fz : Bool) : ev Φ G (.dis fz [] []) ρ M = .ok (.dic [] []) M := rfl
@[simp] theorem ev_lc (fz : Bool) (elt : E) (tg : Tg) (it : E) (ifs : List E) (own : List Nat) : ev Φ G (.lc fz elt tg it ifs own) ρ M = (wlk Φ G it ρ M).bnd fun xs M1 =>
    (foldC (lcF Φ G elt tg ifs own ρ) xs [] M1).bnd fun ys M5 => mkL fz ys M5 := rfl
@[simp] theorem ev_call (f : Nat) (es : List E) : ev Φ G (.call f es) ρ M = (evs Φ G es ρ M).bnd fun xs M1 => Φ f xs M1 := rfl
@[simp] theorem ev_blt (b : Bi) (es : List E) : ev Φ G (.blt b es) ρ M = (evs Φ G es ρ M).bnd fun xs M1 => bltD b xs M1 := rfl
@[simp] theorem ev_mth (m : Me) (o : E) (es : List E) : ev Φ G (.mth m o es) ρ M = (ev Φ G o ρ M).bnd fun x M1 => if rcvB m M1 x then (evs Φ G es ρ M1).bnd fun xs M2 => mthD m x xs M2 else .bad := rfl
@[simp] theorem ev_isi (a : E) (t : Ty) : ev Φ G (.isi a t) ρ M = (ev Φ G a ρ M).bnd fun x M1 => R.of ((isiD x t).map .bl) M1 := rfl
@[simp] theorem ev_sub (o i : E) : ev Φ G (.sub o i) ρ M = (ev Φ G o ρ M).bnd fun x M1 => (ev Φ G i ρ M1).bnd fun y M2 => R.of (subD M2 x y) M2 := rfl
@[simp] theorem ev_slc (o : E) (lo hi : Option E) : ev Φ G (.slc o lo hi) ρ M = (ev Φ G o ρ M).bnd fun x M1 => (evO Φ G lo ρ M1).bnd fun l M2 => (evO Φ G hi ρ M2).bnd fun h M3 => R.of (slcD M3 x l h) M3 := rfl
@[simp] theorem ev_rev (o : E) : ev Φ G (.rev o) ρ M = (ev Φ G o ρ M).bnd fun x M1 => match x with
    | .tup xs => .ok (.tup xs.reverse) M1
    | x => R.of ((lstD M1 x).map fun xs => .lst xs.reverse) M1 := rfl
@[simp] theorem evO_none : evO Φ G none ρ M = .ok none M := rfl
@[simp] theorem evO_some (e : E) : evO Φ G (some e) ρ M = (ev Φ G e ρ M).bnd fun x M1 => match x with | .int i => .ok (some i) M1 | _ => .bad := rfl
@[simp] theorem evs_nil : evs Φ G [] ρ M = .ok [] M := rfl
@[simp] theorem evs_cons (e : E) (es : List E) : evs Φ G (e :: es) ρ M = (ev Φ G e ρ M).bnd fun x M1 => (evs Φ G es ρ M1).bnd fun xs M2 => .ok (x :: xs) M2 := rfl
@[simp] theorem evB_one (k : Bool) (a : E) : evB Φ G k [a] ρ M = ev Φ G a ρ M := rfl
@[simp] theorem evB_cons (k : Bool) (a b : E) (es : List E) : evB Φ G k (a :: b :: es) ρ M = (ev Φ G a ρ M).bnd fun x M1 => match truD M1 x with
    | some c => if c = k then evB Φ G k (b :: es) ρ M1 else .ok x M1
    | none => .bad := rfl
@[simp] theorem evTs_one (k : Bool) (a : E) : evTs Φ G k [a] ρ M = tst Φ G a ρ M := rfl
@[simp] theorem evTs_cons (k : Bool) (a b : E) (es : List E) : evTs Φ G k (a :: b :: es) ρ M = (tst Φ G a ρ M).bnd fun c M1 => if c = k then evTs Φ G k (b :: es) ρ M1 else .ok c M1 := rfl
@[simp] theorem evF_nil : evF Φ G [] ρ M = .ok true M := rfl
@[simp] theorem evF_one (t : E) : evF Φ G [t] ρ M = tst Φ G t ρ M := rfl
theorem tst_val {e : E} (h : isT e = false) : tst Φ G e ρ M = (ev Φ G e ρ M).bnd fun d M9 => R.of (truD M9 d) M9 := by
  unfold tst
  rw [h]
  rfl
@[simp] theorem tst_not (a : E) : tst Φ G (.not a) ρ M = (tst Φ G a ρ M).bnd fun b M1 => .ok (!b) M1 := rfl
@[simp] theorem tst_boo (k : Bool) (es : List E) : tst Φ G (.boo k es) ρ M = evTs Φ G k es ρ M := rfl
@[simp] theorem tst_ife (t a b : E) : tst Φ G (.ife t a b) ρ M = (tst Φ G t ρ M).bnd fun k M1 => if k then tst Φ G a ρ M1 else tst Φ G b ρ M1 := rfl
@[simp] theorem tst_cmp (a : E) (op : CmpOp) (b : E) : tst Φ G (.cmp a op b) ρ M = (ev Φ G a ρ M).bnd fun x M1 => (ev Φ G b ρ M1).bnd fun y M2 => R.of (cmpD M2 op x y) M2 := rfl
@[simp] theorem tst_chn (a : E) (p : CmpOp) (b : E) (q : CmpOp) (c : E) : tst Φ G (.chn a p b q c) ρ M = (ev Φ G a ρ M).bnd fun x M1 => (ev Φ G b ρ M1).bnd fun y M2 => match cmpD M2 p x y with
    | some true => (ev Φ G c ρ M2).bnd fun z M3 => R.of (cmpD M3 q y z) M3
    | some false => .ok false M2
    | none => .bad := rfl
@[simp] theorem tst_var (i : Nat) : tst Φ G (.var i) ρ M = (ev Φ G (.var i) ρ M).bnd fun d M9 => R.of (truD M9 d) M9 := rfl
@[simp] theorem tst_call (f : Nat) (es : List E) : tst Φ G (.call f es) ρ M = (ev Φ G (.call f es) ρ M).bnd fun d M9 => R.of (truD M9 d) M9 := rfl
@[simp] theorem tst_blt (f : Bi) (es : List E) : tst Φ G (.blt f es) ρ M = (ev Φ G (.blt f es) ρ M).bnd fun d M9 => R.of (truD M9 d) M9 := rfl
@[simp] theorem tst_isi (a : E) (t : Ty) : tst Φ G (.isi a t) ρ M = (ev Φ G (.isi a t) ρ M).bnd fun d M9 => R.of (truD M9 d) M9 := rfl
@[simp] theorem wlk_var (i : Nat) : wlk Φ G (.var i) ρ M = (ev Φ G (.var i) ρ M).bnd fun d M9 => R.of (itD M9 d) M9 := rfl
@[simp] theorem wlk_lst (fz : Bool) (es : List E) : wlk Φ G (.lst fz es) ρ M = (ev Φ G (.lst fz es) ρ M).bnd fun d M9 => R.of (itD M9 d) M9 := rfl
@[simp] theorem wlk_call (f : Nat) (es : List E) : wlk Φ G (.call f es) ρ M = (ev Φ G (.call f es) ρ M).bnd fun d M9 => R.of (itD M9 d) M9 := rfl
@[simp] theorem wlk_rng1 (a : E) : wlk Φ G (.rng [a]) ρ M = (ev Φ G a ρ M).bnd fun x M1 => match x with
    | .int j => if -4611686018427387904 ≤ j ∧ j < 4611686018427387904 then .ok ((List.range j.toNat).map fun (i : Nat) => .int (i : Int)) M1 else .bad
    | _ => .bad := by
  show (evs Φ G [a] ρ M).bnd _ = _
  simp only [evs_cons, evs_nil, R.bnd_ok, Int.zero_add]
  cases ev Φ G a ρ M with
  | ok x M1 => cases x <;> rfl
  | err _ _ => rfl
  | bad => rfl
@[simp] theorem wlk_rng2 (a b : E) : wlk Φ G (.rng [a, b]) ρ M = (ev Φ G a ρ M).bnd fun x M1 => (ev Φ G b ρ M1).bnd fun y M2 => match x, y with
    | .int i, .int j => if -4611686018427387904 ≤ i ∧ i < 4611686018427387904 ∧ -4611686018427387904 ≤ j ∧ j < 4611686018427387904 then .ok ((List.range (j - i).toNat).map fun (k : Nat) => .int (i + (k : Int))) M2 else .bad
    | _, _ => .bad := by
  show (evs Φ G [a, b] ρ M).bnd _ = _
  simp only [evs_cons, evs_nil, R.bnd_ok]
  cases ev Φ G a ρ M with
  | ok x M1 =>
    simp only [R.bnd_ok]
    cases ev Φ G b ρ M1 with
    | ok y M2 => cases x <;> cases y <;> rfl
    | err _ _ => rfl
    | bad => rfl
  | err _ _ => rfl
  | bad => rfl
@[simp] theorem xs_nil : xs Φ G [] ρ M = .nx ρ M := rfl
@[simp] theorem xs_cons (s : Dv.S) (r : List Dv.S) : xs Φ G (s :: r) ρ M = (match xc Φ G s ρ M with | .nx ρ1 M1 => xs Φ G r ρ1 M1 | o => o) := rfl
@[simp] theorem xc_exp (e : E) : xc Φ G (.exp e) ρ M = (ev Φ G e ρ M).st ρ fun _ M1 => .nx ρ M1 := rfl
@[simp] theorem xc_set (tg : Tg) (e : E) : xc Φ G (.set tg e) ρ M = (ev Φ G e ρ M).st ρ fun x M1 => match tg.put x ρ with | some ρ' => .nx ρ' M1 | none => .bad := rfl
@[simp] theorem xc_par (i j : Nat) (a b : E) : xc Φ G (.par i j a b) ρ M = (ev Φ G a ρ M).st ρ fun x M1 => (ev Φ G b ρ M1).st ρ fun y M2 => .nx ((ρ.set i (some x)).set j (some y)) M2 := rfl
@[simp] theorem xc_ite (t : E) (a b : List Dv.S) : xc Φ G (.ite t a b) ρ M = (tst Φ G t ρ M).st ρ fun k M1 => if k then xs Φ G a ρ M1 else xs Φ G b ρ M1 := rfl
@[simp] theorem xc_fr (tg : Tg) (it : E) (b : List Dv.S) : xc Φ G (.fr tg it b) ρ M = (wlk Φ G it ρ M).st ρ fun ds M1 => loopF (fun d ρ M => match tg.put d ρ with | some ρ' => xs Φ G b ρ' M | none => .bad) ds ρ M1 := rfl
@[simp] theorem xc_ret (e : E) : xc Φ G (.ret e) ρ M = (ev Φ G e ρ M).st ρ fun d M1 => .rt d M1 := rfl
@[simp] theorem xc_retN : xc Φ G .retN ρ M = .rt .non M := rfl
@[simp] theorem xc_pass : xc Φ G .pass ρ M = .nx ρ M := rfl
@[simp] theorem xc_brk : xc Φ G .brk ρ M = .bk ρ M := rfl
@[simp] theorem xc_cnt : xc Φ G .cnt ρ M = .ct ρ M := rfl
@[simp] theorem xc_mat (e : E) (ps : List Pt) (bs : List (List Dv.S)) : xc Φ G (.mat e ps bs) ρ M = (ev Φ G e ρ M).st ρ fun d M1 => xm Φ G ps bs d ρ M1 := rfl
@[simp] theorem xc_sst (o i e : E) : xc Φ G (.sst o i e) ρ M = (ev Φ G e ρ M).st ρ fun y M1 => (ev Φ G o ρ M1).st ρ fun x M2 => (ev Φ G i ρ M2).st ρ fun k M3 => match x, k with
    | .loc n, .int j => match M3[n]? with
      | some (some (.lst xs)) => match ixN xs.length j with
        | some q => .nx ρ (M3.set n (some (.lst (xs.set q y))))
        | none => .bad
      | _ => .bad
    | _, _ => .bad := rfl
@[simp] theorem put_nm (i : Nat) (d : Dv.D) : Tg.put (.nm i) d ρ = some (ρ.set i (some d)) := rfl
@[simp] theorem fin_rt (n : Nat) (d : Dv.D) : fin true n (.rt d M) = .ok d M := rfl
@[simp] theorem fin_nx (n : Nat) : fin true n (.nx ρ M) = .ok .non M := rfl
end
/-! ### loops -/
section
/-- a pure step: items, some kept -/
theorem foldC_pure {f : Dv.D → Mem → R (Option Dv.D)} {g : Dv.D → Option Dv.D} {M : Mem} : ∀ {xs acc : List Dv.D}, (∀ x ∈ xs, f x M = .ok (g x) M) → acc.length + xs.length ≤ sizeLine → foldC f xs acc M = .ok (acc ++ xs.filterMap g) M
  | [], acc, _, _ => by simp [foldC]
  | x :: xs, acc, h, hl => by
    have h1 := h x (List.mem_cons_self ..)
    rw [List.length_cons] at hl
    simp only [foldC, h1]
    cases e : g x with
    | none =>
      simp only [e]
      rw [foldC_pure (fun y hy => h y (List.mem_cons_of_mem _ hy)) (by omega), List.filterMap_cons, e]
    | some y =>
      simp only [e]
      rw [if_pos (by omega), foldC_pure (fun y hy => h y (List.mem_cons_of_mem _ hy)) (by simp; omega), List.filterMap_cons, e]
      simp
/-- a step that draws: what holds of the store is kept, item by item -/
theorem foldC_draw {f : Dv.D → Mem → R (Option Dv.D)} {I : Nat → Mem → Prop} {P : Dv.D → Prop} {N : Nat} : ∀ {xs acc : List Dv.D} {i : Nat} {M : Mem}, (∀ (x : Dv.D) (i : Nat) (M : Mem), x ∈ xs → i < N → I i M → ∃ y M', f x M = .ok (some y) M' ∧ P y ∧ I (i + 1) M') → acc.length + xs.length ≤ sizeLine → i + xs.length ≤ N → I i M →
    ∃ ys M', foldC f xs acc M = .ok (acc ++ ys) M' ∧ ys.length = xs.length ∧ (∀ y ∈ ys, P y) ∧ I (i + xs.length) M'
  | [], acc, i, M, _, _, _, h0 => ⟨[], M, by simp [foldC], rfl, by simp, h0⟩
  | x :: xs, acc, i, M, h, hl, hN, h0 => by
    rw [List.length_cons] at hl hN
    obtain ⟨y, M1, e, p, h1⟩ := h x i M (List.mem_cons_self ..) (by omega) h0
    obtain ⟨ys, M2, e2, l2, p2, h2⟩ := foldC_draw (acc := acc ++ [y]) (fun z j N hz => h z j N (List.mem_cons_of_mem _ hz)) (by simp; omega) (by omega) h1
    refine ⟨y :: ys, M2, ?_, by simp [l2], fun z hz => ?_, by rw [List.length_cons, ← Nat.add_assoc, Nat.add_right_comm]; exact h2⟩
    · simp only [foldC, e]
      rw [if_pos (by omega), e2]
      simp
    · rcases List.mem_cons.mp hz with rfl | hz
      · exact p
      · exact p2 z hz
/-- a for loop whose body falls through: what holds of slots and store is kept -/
theorem loopF_inv {g : Dv.D → Env' → Mem → RS} {I : Nat → Env' → Mem → Prop} {N : Nat} : ∀ {xs : List Dv.D} {i : Nat} {ρ : Env'} {M : Mem}, (∀ (x : Dv.D) (i : Nat) (ρ : Env') (M : Mem), x ∈ xs → i < N → I i ρ M → ∃ ρ' M', (g x ρ M = .nx ρ' M' ∨ g x ρ M = .ct ρ' M') ∧ I (i + 1) ρ' M') → i + xs.length ≤ N → I i ρ M →
    ∃ ρ' M', loopF g xs ρ M = .nx ρ' M' ∧ I (i + xs.length) ρ' M'
  | [], i, ρ, M, _, _, h0 => ⟨ρ, M, rfl, h0⟩
  | x :: xs, i, ρ, M, h, hN, h0 => by
    rw [List.length_cons] at hN
    obtain ⟨ρ1, M1, e, h1⟩ := h x i ρ M (List.mem_cons_self ..) (by omega) h0
    obtain ⟨ρ2, M2, e2, h2⟩ := loopF_inv (fun z j σ N hz => h z j σ N (List.mem_cons_of_mem _ hz)) (by omega) h1
    refine ⟨ρ2, M2, ?_, by rw [List.length_cons, ← Nat.add_assoc, Nat.add_right_comm]; exact h2⟩
    rcases e with e | e <;> simp only [loopF, e, e2]
end
/-! ### kinds -/
section
variable {b : Bool} {i : Int} {x : Str} {xs ks vs : List Dv.D}
theorem k_NoneType_int : kitB "NoneType" "int" = some false := by decide +kernel
@[simp] theorem isi_non_int : isiD .non (.bt "int") = some false := k_NoneType_int
theorem k_NoneType_str : kitB "NoneType" "str" = some false := by decide +kernel
@[simp] theorem isi_non_str : isiD .non (.bt "str") = some false := k_NoneType_str
theorem k_NoneType_bool : kitB "NoneType" "bool" = some false := by decide +kernel
@[simp] theorem isi_non_bool : isiD .non (.bt "bool") = some false := k_NoneType_bool
theorem k_NoneType_tuple : kitB "NoneType" "tuple" = some false := by decide +kernel
@[simp] theorem isi_non_tuple : isiD .non (.bt "tuple") = some false := k_NoneType_tuple
theorem k_NoneType_list : kitB "NoneType" "list" = some false := by decide +kernel
@[simp] theorem isi_non_list : isiD .non (.bt "list") = some false := k_NoneType_list
theorem k_NoneType_dict : kitB "NoneType" "dict" = some false := by decide +kernel
@[simp] theorem isi_non_dict : isiD .non (.bt "dict") = some false := k_NoneType_dict
theorem k_bool_int : kitB "bool" "int" = some true := by decide +kernel
@[simp] theorem isi_bl_int : isiD (.bl b) (.bt "int") = some true := k_bool_int
theorem k_bool_str : kitB "bool" "str" = some false := by decide +kernel
@[simp] theorem isi_bl_str : isiD (.bl b) (.bt "str") = some false := k_bool_str
theorem k_bool_bool : kitB "bool" "bool" = some true := by decide +kernel
@[simp] theorem isi_bl_bool : isiD (.bl b) (.bt "bool") = some true := k_bool_bool
theorem k_bool_tuple : kitB "bool" "tuple" = some false := by decide +kernel
@[simp] theorem isi_bl_tuple : isiD (.bl b) (.bt "tuple") = some false := k_bool_tuple
theorem k_bool_list : kitB "bool" "list" = some false := by decide +kernel
@[simp] theorem isi_bl_list : isiD (.bl b) (.bt "list") = some false := k_bool_list
theorem k_bool_dict : kitB "bool" "dict" = some false := by decide +kernel
@[simp] theorem isi_bl_dict : isiD (.bl b) (.bt "dict") = some false := k_bool_dict
theorem k_int_int : kitB "int" "int" = some true := by decide +kernel
@[simp] theorem isi_int_int : isiD (.int i) (.bt "int") = some true := k_int_int
theorem k_int_str : kitB "int" "str" = some false := by decide +kernel
@[simp] theorem isi_int_str : isiD (.int i) (.bt "str") = some false := k_int_str
theorem k_int_bool : kitB "int" "bool" = some false := by decide +kernel
@[simp] theorem isi_int_bool : isiD (.int i) (.bt "bool") = some false := k_int_bool
theorem k_int_tuple : kitB "int" "tuple" = some false := by decide +kernel
@[simp] theorem isi_int_tuple : isiD (.int i) (.bt "tuple") = some false := k_int_tuple
theorem k_int_list : kitB "int" "list" = some false := by decide +kernel
@[simp] theorem isi_int_list : isiD (.int i) (.bt "list") = some false := k_int_list
theorem k_int_dict : kitB "int" "dict" = some false := by decide +kernel
@[simp] theorem isi_int_dict : isiD (.int i) (.bt "dict") = some false := k_int_dict
theorem k_str_int : kitB "str" "int" = some false := by decide +kernel
@[simp] theorem isi_str_int : isiD (.str x) (.bt "int") = some false := k_str_int
theorem k_str_str : kitB "str" "str" = some true := by decide +kernel
@[simp] theorem isi_str_str : isiD (.str x) (.bt "str") = some true := k_str_str
theorem k_str_bool : kitB "str" "bool" = some false := by decide +kernel
@[simp] theorem isi_str_bool : isiD (.str x) (.bt "bool") = some false := k_str_bool
theorem k_str_tuple : kitB "str" "tuple" = some false := by decide +kernel
@[simp] theorem isi_str_tuple : isiD (.str x) (.bt "tuple") = some false := k_str_tuple
theorem k_str_list : kitB "str" "list" = some false := by decide +kernel
@[simp] theorem isi_str_list : isiD (.str x) (.bt "list") = some false := k_str_list
theorem k_str_dict : kitB "str" "dict" = some false := by decide +kernel
@[simp] theorem isi_str_dict : isiD (.str x) (.bt "dict") = some false := k_str_dict
theorem k_tuple_int : kitB "tuple" "int" = some false := by decide +kernel
@[simp] theorem isi_tup_int : isiD (.tup xs) (.bt "int") = some false := k_tuple_int
theorem k_tuple_str : kitB "tuple" "str" = some false := by decide +kernel
@[simp] theorem isi_tup_str : isiD (.tup xs) (.bt "str") = some false := k_tuple_str
theorem k_tuple_bool : kitB "tuple" "bool" = some false := by decide +kernel
@[simp] theorem isi_tup_bool : isiD (.tup xs) (.bt "bool") = some false := k_tuple_bool
theorem k_tuple_tuple : kitB "tuple" "tuple" = some true := by decide +kernel
@[simp] theorem isi_tup_tuple : isiD (.tup xs) (.bt "tuple") = some true := k_tuple_tuple
theorem k_tuple_list : kitB "tuple" "list" = some false := by decide +kernel
@[simp] theorem isi_tup_list : isiD (.tup xs) (.bt "list") = some false := k_tuple_list
theorem k_tuple_dict : kitB "tuple" "dict" = some false := by decide +kernel
@[simp] theorem isi_tup_dict : isiD (.tup xs) (.bt "dict") = some false := k_tuple_dict
theorem k_list_int : kitB "list" "int" = some false := by decide +kernel
@[simp] theorem isi_lst_int : isiD (.lst xs) (.bt "int") = some false := k_list_int
theorem k_list_str : kitB "list" "str" = some false := by decide +kernel
@[simp] theorem isi_lst_str : isiD (.lst xs) (.bt "str") = some false := k_list_str
theorem k_list_bool : kitB "list" "bool" = some false := by decide +kernel
@[simp] theorem isi_lst_bool : isiD (.lst xs) (.bt "bool") = some false := k_list_bool
theorem k_list_tuple : kitB "list" "tuple" = some false := by decide +kernel
@[simp] theorem isi_lst_tuple : isiD (.lst xs) (.bt "tuple") = some false := k_list_tuple
theorem k_list_list : kitB "list" "list" = some true := by decide +kernel
@[simp] theorem isi_lst_list : isiD (.lst xs) (.bt "list") = some true := k_list_list
theorem k_list_dict : kitB "list" "dict" = some false := by decide +kernel
@[simp] theorem isi_lst_dict : isiD (.lst xs) (.bt "dict") = some false := k_list_dict
@[simp] theorem isi_ro_int : isiD (.ro xs) (.bt "int") = some false := k_list_int
@[simp] theorem isi_ro_str : isiD (.ro xs) (.bt "str") = some false := k_list_str
@[simp] theorem isi_ro_bool : isiD (.ro xs) (.bt "bool") = some false := k_list_bool
@[simp] theorem isi_ro_tuple : isiD (.ro xs) (.bt "tuple") = some false := k_list_tuple
@[simp] theorem isi_ro_list : isiD (.ro xs) (.bt "list") = some true := k_list_list
@[simp] theorem isi_ro_dict : isiD (.ro xs) (.bt "dict") = some false := k_list_dict
theorem k_dict_int : kitB "dict" "int" = some false := by decide +kernel
@[simp] theorem isi_dic_int : isiD (.dic ks vs) (.bt "int") = some false := k_dict_int
theorem k_dict_str : kitB "dict" "str" = some false := by decide +kernel
@[simp] theorem isi_dic_str : isiD (.dic ks vs) (.bt "str") = some false := k_dict_str
theorem k_dict_bool : kitB "dict" "bool" = some false := by decide +kernel
@[simp] theorem isi_dic_bool : isiD (.dic ks vs) (.bt "bool") = some false := k_dict_bool
theorem k_dict_tuple : kitB "dict" "tuple" = some false := by decide +kernel
@[simp] theorem isi_dic_tuple : isiD (.dic ks vs) (.bt "tuple") = some false := k_dict_tuple
theorem k_dict_list : kitB "dict" "list" = some false := by decide +kernel
@[simp] theorem isi_dic_list : isiD (.dic ks vs) (.bt "list") = some false := k_dict_list
theorem k_dict_dict : kitB "dict" "dict" = some true := by decide +kernel
@[simp] theorem isi_dic_dict : isiD (.dic ks vs) (.bt "dict") = some true := k_dict_dict
end
end Dv
end L2
/-! Dv: the urn that a law draws from -/
namespace L2
namespace Dv
open PySem PySem.Spec PyProof.Rows

structure IsFn (T : Tb) (f a n : Nat) (kp : Bool) (body : List Dv.S) : Prop where
  ex : ∃ e, T.fn f = some e ∧ e.body = body ∧ e.ps.length = a ∧ e.N.length = n ∧ e.keep = kp
theorem phi_run {T : Tb} {f a n k : Nat} {kp : Bool} {body : List Dv.S} {ds : List Dv.D} {M : Mem} (h : IsFn T f a n kp body) (hl : ds.length = a) :
    Phi T (k + 1) f ds M = fin kp M.length (xs (Phi T k) T body (ds.map some ++ List.replicate (n - ds.length) none) M) := by
  obtain ⟨e, h1, h2, h3, h4, h5⟩ := h.ex
  simp only [Phi, h1]
  rw [if_pos (by rw [hl, h3]), h2, h4, h5]
/-! ### whole numbers -/
theorem log_lt {i : Int} {k : Nat} (hk : 0 < k) (h : i.natAbs < 2 ^ k) : i.natAbs.log2 < k := by
  by_cases h0 : i.natAbs = 0
  · rw [h0]
    exact hk
  · exact (Nat.log2_lt h0).mpr h
theorem mul_ok {M : Mem} {i j : Int} (hi : i.natAbs < 2 ^ 5000) (hj : j.natAbs < 2 ^ 5000) : bopD M .Mult (.int i) (.int j) = some (.int (i * j)) := by
  have h1 := log_lt (k := 5000) (by decide) hi
  have h2 := log_lt (k := 5000) (by decide) hj
  have h3 : i.natAbs.log2 + j.natAbs.log2 < 1000000 := by omega
  simp only [bopD]
  rw [if_pos h3]
theorem div_ok {M : Mem} {i j : Int} (h0 : 0 < j) (hj : j.natAbs < 2 ^ 5000) : bopD M .FloorDiv (.int i) (.int j) = some (.int (i / j)) := by
  have h2 := log_lt (k := 5000) (by decide) hj
  have h3 : 0 < j ∧ j.natAbs.log2 < 9000 := ⟨h0, by omega⟩
  simp only [bopD]
  rw [if_pos h3]
theorem mod_ok {M : Mem} {i j : Int} (h0 : 0 < j) : bopD M .Mod (.int i) (.int j) = some (.int (i % j)) := by
  simp only [bopD]
  rw [if_pos h0]
@[simp] theorem add_ok {M : Mem} {i j : Int} : bopD M .Add (.int i) (.int j) = some (.int (i + j)) := rfl
@[simp] theorem sub_ok {M : Mem} {i j : Int} : bopD M .Sub (.int i) (.int j) = some (.int (i - j)) := rfl
@[simp] theorem lt_ok {M : Mem} {i j : Int} : cmpD M .Lt (.int i) (.int j) = some (decide (i < j)) := rfl
@[simp] theorem gt_ok {M : Mem} {i j : Int} : cmpD M .Gt (.int i) (.int j) = some (decide (j < i)) := rfl
@[simp] theorem le_ok {M : Mem} {i j : Int} : cmpD M .LtE (.int i) (.int j) = some (decide (i ≤ j)) := rfl
@[simp] theorem ge_ok {M : Mem} {i j : Int} : cmpD M .GtE (.int i) (.int j) = some (decide (j ≤ i)) := rfl
@[simp] theorem int_int {M : Mem} {i : Int} : bltD .int [.int i] M = .ok (.int i) M := rfl
@[simp] theorem int_bl {M : Mem} {b : Bool} : bltD .int [.bl b] M = .ok (.int (if b then 1 else 0)) M := rfl
@[simp] theorem abs_int {M : Mem} {i : Int} : bltD .abs [.int i] M = .ok (.int (if i < 0 then -i else i)) M := rfl
@[simp] theorem max_int {M : Mem} {i j : Int} : bltD .max [.int i, .int j] M = .ok (.int (if j > i then j else i)) M := rfl
@[simp] theorem min_int {M : Mem} {i j : Int} : bltD .min [.int i, .int j] M = .ok (.int (if j < i then j else i)) M := rfl
@[simp] theorem cst_int (i : Int) : cstD (.int i) = some (.int i) := rfl
@[simp] theorem cst_bool (i : Bool) : cstD (.bool i) = some (.bl i) := rfl
@[simp] theorem cst_str (i : Str) : cstD (.str i) = some (.str i) := rfl
@[simp] theorem cst_none : cstD .none = some .non := rfl
@[simp] theorem at0 {α : Type} {a : α} {l : List α} : atI (a :: l) 0 = some a := by
  unfold atI ixN
  simp
section
variable {M : Mem} {n : Nat} {l : List Dv.D}
theorem sub_loc {j : Int} (h : M[n]? = some (some (.lst l))) : subD M (.loc n) (.int j) = atI l j := by
  simp [subD, seqD, h]
end

/-! ### the urn -/
def Good (C : Nat) (u : List Dv.D) : Prop := ∃ g s c : Int, u = [.int g, .int s, .int c] ∧ 0 ≤ g ∧ g < 10 ^ 600 ∧ 0 ≤ s ∧ s < 2 ^ 62 ∧ 0 ≤ c ∧ c ≤ C
def bTake : List Dv.S := [.ite (.cmp (.sub (.var 0) (.cst (.int 0))) .Gt (.cst (.int 0))) [.set (.nm 2) (.bop .Mod (.blt .int [.sub (.var 0) (.cst (.int 0))]) (.var 1)), .sst (.var 0) (.cst (.int 0)) (.bop .FloorDiv (.sub (.var 0) (.cst (.int 0))) (.var 1)), .ret (.var 2)] [],
  .sst (.var 0) (.cst (.int 2)) (.bop .Add (.sub (.var 0) (.cst (.int 2))) (.cst (.int 1))),
  .set (.nm 3) (.bop .Mod (.blt .int [.bop .Add (.sub (.var 0) (.cst (.int 1))) (.bop .Mult (.cst (.int 1299709)) (.sub (.var 0) (.cst (.int 2))))]) (.cst (.int 2305843009213693951))),
  .set (.nm 4) (.bop .Mod (.blt .int [.bop .Add (.bop .Mult (.var 3) (.var 3)) (.bop .Mult (.cst (.int 7919)) (.sub (.var 0) (.cst (.int 2))))]) (.cst (.int 1000000000039))),
  .set (.nm 5) (.bop .Mod (.blt .int [.bop .Add (.bop .Mult (.var 4) (.var 4)) (.var 3)]) (.cst (.int 998244353))),
  .ret (.bop .Mod (.blt .int [.bop .FloorDiv (.var 5) (.cst (.int 61))]) (.var 1))]
section
variable {T : Tb} {k n C : Nat} {M : Mem} {u : List Dv.D}
theorem at1 {α : Type} {a b c : α} : atI [a, b, c] 1 = some b := rfl
theorem at2 {α : Type} {a b c : α} : atI [a, b, c] 2 = some c := rfl
theorem ix0 : ixN 3 0 = some 0 := rfl
theorem ix2 : ixN 3 2 = some 2 := rfl
theorem set_self {l : Option MO} (h : M[n]? = some l) (x : Option MO) : (M.set n x)[n]? = some x := List.getElem?_set_self (List.getElem?_eq_some_iff.mp h).1
theorem take_ok (h : IsFn T 1 2 6 true bTake) {total : Int} (hM : M[n]? = some (some (.lst u))) (hu : Good C u) (hC : C < 1000000) (h1 : 0 < total) (h2 : total < 1000000000) :
    ∃ v u', Phi T (k + 1) 1 [.loc n, .int total] M = .ok (.int v) (M.set n (some (.lst u'))) ∧ Good (C + 1) u' ∧ 0 ≤ v ∧ v < total := by
  obtain ⟨g, s, c, rfl, hg, hg2, hs, hs2, hc, hc2⟩ := hu
  rw [phi_run h rfl]
  have ht : total.natAbs < 2 ^ 5000 := Nat.lt_of_lt_of_le (by omega : total.natAbs < 2 ^ 30) (Nat.pow_le_pow_right (by decide) (by decide))
  by_cases hz : 0 < g
  · refine ⟨g % total, [.int (g / total), .int s, .int c], ?_, ⟨_, _, _, rfl, Int.ediv_nonneg hg (Int.le_of_lt h1), Int.lt_of_le_of_lt (Int.ediv_le_self _ hg) hg2, hs, hs2, hc, by omega⟩, Int.emod_nonneg _ (by omega), Int.emod_lt_of_pos _ h1⟩
    simp [bTake, sub_loc hM, hz, mod_ok h1, div_ok h1 ht, hM, ix0]
  · have hg0 : g = 0 := by omega
    have e1 := set_self hM (some (.lst [.int g, .int s, .int (c + 1)]))
    obtain ⟨one, ho⟩ : ∃ one, one = (s + 1299709 * (c + 1)) % 2305843009213693951 := ⟨_, rfl⟩
    obtain ⟨two, hw⟩ : ∃ two, two = (one * one + 7919 * (c + 1)) % 1000000000039 := ⟨_, rfl⟩
    have b1 : 0 ≤ one ∧ one < 2305843009213693951 := by rw [ho]; exact ⟨Int.emod_nonneg _ (by decide), Int.emod_lt_of_pos _ (by decide)⟩
    have b2 : 0 ≤ two ∧ two < 1000000000039 := by rw [hw]; exact ⟨Int.emod_nonneg _ (by decide), Int.emod_lt_of_pos _ (by decide)⟩
    have small : ∀ i : Int, 0 ≤ i → i < 2 ^ 62 → i.natAbs < 2 ^ 5000 := fun i p q => Nat.lt_of_lt_of_le (by omega : i.natAbs < 2 ^ 62) (Nat.pow_le_pow_right (by decide) (by decide))
    refine ⟨((two * two + one) % 998244353) / 61 % total, [.int g, .int s, .int (c + 1)], ?_, ⟨_, _, _, rfl, hg, hg2, hs, hs2, by omega, by omega⟩, Int.emod_nonneg _ (by omega), Int.emod_lt_of_pos _ h1⟩
    have m1 : bopD (M.set n (some (.lst [.int g, .int s, .int (c + 1)]))) .Mult (.int 1299709) (.int (c + 1)) = some (.int (1299709 * (c + 1))) := mul_ok (small _ (by decide) (by decide)) (small _ (by omega) (by omega))
    have m2 : bopD (M.set n (some (.lst [.int g, .int s, .int (c + 1)]))) .Mult (.int one) (.int one) = some (.int (one * one)) := mul_ok (small _ b1.1 (by omega)) (small _ b1.1 (by omega))
    have m3 : bopD (M.set n (some (.lst [.int g, .int s, .int (c + 1)]))) .Mult (.int 7919) (.int (c + 1)) = some (.int (7919 * (c + 1))) := mul_ok (small _ (by decide) (by decide)) (small _ (by omega) (by omega))
    have m4 : bopD (M.set n (some (.lst [.int g, .int s, .int (c + 1)]))) .Mult (.int two) (.int two) = some (.int (two * two)) := mul_ok (small _ b2.1 (by omega)) (small _ b2.1 (by omega))
    simp [bTake, sub_loc hM, hz, hM, ix2, at1, at2, sub_loc e1, m1, mod_ok (M := M.set n (some (.lst [.int g, .int s, .int (c + 1)]))) (show (0 : Int) < 2305843009213693951 by decide), ← ho, m2, m3, mod_ok (M := M.set n (some (.lst [.int g, .int s, .int (c + 1)]))) (show (0 : Int) < 1000000000039 by decide), ← hw, m4,
      mod_ok (M := M.set n (some (.lst [.int g, .int s, .int (c + 1)]))) (show (0 : Int) < 998244353 by decide), div_ok (M := M.set n (some (.lst [.int g, .int s, .int (c + 1)]))) (show (0 : Int) < 61 by decide) (small 61 (by decide) (by decide)), mod_ok h1]
end
end Dv
end L2
/-! Dv: drawing -/
namespace L2
namespace Dv
open PySem PySem.Spec PyProof.Rows

/-! ### the urn, made -/
def u1 : Dv.S := .set (.nm 2) (.ife (.cmp (.var 1) .Lt (.blt .len [.var 0])) (.sub (.var 0) (.var 1)) (.bop .Add (.bop .Mult (.cst (.int 83)) (.var 1)) (.cst (.int 37))))
def u2 : Dv.S := .set (.nm 3) (.bop .Mod (.blt .int [.blt .abs [.var 2]]) (.bop .Pow (.bop .Pow (.cst (.int 10)) (.cst (.int 60))) (.cst (.int 9))))
def u3 : Dv.S := .set (.nm 4) (.bop .Mod (.blt .int [.bop .Add (.bop .Add (.bop .Add (.bop .Mult (.var 3) (.cst (.int 104651))) (.bop .Mult (.cst (.int 15331)) (.var 1))) (.bop .Mult (.cst (.int 43)) (.blt .int [.cmp (.var 2) .Lt (.cst (.int 0))]))) (.cst (.int 19))]) (.cst (.int 2305843009213693921)))
def u4 : Dv.S := .ret (.lst false [.blt .max [.cst (.int 0), .bop .Sub (.var 3) (.bop .Pow (.cst (.int 10)) (.cst (.int 17)))], .var 4, .cst (.int 0)])
def bUrn : List Dv.S := [u1, u2, u3, u4]
section
variable {T : Tb} {k n C : Nat} {M : Mem} {u : List Dv.D}
@[simp] theorem tru_bl {b : Bool} : truD M (.bl b) = some b := rfl
@[simp] theorem tru_non : truD M .non = some false := rfl
@[simp] theorem tru_int {i : Int} : truD M (.int i) = some (i != 0) := rfl
theorem mkL_true {xs : List Dv.D} (h : xs.length ≤ sizeLine) : mkL true xs M = .ok (.lst xs) M := by
  unfold mkL
  rw [if_pos h]
  rfl
theorem mkL_false {xs : List Dv.D} (h : xs.length ≤ sizeLine) : mkL false xs M = .ok (.loc M.length) (M ++ [some (.lst xs)]) := by
  unfold mkL
  rw [if_pos h]
  rfl
@[simp] theorem mkL_nil : mkL true [] M = .ok (.lst []) M := mkL_true (by decide)
@[simp] theorem len_ro {ds : List Dv.D} : bltD .len [.ro ds] M = .ok (.int ds.length) M := rfl
@[simp] theorem len_lst {ds : List Dv.D} : bltD .len [.lst ds] M = .ok (.int ds.length) M := rfl
@[simp] theorem len_tup {ds : List Dv.D} : bltD .len [.tup ds] M = .ok (.int ds.length) M := rfl
@[simp] theorem sub_tup {ds : List Dv.D} {i : Int} : subD M (.tup ds) (.int i) = atI ds i := by simp [subD, seqD]
@[simp] theorem sub_lst {ds : List Dv.D} {i : Int} : subD M (.lst ds) (.int i) = atI ds i := by simp [subD, seqD]
@[simp] theorem sub_ro {ds : List Dv.D} {i : Int} : subD M (.ro ds) (.int i) = atI ds i := by simp [subD, seqD]
theorem at_nat {α : Type} {l : List α} {j : Int} (h0 : 0 ≤ j) (h : j < l.length) : atI l j = l[j.toNat]? := by
  unfold atI ixN
  rw [if_pos h0, if_pos h]
  rfl
theorem at_get {α : Type} {l : List α} {j : Int} (h0 : 0 ≤ j) (h : j < l.length) : ∃ x, atI l j = some x ∧ x ∈ l := by
  have hj : j.toNat < l.length := by omega
  exact ⟨l[j.toNat], by rw [at_nat h0 h, List.getElem?_eq_getElem hj], List.getElem_mem hj⟩
theorem pow_ok {i j r : Int} (h : 0 ≤ j ∧ (Builtin.Int.intBits i : Int) * j ≤ 2 ^ 27) (e : i ^ j.toNat = r) : bopD M .Pow (.int i) (.int j) = some (.int r) := by
  simp only [bopD]
  rw [if_pos h, e]
theorem urn_ok (h : IsFn T 0 2 5 true bUrn) {ns : List Int} {at_ : Int} (h0 : 0 ≤ at_) (h1 : at_ < 1000) : ∃ u, Phi T (k + 1) 0 [.ro (ns.map D.int), .int at_] M = .ok (.loc M.length) (M ++ [some (.lst u)]) ∧ Good 0 u := by
  rw [phi_run h rfl]
  have p1 : bopD M .Pow (.int 10) (.int 60) = some (.int (10 ^ 60)) := pow_ok (by decide +kernel) rfl
  have p2 : bopD M .Pow (.int (10 ^ 60)) (.int 9) = some (.int (10 ^ 540)) := pow_ok (by decide +kernel) (by decide +kernel)
  have p3 : bopD M .Pow (.int 10) (.int 17) = some (.int (10 ^ 17)) := pow_ok (by decide +kernel) rfl
  have cellE : ∃ cell : Int, ev (Phi T k) T (.ife (.cmp (.var 1) .Lt (.blt .len [.var 0])) (.sub (.var 0) (.var 1)) (.bop .Add (.bop .Mult (.cst (.int 83)) (.var 1)) (.cst (.int 37)))) [some (.ro (ns.map D.int)), some (.int at_), none, none, none] M = .ok (.int cell) M := by
    by_cases hl : at_ < (ns.map D.int).length
    · obtain ⟨x, e, hx⟩ := at_get h0 hl
      obtain ⟨i, _, rfl⟩ := List.mem_map.mp hx
      have hl' : at_ < (ns.length : Int) := by simpa using hl
      exact ⟨i, by simp [hl', e]⟩
    · have hl' : ¬ at_ < (ns.length : Int) := by simpa using hl
      have m : bopD M .Mult (.int 83) (.int at_) = some (.int (83 * at_)) := mul_ok (Nat.lt_of_lt_of_le (by decide : Int.natAbs 83 < 2 ^ 30) (Nat.pow_le_pow_right (by decide) (by decide))) (Nat.lt_of_lt_of_le (by omega : at_.natAbs < 2 ^ 30) (Nat.pow_le_pow_right (by decide) (by decide)))
      exact ⟨83 * at_ + 37, by simp [hl', m]⟩
  obtain ⟨cell, e⟩ := cellE
  obtain ⟨a, ha⟩ : ∃ a : Int, a = if cell < 0 then -cell else cell := ⟨_, rfl⟩
  have pos : (0 : Int) < 10 ^ 540 := by decide +kernel
  obtain ⟨g, hg⟩ : ∃ g : Int, g = a % 10 ^ 540 := ⟨_, rfl⟩
  have g0 : 0 ≤ g := by rw [hg]; exact Int.emod_nonneg _ (Int.ne_of_gt pos)
  have g1 : g < 10 ^ 540 := by rw [hg]; exact Int.emod_lt_of_pos _ pos
  have gs : g.natAbs < 2 ^ 5000 := by
    have q : (10 : Int) ^ 540 ≤ 2 ^ 5000 := by decide +kernel
    have q2 : (g.natAbs : Int) < 2 ^ 5000 := by omega
    exact_mod_cast q2
  have sm : ∀ i : Int, 0 ≤ i → i < 2 ^ 30 → i.natAbs < 2 ^ 5000 := fun i p q => Nat.lt_of_lt_of_le (by omega : i.natAbs < 2 ^ 30) (Nat.pow_le_pow_right (by decide) (by decide))
  have m1 : bopD M .Mult (.int g) (.int 104651) = some (.int (g * 104651)) := mul_ok gs (sm _ (by decide) (by decide))
  have m2 : bopD M .Mult (.int 15331) (.int at_) = some (.int (15331 * at_)) := mul_ok (sm _ (by decide) (by decide)) (sm _ h0 (by omega))
  have m3 : ∀ b : Bool, bopD M .Mult (.int 43) (.int (if b then 1 else 0)) = some (.int (43 * (if b then 1 else 0))) := fun b => mul_ok (sm _ (by decide) (by decide)) (by cases b <;> exact sm _ (by decide) (by decide))
  obtain ⟨s, hs⟩ : ∃ s : Int, s = (g * 104651 + 15331 * at_ + 43 * (if decide (cell < 0) = true then 1 else 0) + 19) % 2305843009213693921 := ⟨_, rfl⟩
  have s0 : 0 ≤ s ∧ s < 2305843009213693921 := by rw [hs]; exact ⟨Int.emod_nonneg _ (by decide), Int.emod_lt_of_pos _ (by decide)⟩
  refine ⟨[.int (if g - 10 ^ 17 > 0 then g - 10 ^ 17 else 0), .int s, .int 0], ?_, ⟨_, _, _, rfl, ?_, ?_, s0.1, by omega, by decide, by decide⟩⟩
  · have mm1 : bopD M .Mod (.int a) (.int (10 ^ 540)) = some (.int g) := by rw [mod_ok pos, hg]
    have mm2 : bopD M .Mod (.int (g * 104651 + 15331 * at_ + 43 * (if decide (cell < 0) = true then 1 else 0) + 19)) (.int 2305843009213693921) = some (.int s) := by rw [mod_ok (by decide), hs]
    have s1 : xc (Phi T k) T u1 [some (.ro (ns.map D.int)), some (.int at_), none, none, none] M = .nx [some (.ro (ns.map D.int)), some (.int at_), some (.int cell), none, none] M := by
      unfold u1
      rw [xc_set, e]
      rfl
    have s2 : xc (Phi T k) T u2 [some (.ro (ns.map D.int)), some (.int at_), some (.int cell), none, none] M = .nx [some (.ro (ns.map D.int)), some (.int at_), some (.int cell), some (.int g), none] M := by
      unfold u2
      rw [xc_set]
      simp only [ev_bop, ev_blt, evs_cons, evs_nil, ev_var, ev_cst, cst_int, R.of_some, R.bnd_ok, List.getElem?_cons_succ, List.getElem?_cons_zero, abs_int, int_int, p1, p2, ← ha, mm1, R.st_ok, put_nm]
      rfl
    have s3 : xc (Phi T k) T u3 [some (.ro (ns.map D.int)), some (.int at_), some (.int cell), some (.int g), none] M = .nx [some (.ro (ns.map D.int)), some (.int at_), some (.int cell), some (.int g), some (.int s)] M := by
      unfold u3
      rw [xc_set]
      simp only [ev_bop, ev_blt, evs_cons, evs_nil, ev_var, ev_cst, ev_cmp, lt_ok, Option.map_some, cst_int, R.of_some, R.bnd_ok, List.getElem?_cons_succ, List.getElem?_cons_zero, int_int, int_bl, m1, m2, m3, add_ok, mm2, R.st_ok, put_nm]
      rfl
    have s4 : xc (Phi T k) T u4 [some (.ro (ns.map D.int)), some (.int at_), some (.int cell), some (.int g), some (.int s)] M = .rt (.loc M.length) (M ++ [some (.lst [.int (if g - 10 ^ 17 > 0 then g - 10 ^ 17 else 0), .int s, .int 0])]) := by
      unfold u4
      rw [xc_ret]
      simp only [ev_lst, ev_bop, ev_blt, evs_cons, evs_nil, ev_var, ev_cst, cst_int, R.of_some, R.bnd_ok, List.getElem?_cons_succ, List.getElem?_cons_zero, p3, sub_ok, max_int]
      rw [mkL_false (by simp [sizeLine])]
      rfl
    show fin true M.length (xs (Phi T k) T [u1, u2, u3, u4] [some (.ro (ns.map D.int)), some (.int at_), none, none, none] M) = _
    simp only [xs_cons, s1, s2, s3, s4, fin_rt]
  · split <;> omega
  · have q : (10 : Int) ^ 540 < 10 ^ 600 := by decide +kernel
    split <;> omega

/-! ### draws -/
/-- the n-th place is an urn that has been asked at most C times; all else stands as in M0 -/
def Urn (n C : Nat) (M0 M : Mem) : Prop := ∃ u, M = M0.set n (some (.lst u)) ∧ n < M0.length ∧ Good C u
theorem Good.le {C C' : Nat} {u : List Dv.D} (h : Good C u) (l : C ≤ C') : Good C' u := by
  obtain ⟨g, s, c, e, h1, h2, h3, h4, h5, h6⟩ := h
  exact ⟨g, s, c, e, h1, h2, h3, h4, h5, by omega⟩
theorem Urn.le {C C' : Nat} {M0 M : Mem} (h : Urn n C M0 M) (l : C ≤ C') : Urn n C' M0 M := by
  obtain ⟨u, e, hn, g⟩ := h
  exact ⟨u, e, hn, g.le l⟩
theorem Urn.at_ {M0 : Mem} (h : Urn n C M0 M) : ∃ u, M[n]? = some (some (.lst u)) ∧ Good C u := by
  obtain ⟨u, rfl, hn, g⟩ := h
  exact ⟨u, List.getElem?_set_self hn, g⟩
theorem Urn.set {C' : Nat} {M0 : Mem} {u : List Dv.D} (h : Urn n C M0 M) (g : Good C' u) : Urn n C' M0 (M.set n (some (.lst u))) := by
  obtain ⟨v, rfl, hn, _⟩ := h
  exact ⟨u, by rw [List.set_set], hn, g⟩
theorem take_ok' (h : IsFn T 1 2 6 true bTake) {M0 : Mem} {total : Int} (hu : Urn n C M0 M) (hC : C < 1000000) (h1 : 0 < total) (h2 : total < 1000000000) :
    ∃ v M', Phi T (k + 1) 1 [.loc n, .int total] M = .ok (.int v) M' ∧ Urn n (C + 1) M0 M' ∧ 0 ≤ v ∧ v < total := by
  obtain ⟨u, hM, g⟩ := hu.at_
  obtain ⟨v, u', e, g', h3, h4⟩ := take_ok (k := k) h hM g hC h1 h2
  exact ⟨v, _, e, hu.set g', h3, h4⟩
def bOne : List Dv.S := [.ret (.sub (.var 1) (.call 1 [.var 0, .blt .len [.var 1]]))]
theorem one_ok (h1 : IsFn T 1 2 6 true bTake) (h2 : IsFn T 2 2 2 true bOne) {M0 : Mem} {ds : List Dv.D} (hu : Urn n C M0 M) (hC : C < 1000000) (h0 : ds ≠ []) (hl : ds.length < 1000000) :
    ∃ v M', Phi T (k + 2) 2 [.loc n, .lst ds] M = .ok v M' ∧ Urn n (C + 1) M0 M' ∧ v ∈ ds := by
  have hp : 0 < ds.length := List.length_pos_iff.mpr h0
  obtain ⟨v, M', e, hu', a, b⟩ := take_ok' (k := k) h1 hu hC (total := (ds.length : Int)) (by omega) (by omega)
  obtain ⟨x, e2, hx⟩ := at_get a b
  refine ⟨x, M', ?_, hu', hx⟩
  rw [phi_run h2 rfl]
  simp [bOne, e, e2]
theorem one_str (h1 : IsFn T 1 2 6 true bTake) (h2 : IsFn T 2 2 2 true bOne) {M0 : Mem} {x : Str} (hu : Urn n C M0 M) (hC : C < 1000000) (h0 : 0 < x.length) (hl : x.length < 1000000) :
    ∃ c M', Phi T (k + 2) 2 [.loc n, .str x] M = .ok (.str ⟨#[c]⟩) M' ∧ Urn n (C + 1) M0 M' ∧ c ∈ x.cps.toList := by
  obtain ⟨v, M', e, hu', a, b⟩ := take_ok' (k := k) h1 hu hC (total := (x.length : Int)) (by omega) (by omega)
  obtain ⟨c, e2, hx⟩ := at_get (l := x.cps.toList) a (by simpa [Str.length] using b)
  have hs : x.length ≤ sizeLine := Nat.le_trans (Nat.le_of_lt hl) (by decide)
  refine ⟨c, M', ?_, hu', hx⟩
  rw [phi_run h2 rfl]
  simp [bOne, bltD, lenD, hs, e, subD, e2]
/-! ### texts joined -/
theorem glue_list : ∀ (l : List Str) (a : Array Nat), (l.foldl (fun acc p => acc ++ (#[] : Array Nat) ++ p.cps) a).toList = a.toList ++ l.flatMap (·.cps.toList)
  | [], a => by simp
  | x :: r, a => by
    rw [List.foldl_cons, glue_list r]
    simp
theorem join_list (l : List Str) : (Txt.join (Str.ofString "") l).cps.toList = l.flatMap (·.cps.toList) := by
  have e : (Str.ofString "").cps = #[] := by decide
  show ((l.drop 1).foldl (fun acc p => acc ++ (Str.ofString "").cps ++ p.cps) (l.headD Str.empty).cps).toList = _
  rw [e, glue_list]
  cases l with
  | nil => rfl
  | cons x r => simp
theorem strs_ones {P : Nat → Prop} : ∀ {ys : List Dv.D}, (∀ y ∈ ys, ∃ c, y = .str ⟨#[c]⟩ ∧ P c) → ∃ cs : List Nat, ys = cs.map (fun c => Dv.D.str ⟨#[c]⟩) ∧ ∀ c ∈ cs, P c
  | [], _ => ⟨[], rfl, by simp⟩
  | y :: r, h => by
    obtain ⟨c, rfl, hc⟩ := h y (List.mem_cons_self ..)
    obtain ⟨cs, rfl, hcs⟩ := strs_ones (ys := r) fun z hz => h z (List.mem_cons_of_mem _ hz)
    exact ⟨c :: cs, rfl, fun d hd => by rcases List.mem_cons.mp hd with rfl | hd; exact hc; exact hcs d hd⟩
theorem strsOf_ones : ∀ cs : List Nat, strsOf (cs.map fun c => Dv.D.str ⟨#[c]⟩) = some (cs.map fun c => (⟨#[c]⟩ : Str))
  | [] => rfl
  | c :: r => by
    show (strsOf (r.map fun c => Dv.D.str ⟨#[c]⟩)).map (_ :: ·) = _
    rw [strsOf_ones r]
    rfl
theorem flat_ones : ∀ cs : List Nat, (cs.map fun c => (⟨#[c]⟩ : Str)).flatMap (·.cps.toList) = cs
  | [] => rfl
  | c :: r => by
    rw [List.map_cons, List.flatMap_cons, flat_ones r]
    rfl
theorem join_ok {P : Nat → Prop} {ys : List Dv.D} (h : ∀ y ∈ ys, ∃ c, y = .str ⟨#[c]⟩ ∧ P c) (hl : ys.length ≤ 100000) :
    ∃ x : Str, mthD .join (.str (Str.ofString "")) [.lst ys] M = .ok (.str x) M ∧ x.length = ys.length ∧ ∀ c ∈ x.cps.toList, P c := by
  obtain ⟨cs, rfl, hcs⟩ := strs_ones h
  rw [List.length_map] at hl
  have e1 : (Txt.join (Str.ofString "") (cs.map fun c => (⟨#[c]⟩ : Str))).cps.toList = cs := by rw [join_list, flat_ones]
  refine ⟨Txt.join (Str.ofString "") (cs.map fun c => (⟨#[c]⟩ : Str)), ?_, ?_, fun c hc => hcs c (by rw [e1] at hc; exact hc)⟩
  · have e2 : (((cs.map fun c => (⟨#[c]⟩ : Str)).map (·.length)).sum + (cs.map fun c => (⟨#[c]⟩ : Str)).length * (Str.ofString "").length ≤ 16777216) := by
      have q1 : ((cs.map fun c => (⟨#[c]⟩ : Str)).map (·.length)).sum = cs.length := by
        rw [List.map_map]
        clear hl e1 h hcs
        induction cs with
        | nil => rfl
        | cons c r ih => rw [List.map_cons, List.sum_cons, ih, List.length_cons]; show 1 + r.length = _; omega
      have q2 : (Str.ofString "").length = 0 := by decide
      rw [q1, q2]
      omega
    simp only [mthD, lstD, strsOf_ones, joinS]
    rw [if_pos e2]
    rfl
  · have := congrArg List.length e1
    rw [List.length_map]
    exact this
/-! ### a name -/
def low (c : Nat) : Bool := decide (97 ≤ c) && decide (c ≤ 122)
abbrev abc : Str := Str.ofString "abcdefghijklmnopqrstuvwxyz"
theorem abc_list : abc.cps.toList = [97, 98, 99, 100, 101, 102, 103, 104, 105, 106, 107, 108, 109, 110, 111, 112, 113, 114, 115, 116, 117, 118, 119, 120, 121, 122] := by decide +kernel
theorem abc_len : abc.length = 26 := by decide +kernel
theorem abc_low {c : Nat} (h : c ∈ abc.cps.toList) : low c = true := by
  rw [abc_list] at h
  have : ∀ c ∈ [97, 98, 99, 100, 101, 102, 103, 104, 105, 106, 107, 108, 109, 110, 111, 112, 113, 114, 115, 116, 117, 118, 119, 120, 121, 122], low c = true := by decide
  exact this c h
def bName : List Dv.S := [.set (.nm 1) (.cst (.str (Str.ofString "abcdefghijklmnopqrstuvwxyz"))),
  .ret (.mth .join (.cst (.str (Str.ofString ""))) [.lc true (.sub (.var 1) (.call 1 [.var 0, .cst (.int 26)])) (.nm 2) (.rng [.bop .Add (.cst (.int 1)) (.call 1 [.var 0, .cst (.int 8)])]) [] [2]])]
theorem name_ok {f : Nat} (h1 : IsFn T 1 2 6 true bTake) (h4 : IsFn T f 1 3 true bName) {M0 : Mem} (hu : Urn n C M0 M) (hC : C + 9 < 1000000) :
    ∃ x M', Phi T (k + 2) f [.loc n] M = .ok (.str x) M' ∧ Urn n (C + 9) M0 M' ∧ 1 ≤ x.length ∧ x.length ≤ 8 ∧ ∀ c ∈ x.cps.toList, low c = true := by
  obtain ⟨v, M1, e1, hu1, a, b⟩ := take_ok' (k := k) h1 hu (by omega) (total := 8) (by decide) (by decide)
  have hr : -4611686018427387904 ≤ 1 + v ∧ 1 + v < 4611686018427387904 := by omega
  have hlen : ((List.range (1 + v).toNat).map fun (i : Nat) => Dv.D.int (i : Int)).length = (1 + v).toNat := by simp
  have hle : (1 + v).toNat ≤ 8 := by omega
  obtain ⟨ys, M2, e2, hy, hp, hu2⟩ := foldC_draw (N := 8) (f := lcF (Phi T (k + 1)) T (.sub (.var 1) (.call 1 [.var 0, .cst (.int 26)])) (.nm 2) [] [2] [some (.loc n), some (.str abc), none]) (I := fun i M => Urn n (C + 1 + i) M0 M) (P := fun y => ∃ c, y = .str ⟨#[c]⟩ ∧ low c = true)
    (xs := (List.range (1 + v).toNat).map fun (i : Nat) => Dv.D.int (i : Int)) (acc := []) (i := 0) (M := M1) (fun x i M _ hi hI => by
      obtain ⟨w, M', e, hu', c, d⟩ := take_ok' (k := k) h1 hI (by omega) (total := 26) (by decide) (by decide)
      obtain ⟨ch, e3, hc⟩ := at_get (l := abc.cps.toList) c (by have := abc_len; simp only [Str.length] at this; simpa [this] using d)
      have hs : abc.length ≤ sizeLine := by rw [abc_len]; decide
      refine ⟨.str ⟨#[ch]⟩, M', ?_, ⟨ch, rfl, abc_low hc⟩, hu'⟩
      simp [lcF, wipeD, e, subD, hs, e3]) (by rw [hlen]; exact Nat.le_trans (by simpa using hle) (by decide : 8 ≤ sizeLine)) (by rw [hlen]; omega) hu1
  rw [hlen] at hy hu2
  obtain ⟨x, e4, hx, hlow⟩ := join_ok (M := M2) hp (by omega)
  refine ⟨x, M2, ?_, hu2.le (by omega), by omega, by omega, hlow⟩
  have hmk : ys.length ≤ sizeLine := Nat.le_trans (by omega : ys.length ≤ 8) (by decide)
  rw [phi_run h4 rfl]
  have e2' := e2
  simp only [List.nil_append] at e2'
  simp [bName, e1, hr, rcvB]
  rw [e2']
  simp [mkL_true hmk, e4]
end
end Dv
end L2
namespace L2.Dv.K01
open PySem PySem.Spec PyProof.Rows
def top (i : Nat) : Stmt := PySem.Challenge.pw_showncalls_k01_names_and_lines.main.body.getD i (.Pass ⟨0, 0, 0, 0⟩)
/-- _law_urn(script, at): 0 script, 1 at, 2 cell, 3 great, 4 seed -/
def b0 : List Dv.S := [.set (.nm 2) (.ife (.cmp (.var 1) .Lt (.blt .len [.var 0])) (.sub (.var 0) (.var 1)) (.bop .Add (.bop .Mult (.cst (.int 83)) (.var 1)) (.cst (.int 37)))),
  .set (.nm 3) (.bop .Mod (.blt .int [.blt .abs [.var 2]]) (.bop .Pow (.bop .Pow (.cst (.int 10)) (.cst (.int 60))) (.cst (.int 9)))),
  .set (.nm 4) (.bop .Mod (.blt .int [.bop .Add (.bop .Add (.bop .Add (.bop .Mult (.var 3) (.cst (.int 104651))) (.bop .Mult (.cst (.int 15331)) (.var 1))) (.bop .Mult (.cst (.int 43)) (.blt .int [.cmp (.var 2) .Lt (.cst (.int 0))]))) (.cst (.int 19))]) (.cst (.int 2305843009213693921))),
  .ret (.lst false [.blt .max [.cst (.int 0), .bop .Sub (.var 3) (.bop .Pow (.cst (.int 10)) (.cst (.int 17)))], .var 4, .cst (.int 0)])]
def f0 : FnE := { name := (Str.ofString "_law_urn"), ps := [(Str.ofString "script"), (Str.ofString "at")], N := [(Str.ofString "script"), (Str.ofString "at"), (Str.ofString "cell"), (Str.ofString "great"), (Str.ofString "seed")], keep := true, body := b0 }
abbrev t0 : Stmt := top 10
/-- _law_take(urn, total): 0 urn, 1 total, 2 found, 3 one, 4 two, 5 three -/
def b1 : List Dv.S := [.ite (.cmp (.sub (.var 0) (.cst (.int 0))) .Gt (.cst (.int 0))) [.set (.nm 2) (.bop .Mod (.blt .int [.sub (.var 0) (.cst (.int 0))]) (.var 1)), .sst (.var 0) (.cst (.int 0)) (.bop .FloorDiv (.sub (.var 0) (.cst (.int 0))) (.var 1)), .ret (.var 2)] [],
  .sst (.var 0) (.cst (.int 2)) (.bop .Add (.sub (.var 0) (.cst (.int 2))) (.cst (.int 1))),
  .set (.nm 3) (.bop .Mod (.blt .int [.bop .Add (.sub (.var 0) (.cst (.int 1))) (.bop .Mult (.cst (.int 1299709)) (.sub (.var 0) (.cst (.int 2))))]) (.cst (.int 2305843009213693951))),
  .set (.nm 4) (.bop .Mod (.blt .int [.bop .Add (.bop .Mult (.var 3) (.var 3)) (.bop .Mult (.cst (.int 7919)) (.sub (.var 0) (.cst (.int 2))))]) (.cst (.int 1000000000039))),
  .set (.nm 5) (.bop .Mod (.blt .int [.bop .Add (.bop .Mult (.var 4) (.var 4)) (.var 3)]) (.cst (.int 998244353))),
  .ret (.bop .Mod (.blt .int [.bop .FloorDiv (.var 5) (.cst (.int 61))]) (.var 1))]
def f1 : FnE := { name := (Str.ofString "_law_take"), ps := [(Str.ofString "urn"), (Str.ofString "total")], N := [(Str.ofString "urn"), (Str.ofString "total"), (Str.ofString "found"), (Str.ofString "one"), (Str.ofString "two"), (Str.ofString "three")], keep := true, body := b1 }
abbrev t1 : Stmt := top 11
/-- _law_one(urn, items): 0 urn, 1 items -/
def b2 : List Dv.S := [.ret (.sub (.var 1) (.call 1 [.var 0, .blt .len [.var 1]]))]
def f2 : FnE := { name := (Str.ofString "_law_one"), ps := [(Str.ofString "urn"), (Str.ofString "items")], N := [(Str.ofString "urn"), (Str.ofString "items")], keep := true, body := b2 }
abbrev t2 : Stmt := top 12
/-- _law_some(urn, items, many): 0 urn, 1 items, 2 many, 3 stock, 4 found, 5 turn -/
def b3 : List Dv.S := [.par 3 4 (.blt .listM [.var 1]) (.lst false []),
  .fr (.nm 5) (.rng [.blt .min [.var 2, .blt .len [.var 1]]]) [.exp (.mth .append (.var 4) [.mth .pop (.var 3) [.call 1 [.var 0, .blt .len [.var 3]]]])],
  .ret (.var 4)]
def f3 : FnE := { name := (Str.ofString "_law_some"), ps := [(Str.ofString "urn"), (Str.ofString "items"), (Str.ofString "many")], N := [(Str.ofString "urn"), (Str.ofString "items"), (Str.ofString "many"), (Str.ofString "stock"), (Str.ofString "found"), (Str.ofString "turn")], keep := false, body := b3 }
abbrev t3 : Stmt := top 13
/-- _law_name(urn): 0 urn, 1 letters, 2 turn -/
def b4 : List Dv.S := [.set (.nm 1) (.cst (.str (Str.ofString "abcdefghijklmnopqrstuvwxyz"))),
  .ret (.mth .join (.cst (.str (Str.ofString ""))) [.lc true (.sub (.var 1) (.call 1 [.var 0, .cst (.int 26)])) (.nm 2) (.rng [.bop .Add (.cst (.int 1)) (.call 1 [.var 0, .cst (.int 8)])]) [] [2]])]
def f4 : FnE := { name := (Str.ofString "_law_name"), ps := [(Str.ofString "urn")], N := [(Str.ofString "urn"), (Str.ofString "letters"), (Str.ofString "turn")], keep := true, body := b4 }
abbrev t4 : Stmt := top 14
/-- _law_names(urn, many): 0 urn, 1 many, 2 found, 3 turn, 4 name, 5 spare, 6 one -/
def b5 : List Dv.S := [.set (.nm 2) (.lst false []),
  .fr (.nm 3) (.rng [.var 1]) [.set (.nm 4) (.call 4 [.var 0]), .set (.nm 5) (.lc true (.var 6) (.nm 6) (.lst true [.cst (.str (Str.ofString "qa")), .cst (.str (Str.ofString "qb")), .cst (.str (Str.ofString "qc")), .cst (.str (Str.ofString "qd")), .cst (.str (Str.ofString "qe")), .cst (.str (Str.ofString "qf")), .cst (.str (Str.ofString "qg"))]) [.cmp (.var 6) .NotIn (.var 2)] [6]), .exp (.mth .append (.var 2) [.ife (.cmp (.var 4) .NotIn (.var 2)) (.var 4) (.sub (.var 5) (.cst (.int 0)))])],
  .ret (.var 2)]
def f5 : FnE := { name := (Str.ofString "_law_names"), ps := [(Str.ofString "urn"), (Str.ofString "many")], N := [(Str.ofString "urn"), (Str.ofString "many"), (Str.ofString "found"), (Str.ofString "turn"), (Str.ofString "name"), (Str.ofString "spare"), (Str.ofString "one")], keep := false, body := b5 }
abbrev t5 : Stmt := top 15
/-- is_integer(value): 0 value -/
def b6 : List Dv.S := [.ret (.boo true [.isi (.var 0) (.bt "int"), .not (.isi (.var 0) (.bt "bool")), .chn (.neg (.glo 0)) .Lt (.var 0) .Lt (.glo 0)])]
def f6 : FnE := { name := (Str.ofString "is_integer"), ps := [(Str.ofString "value")], N := [(Str.ofString "value")], keep := true, body := b6 }
abbrev t6 : Stmt := top 5
/-- is_below(value, size): 0 value, 1 size -/
def b7 : List Dv.S := [.ret (.boo true [.call 6 [.var 0], .chn (.cst (.int 0)) .LtE (.var 0) .Lt (.var 1)])]
def f7 : FnE := { name := (Str.ofString "is_below"), ps := [(Str.ofString "value"), (Str.ofString "size")], N := [(Str.ofString "value"), (Str.ofString "size")], keep := true, body := b7 }
abbrev t7 : Stmt := top 6
/-- is_name(value): 0 value, 1 letter -/
def b8 : List Dv.S := [.ite (.boo false [.not (.isi (.var 0) (.bt "str")), .not (.chn (.cst (.int 0)) .Lt (.blt .len [.var 0]) .LtE (.glo 1))]) [.ret (.cst (.bool false))] [],
  .ret (.blt .all [.lc true (.cmp (.var 1) .In (.glo 2)) (.nm 1) (.var 0) [] [1]])]
def f8 : FnE := { name := (Str.ofString "is_name"), ps := [(Str.ofString "value")], N := [(Str.ofString "value"), (Str.ofString "letter")], keep := true, body := b8 }
abbrev t8 : Stmt := top 7
/-- is_line(value): 0 value, 1 name, 2 word, 3 number -/
def b9 : List Dv.S := [.ite (.not (.isi (.var 0) (.bt "tuple"))) [.ret (.cst (.bool false))] [],
  .mat (.var 0) [.seq [.alt [.val (.str (Str.ofString "enter")), .val (.str (Str.ofString "leave")), .val (.str (Str.ofString "say"))], .cap 1], .seq [.alt [.val (.str (Str.ofString "ask")), .val (.str (Str.ofString "say"))], .cap 2, .cap 3]] [[.ret (.call 8 [.var 1])], [.ret (.boo true [.call 8 [.var 2], .call 7 [.var 3, .glo 3]])]],
  .ret (.cst (.bool false))]
def f9 : FnE := { name := (Str.ofString "is_line"), ps := [(Str.ofString "value")], N := [(Str.ofString "value"), (Str.ofString "name"), (Str.ofString "word"), (Str.ofString "number")], keep := true, body := b9 }
abbrev t9 : Stmt := top 8
/-- _law_is_name(value): 0 value, 1 sign -/
def b10 : List Dv.S := [.ite (.boo false [.not (.isi (.var 0) (.bt "str")), .cmp (.blt .len [.var 0]) .Lt (.cst (.int 1)), .cmp (.blt .len [.var 0]) .Gt (.cst (.int 8))]) [.ret (.cst (.bool false))] [],
  .ret (.cmp (.lc true (.var 1) (.nm 1) (.var 0) [.boo false [.cmp (.var 1) .Lt (.cst (.str (Str.ofString "a"))), .cmp (.var 1) .Gt (.cst (.str (Str.ofString "z")))]] [1]) .Eq (.lst true []))]
def f10 : FnE := { name := (Str.ofString "_law_is_name"), ps := [(Str.ofString "value")], N := [(Str.ofString "value"), (Str.ofString "sign")], keep := true, body := b10 }
abbrev t10 : Stmt := top 16
/-- _law_is_line(value): 0 value, 1 number -/
def b11 : List Dv.S := [.ite (.boo false [.not (.isi (.var 0) (.bt "tuple")), .cmp (.blt .len [.var 0]) .Lt (.cst (.int 2)), .cmp (.blt .len [.var 0]) .Gt (.cst (.int 3)), .not (.isi (.sub (.var 0) (.cst (.int 0))) (.bt "str"))]) [.ret (.cst (.bool false))] [],
  .ite (.cmp (.blt .len [.var 0]) .Eq (.cst (.int 2))) [.ret (.boo true [.cmp (.sub (.var 0) (.cst (.int 0))) .In (.lst true [.cst (.str (Str.ofString "enter")), .cst (.str (Str.ofString "leave")), .cst (.str (Str.ofString "say"))]), .call 10 [.sub (.var 0) (.cst (.int 1))]])] [],
  .set (.nm 1) (.sub (.var 0) (.cst (.int 2))),
  .ite (.boo false [.not (.isi (.var 1) (.bt "int")), .isi (.var 1) (.bt "bool"), .cmp (.var 1) .Lt (.cst (.int 0)), .cmp (.var 1) .Gt (.cst (.int 3))]) [.ret (.cst (.bool false))] [],
  .ret (.boo true [.cmp (.sub (.var 0) (.cst (.int 0))) .In (.lst true [.cst (.str (Str.ofString "say")), .cst (.str (Str.ofString "ask"))]), .call 10 [.sub (.var 0) (.cst (.int 1))]])]
def f11 : FnE := { name := (Str.ofString "_law_is_line"), ps := [(Str.ofString "value")], N := [(Str.ofString "value"), (Str.ofString "number")], keep := true, body := b11 }
abbrev t11 : Stmt := top 17
/-- _law_text(urn): 0 urn, 1 signs, 2 turn -/
def b12 : List Dv.S := [.set (.nm 1) (.bop .Add (.cst (.str (Str.ofString "abcdefghijklmnopqrstuvwxyz"))) (.call 2 [.var 0, .lst true [.cst (.str (Str.ofString "")), .cst (.str (Str.ofString "")), .cst (.str (Str.ofString "A")), .cst (.str (Str.ofString " ")), .cst (.str (Str.ofString "_0")), .cst (.str (Str.ofString "-")), .cst (.str (Str.ofString "{|"))]])),
  .ret (.mth .join (.cst (.str (Str.ofString ""))) [.lc true (.call 2 [.var 0, .var 1]) (.nm 2) (.rng [.call 1 [.var 0, .cst (.int 11)]]) [] [2]])]
def f12 : FnE := { name := (Str.ofString "_law_text"), ps := [(Str.ofString "urn")], N := [(Str.ofString "urn"), (Str.ofString "signs"), (Str.ofString "turn")], keep := true, body := b12 }
abbrev t12 : Stmt := top 18
/-- _law_line(urn): 0 urn, 1 name, 2 number, 3 told -/
def b13 : List Dv.S := [.par 1 2 (.call 4 [.var 0]) (.call 1 [.var 0, .cst (.int 4)]),
  .set (.nm 3) (.lst true [.tup [.cst (.str (Str.ofString "say")), .var 1], .tup [.cst (.str (Str.ofString "say")), .var 1, .var 2], .tup [.cst (.str (Str.ofString "ask")), .var 1, .var 2]]),
  .ret (.call 2 [.var 0, .bop .Add (.lst true [.tup [.cst (.str (Str.ofString "enter")), .var 1], .tup [.cst (.str (Str.ofString "leave")), .var 1]]) (.var 3)])]
def f13 : FnE := { name := (Str.ofString "_law_line"), ps := [(Str.ofString "urn")], N := [(Str.ofString "urn"), (Str.ofString "name"), (Str.ofString "number"), (Str.ofString "told")], keep := true, body := b13 }
abbrev t13 : Stmt := top 19
/-- _law_near(urn, line): 0 urn, 1 line, 2 text, 3 spot, 4 odd, 5 found, 6 word -/
def b14 : List Dv.S := [.par 2 3 (.call 12 [.var 0]) (.call 1 [.var 0, .blt .len [.var 1]]),
  .set (.nm 4) (.call 2 [.var 0, .lst true [.cst .none, .cst (.int 0), .cst (.int 1), .cst (.int 4), .neg (.cst (.int 1)), .cst (.bool true), .cst (.bool false), .var 2, .cst (.str (Str.ofString "")), .cst (.str (Str.ofString "Say")), .tup [], .lst true [], .tup [.cst (.int 1)], .bop .Pow (.cst (.int 10)) (.cst (.int 30)), .cst (.str (Str.ofString "say")), .cst (.str (Str.ofString "enter")), .dis true [] []]]),
  .set (.nm 5) (.lst true [.var 1, .blt .list [.var 1], .bop .Add (.var 1) (.tup [.call 1 [.var 0, .cst (.int 6)]]), .slc (.var 1) (some (.cst (.int 1))) none, .slc (.var 1) none (some (.neg (.cst (.int 1)))), .tup [.var 1], .sub (.var 1) (.cst (.int 0)), .rev (.var 1)]),
  .set (.nm 5) (.bop .Add (.var 5) (.lst true [.bop .Add (.bop .Add (.slc (.var 1) none (some (.var 3))) (.tup [.var 4])) (.slc (.var 1) (some (.bop .Add (.var 3) (.cst (.int 1)))) none), .bop .Add (.var 1) (.tup [.var 4]), .bop .Add (.tup [.sub (.var 1) (.cst (.int 0)), .var 2]) (.slc (.var 1) (some (.cst (.int 2))) none), .var 4])),
  .set (.nm 6) (.call 2 [.var 0, .lst true [.cst (.str (Str.ofString "enter")), .cst (.str (Str.ofString "leave")), .cst (.str (Str.ofString "say")), .cst (.str (Str.ofString "ask")), .cst (.str (Str.ofString "told"))]]),
  .ret (.bop .Add (.var 5) (.lst true [.bop .Add (.tup [.var 6]) (.slc (.var 1) (some (.cst (.int 1))) none), .tup [.var 6], .tup [.var 6, .sub (.var 1) (.cst (.int 1)), .sub (.var 1) (.cst (.int 1))], .tup [.var 6, .sub (.var 1) (.cst (.int 1)), .cst (.bool true)]]))]
def f14 : FnE := { name := (Str.ofString "_law_near"), ps := [(Str.ofString "urn"), (Str.ofString "line")], N := [(Str.ofString "urn"), (Str.ofString "line"), (Str.ofString "text"), (Str.ofString "spot"), (Str.ofString "odd"), (Str.ofString "found"), (Str.ofString "word")], keep := true, body := b14 }
abbrev t14 : Stmt := top 20
/-- _law_right(urn): 0 urn, 1 line, 2 values, 3 turn, 4 value, 5 text -/
def b15 : List Dv.S := [.set (.nm 1) (.call 13 [.var 0]),
  .set (.nm 2) (.bop .Add (.bop .Add (.call 14 [.var 0, .var 1]) (.lc true (.call 12 [.var 0]) (.nm 3) (.rng [.cst (.int 4)]) [] [3])) (.lst true [.call 4 [.var 0], .bop .Add (.sub (.var 1) (.cst (.int 1))) (.cst (.str (Str.ofString "a")))])),
  .set (.nm 2) (.bop .Add (.var 2) (.lst true [.cst .none, .cst (.int 0), .cst (.bool true), .tup [], .lst true [], .dis true [] [], .cst (.str (Str.ofString "")), .cst (.str (Str.ofString "abcdefgh")), .cst (.str (Str.ofString "abcdefghi")), .cst (.str (Str.ofString "a")), .cst (.str (Str.ofString "z")), .cst (.str (Str.ofString "aZ")), .cst (.str (Str.ofString "say")), .cst (.str (Str.ofString "mirror\n")), .cst (.int 7)])),
  .fr (.nm 4) (.var 2) [.set (.nm 5) (.blt .repr [.var 4]), .ite (.cmp (.blt .repr [.lst true [.call 8 [.var 4], .call 9 [.var 4]]]) .NotEq (.blt .repr [.lst true [.call 10 [.var 4], .call 11 [.var 4]]])) [.ret (.cst (.bool false))] [], .ite (.boo false [.cmp (.blt .repr [.var 4]) .NotEq (.var 5), .cmp (.blt .repr [.call 9 [.var 4]]) .NotEq (.blt .repr [.call 11 [.var 4]])]) [.ret (.cst (.bool false))] []],
  .ret (.boo true [.cmp (.call 9 [.var 1]) .Is (.cst (.bool true)), .cmp (.call 8 [.sub (.var 1) (.cst (.int 1))]) .Is (.cst (.bool true))])]
def f15 : FnE := { name := (Str.ofString "_law_right"), ps := [(Str.ofString "urn")], N := [(Str.ofString "urn"), (Str.ofString "line"), (Str.ofString "values"), (Str.ofString "turn"), (Str.ofString "value"), (Str.ofString "text")], keep := true, body := b15 }
abbrev t15 : Stmt := top 21
/-- law(script): 0 script, 1 at, 2 urn, 3 turn, 4 numbers, 5 number -/
def b16 : List Dv.S := [.fr (.nm 1) (.rng [.blt .max [.cst (.int 1), .blt .min [.cst (.int 10), .blt .len [.var 0]]]]) [.set (.nm 2) (.call 0 [.var 0, .var 1]), .fr (.nm 3) (.rng [.cst (.int 4)]) [.ite (.not (.call 15 [.var 2])) [.ret (.cst (.bool false))] []]],
  .set (.nm 4) (.lc true (.call 9 [.tup [.cst (.str (Str.ofString "ask")), .cst (.str (Str.ofString "w")), .var 5]]) (.nm 5) (.rng [.neg (.cst (.int 1)), .cst (.int 6)]) [] [5]),
  .ret (.boo true [.cmp (.var 4) .Eq (.lst true [.cst (.bool false), .cst (.bool true), .cst (.bool true), .cst (.bool true), .cst (.bool true), .cst (.bool false), .cst (.bool false)]), .cmp (.call 9 [.tup [.cst (.str (Str.ofString "ask")), .cst (.str (Str.ofString "w"))]]) .Is (.cst (.bool false))])]
def f16 : FnE := { name := (Str.ofString "law"), ps := [(Str.ofString "script")], N := [(Str.ofString "script"), (Str.ofString "at"), (Str.ofString "urn"), (Str.ofString "turn"), (Str.ofString "numbers"), (Str.ofString "number")], keep := true, body := b16 }
abbrev t16 : Stmt := top 22
def fns : List FnE := [f0, f1, f2, f3, f4, f5, f6, f7, f8, f9, f10, f11, f12, f13, f14, f15, f16]
def gls : List (Str × Dv.D) := [((Str.ofString "TOP"), (.int 10000000000000000000000000000000000000000)), ((Str.ofString "MAX_LETTERS"), (.int 8)), ((Str.ofString "LETTERS"), (.str (Str.ofString "abcdefghijklmnopqrstuvwxyz"))), ((Str.ofString "MAX_SIZE"), (.int 4))]
def tb : Tb := ⟨fun i => fns[i]?, fun i => gls[i]?⟩
theorem sc0 : FnScope f0.N f0.ps (defScope t0) := ⟨rfl, rfl, rfl, by decide +kernel, rfl, by decide +kernel, by decide +kernel⟩
theorem ch0 : chSs tb f0.N (defScope t0) f0.body (defBody t0) = true := by decide +kernel
theorem sc1 : FnScope f1.N f1.ps (defScope t1) := ⟨rfl, rfl, rfl, by decide +kernel, rfl, by decide +kernel, by decide +kernel⟩
theorem ch1 : chSs tb f1.N (defScope t1) f1.body (defBody t1) = true := by decide +kernel
theorem sc2 : FnScope f2.N f2.ps (defScope t2) := ⟨rfl, rfl, rfl, by decide +kernel, rfl, by decide +kernel, by decide +kernel⟩
theorem ch2 : chSs tb f2.N (defScope t2) f2.body (defBody t2) = true := by decide +kernel
theorem sc3 : FnScope f3.N f3.ps (defScope t3) := ⟨rfl, rfl, rfl, by decide +kernel, rfl, by decide +kernel, by decide +kernel⟩
theorem ch3 : chSs tb f3.N (defScope t3) f3.body (defBody t3) = true := by decide +kernel
theorem sc4 : FnScope f4.N f4.ps (defScope t4) := ⟨rfl, rfl, rfl, by decide +kernel, rfl, by decide +kernel, by decide +kernel⟩
theorem ch4 : chSs tb f4.N (defScope t4) f4.body (defBody t4) = true := by decide +kernel
theorem sc5 : FnScope f5.N f5.ps (defScope t5) := ⟨rfl, rfl, rfl, by decide +kernel, rfl, by decide +kernel, by decide +kernel⟩
theorem ch5 : chSs tb f5.N (defScope t5) f5.body (defBody t5) = true := by decide +kernel
theorem sc6 : FnScope f6.N f6.ps (defScope t6) := ⟨rfl, rfl, rfl, by decide +kernel, rfl, by decide +kernel, by decide +kernel⟩
theorem ch6 : chSs tb f6.N (defScope t6) f6.body (defBody t6) = true := by decide +kernel
theorem sc7 : FnScope f7.N f7.ps (defScope t7) := ⟨rfl, rfl, rfl, by decide +kernel, rfl, by decide +kernel, by decide +kernel⟩
theorem ch7 : chSs tb f7.N (defScope t7) f7.body (defBody t7) = true := by decide +kernel
theorem sc8 : FnScope f8.N f8.ps (defScope t8) := ⟨rfl, rfl, rfl, by decide +kernel, rfl, by decide +kernel, by decide +kernel⟩
theorem ch8 : chSs tb f8.N (defScope t8) f8.body (defBody t8) = true := by decide +kernel
theorem sc9 : FnScope f9.N f9.ps (defScope t9) := ⟨rfl, rfl, rfl, by decide +kernel, rfl, by decide +kernel, by decide +kernel⟩
theorem ch9 : chSs tb f9.N (defScope t9) f9.body (defBody t9) = true := by decide +kernel
theorem sc10 : FnScope f10.N f10.ps (defScope t10) := ⟨rfl, rfl, rfl, by decide +kernel, rfl, by decide +kernel, by decide +kernel⟩
theorem ch10 : chSs tb f10.N (defScope t10) f10.body (defBody t10) = true := by decide +kernel
theorem sc11 : FnScope f11.N f11.ps (defScope t11) := ⟨rfl, rfl, rfl, by decide +kernel, rfl, by decide +kernel, by decide +kernel⟩
theorem ch11 : chSs tb f11.N (defScope t11) f11.body (defBody t11) = true := by decide +kernel
theorem sc12 : FnScope f12.N f12.ps (defScope t12) := ⟨rfl, rfl, rfl, by decide +kernel, rfl, by decide +kernel, by decide +kernel⟩
theorem ch12 : chSs tb f12.N (defScope t12) f12.body (defBody t12) = true := by decide +kernel
theorem sc13 : FnScope f13.N f13.ps (defScope t13) := ⟨rfl, rfl, rfl, by decide +kernel, rfl, by decide +kernel, by decide +kernel⟩
theorem ch13 : chSs tb f13.N (defScope t13) f13.body (defBody t13) = true := by decide +kernel
theorem sc14 : FnScope f14.N f14.ps (defScope t14) := ⟨rfl, rfl, rfl, by decide +kernel, rfl, by decide +kernel, by decide +kernel⟩
theorem ch14 : chSs tb f14.N (defScope t14) f14.body (defBody t14) = true := by decide +kernel
theorem sc15 : FnScope f15.N f15.ps (defScope t15) := ⟨rfl, rfl, rfl, by decide +kernel, rfl, by decide +kernel, by decide +kernel⟩
theorem ch15 : chSs tb f15.N (defScope t15) f15.body (defBody t15) = true := by decide +kernel
theorem sc16 : FnScope f16.N f16.ps (defScope t16) := ⟨rfl, rfl, rfl, by decide +kernel, rfl, by decide +kernel, by decide +kernel⟩
theorem ch16 : chSs tb f16.N (defScope t16) f16.body (defBody t16) = true := by decide +kernel
theorem fits {K : PySem.W.Frag} {h : Heap} {mg : Str → Option Value} (X : K.In h) (G : h.Ns mainGlobals mg)
    {a0 : Addr} {od0 an0 : Option Addr} {sl0 : Array (Option Value)} {oc0 kV0 dc0 pm0 cd0 ct0 : Value}
    {a1 : Addr} {od1 an1 : Option Addr} {sl1 : Array (Option Value)} {oc1 kV1 dc1 pm1 cd1 ct1 : Value}
    {a2 : Addr} {od2 an2 : Option Addr} {sl2 : Array (Option Value)} {oc2 kV2 dc2 pm2 cd2 ct2 : Value}
    {a3 : Addr} {od3 an3 : Option Addr} {sl3 : Array (Option Value)} {oc3 kV3 dc3 pm3 cd3 ct3 : Value}
    {a4 : Addr} {od4 an4 : Option Addr} {sl4 : Array (Option Value)} {oc4 kV4 dc4 pm4 cd4 ct4 : Value}
    {a5 : Addr} {od5 an5 : Option Addr} {sl5 : Array (Option Value)} {oc5 kV5 dc5 pm5 cd5 ct5 : Value}
    {a6 : Addr} {od6 an6 : Option Addr} {sl6 : Array (Option Value)} {oc6 kV6 dc6 pm6 cd6 ct6 : Value}
    {a7 : Addr} {od7 an7 : Option Addr} {sl7 : Array (Option Value)} {oc7 kV7 dc7 pm7 cd7 ct7 : Value}
    {a8 : Addr} {od8 an8 : Option Addr} {sl8 : Array (Option Value)} {oc8 kV8 dc8 pm8 cd8 ct8 : Value}
    {a9 : Addr} {od9 an9 : Option Addr} {sl9 : Array (Option Value)} {oc9 kV9 dc9 pm9 cd9 ct9 : Value}
    {a10 : Addr} {od10 an10 : Option Addr} {sl10 : Array (Option Value)} {oc10 kV10 dc10 pm10 cd10 ct10 : Value}
    {a11 : Addr} {od11 an11 : Option Addr} {sl11 : Array (Option Value)} {oc11 kV11 dc11 pm11 cd11 ct11 : Value}
    {a12 : Addr} {od12 an12 : Option Addr} {sl12 : Array (Option Value)} {oc12 kV12 dc12 pm12 cd12 ct12 : Value}
    {a13 : Addr} {od13 an13 : Option Addr} {sl13 : Array (Option Value)} {oc13 kV13 dc13 pm13 cd13 ct13 : Value}
    {a14 : Addr} {od14 an14 : Option Addr} {sl14 : Array (Option Value)} {oc14 kV14 dc14 pm14 cd14 ct14 : Value}
    {a15 : Addr} {od15 an15 : Option Addr} {sl15 : Array (Option Value)} {oc15 kV15 dc15 pm15 cd15 ct15 : Value}
    {a16 : Addr} {od16 an16 : Option Addr} {sl16 : Array (Option Value)} {oc16 kV16 dc16 pm16 cd16 ct16 : Value}
    {u0 : Tok}
    {u1 : Tok}
    {u2 : Tok}
    {u3 : Tok}
    (a0' : PySem.W.nsIn K mainGlobals "_law_urn" = some (some (.ref a0))) (l0' : K.lookup a0 = some ⟨oc0, od0, .func (PySem.W.fnOf "_law_urn" "_law_urn" (defArgs t0) (defBody t0) (defScope t0) .none kV0 dc0 pm0 an0 cd0 ct0), sl0⟩) (c0' : PySem.W.codeIn K cd0 "_law_urn" = true) (k0' : PySem.W.keepIn K (.ref a0) = true)
    (a1' : PySem.W.nsIn K mainGlobals "_law_take" = some (some (.ref a1))) (l1' : K.lookup a1 = some ⟨oc1, od1, .func (PySem.W.fnOf "_law_take" "_law_take" (defArgs t1) (defBody t1) (defScope t1) .none kV1 dc1 pm1 an1 cd1 ct1), sl1⟩) (c1' : PySem.W.codeIn K cd1 "_law_take" = true) (k1' : PySem.W.keepIn K (.ref a1) = true)
    (a2' : PySem.W.nsIn K mainGlobals "_law_one" = some (some (.ref a2))) (l2' : K.lookup a2 = some ⟨oc2, od2, .func (PySem.W.fnOf "_law_one" "_law_one" (defArgs t2) (defBody t2) (defScope t2) .none kV2 dc2 pm2 an2 cd2 ct2), sl2⟩) (c2' : PySem.W.codeIn K cd2 "_law_one" = true) (k2' : PySem.W.keepIn K (.ref a2) = true)
    (a3' : PySem.W.nsIn K mainGlobals "_law_some" = some (some (.ref a3))) (l3' : K.lookup a3 = some ⟨oc3, od3, .func (PySem.W.fnOf "_law_some" "_law_some" (defArgs t3) (defBody t3) (defScope t3) .none kV3 dc3 pm3 an3 cd3 ct3), sl3⟩) (c3' : PySem.W.codeIn K cd3 "_law_some" = true) (k3' : PySem.W.keepIn K (.ref a3) = true)
    (a4' : PySem.W.nsIn K mainGlobals "_law_name" = some (some (.ref a4))) (l4' : K.lookup a4 = some ⟨oc4, od4, .func (PySem.W.fnOf "_law_name" "_law_name" (defArgs t4) (defBody t4) (defScope t4) .none kV4 dc4 pm4 an4 cd4 ct4), sl4⟩) (c4' : PySem.W.codeIn K cd4 "_law_name" = true) (k4' : PySem.W.keepIn K (.ref a4) = true)
    (a5' : PySem.W.nsIn K mainGlobals "_law_names" = some (some (.ref a5))) (l5' : K.lookup a5 = some ⟨oc5, od5, .func (PySem.W.fnOf "_law_names" "_law_names" (defArgs t5) (defBody t5) (defScope t5) .none kV5 dc5 pm5 an5 cd5 ct5), sl5⟩) (c5' : PySem.W.codeIn K cd5 "_law_names" = true) (k5' : PySem.W.keepIn K (.ref a5) = true)
    (a6' : PySem.W.nsIn K mainGlobals "is_integer" = some (some (.ref a6))) (l6' : K.lookup a6 = some ⟨oc6, od6, .func (PySem.W.fnOf "is_integer" "is_integer" (defArgs t6) (defBody t6) (defScope t6) .none kV6 dc6 pm6 an6 cd6 ct6), sl6⟩) (c6' : PySem.W.codeIn K cd6 "is_integer" = true) (k6' : PySem.W.keepIn K (.ref a6) = true)
    (a7' : PySem.W.nsIn K mainGlobals "is_below" = some (some (.ref a7))) (l7' : K.lookup a7 = some ⟨oc7, od7, .func (PySem.W.fnOf "is_below" "is_below" (defArgs t7) (defBody t7) (defScope t7) .none kV7 dc7 pm7 an7 cd7 ct7), sl7⟩) (c7' : PySem.W.codeIn K cd7 "is_below" = true) (k7' : PySem.W.keepIn K (.ref a7) = true)
    (a8' : PySem.W.nsIn K mainGlobals "is_name" = some (some (.ref a8))) (l8' : K.lookup a8 = some ⟨oc8, od8, .func (PySem.W.fnOf "is_name" "is_name" (defArgs t8) (defBody t8) (defScope t8) .none kV8 dc8 pm8 an8 cd8 ct8), sl8⟩) (c8' : PySem.W.codeIn K cd8 "is_name" = true) (k8' : PySem.W.keepIn K (.ref a8) = true)
    (a9' : PySem.W.nsIn K mainGlobals "is_line" = some (some (.ref a9))) (l9' : K.lookup a9 = some ⟨oc9, od9, .func (PySem.W.fnOf "is_line" "is_line" (defArgs t9) (defBody t9) (defScope t9) .none kV9 dc9 pm9 an9 cd9 ct9), sl9⟩) (c9' : PySem.W.codeIn K cd9 "is_line" = true) (k9' : PySem.W.keepIn K (.ref a9) = true)
    (a10' : PySem.W.nsIn K mainGlobals "_law_is_name" = some (some (.ref a10))) (l10' : K.lookup a10 = some ⟨oc10, od10, .func (PySem.W.fnOf "_law_is_name" "_law_is_name" (defArgs t10) (defBody t10) (defScope t10) .none kV10 dc10 pm10 an10 cd10 ct10), sl10⟩) (c10' : PySem.W.codeIn K cd10 "_law_is_name" = true) (k10' : PySem.W.keepIn K (.ref a10) = true)
    (a11' : PySem.W.nsIn K mainGlobals "_law_is_line" = some (some (.ref a11))) (l11' : K.lookup a11 = some ⟨oc11, od11, .func (PySem.W.fnOf "_law_is_line" "_law_is_line" (defArgs t11) (defBody t11) (defScope t11) .none kV11 dc11 pm11 an11 cd11 ct11), sl11⟩) (c11' : PySem.W.codeIn K cd11 "_law_is_line" = true) (k11' : PySem.W.keepIn K (.ref a11) = true)
    (a12' : PySem.W.nsIn K mainGlobals "_law_text" = some (some (.ref a12))) (l12' : K.lookup a12 = some ⟨oc12, od12, .func (PySem.W.fnOf "_law_text" "_law_text" (defArgs t12) (defBody t12) (defScope t12) .none kV12 dc12 pm12 an12 cd12 ct12), sl12⟩) (c12' : PySem.W.codeIn K cd12 "_law_text" = true) (k12' : PySem.W.keepIn K (.ref a12) = true)
    (a13' : PySem.W.nsIn K mainGlobals "_law_line" = some (some (.ref a13))) (l13' : K.lookup a13 = some ⟨oc13, od13, .func (PySem.W.fnOf "_law_line" "_law_line" (defArgs t13) (defBody t13) (defScope t13) .none kV13 dc13 pm13 an13 cd13 ct13), sl13⟩) (c13' : PySem.W.codeIn K cd13 "_law_line" = true) (k13' : PySem.W.keepIn K (.ref a13) = true)
    (a14' : PySem.W.nsIn K mainGlobals "_law_near" = some (some (.ref a14))) (l14' : K.lookup a14 = some ⟨oc14, od14, .func (PySem.W.fnOf "_law_near" "_law_near" (defArgs t14) (defBody t14) (defScope t14) .none kV14 dc14 pm14 an14 cd14 ct14), sl14⟩) (c14' : PySem.W.codeIn K cd14 "_law_near" = true) (k14' : PySem.W.keepIn K (.ref a14) = true)
    (a15' : PySem.W.nsIn K mainGlobals "_law_right" = some (some (.ref a15))) (l15' : K.lookup a15 = some ⟨oc15, od15, .func (PySem.W.fnOf "_law_right" "_law_right" (defArgs t15) (defBody t15) (defScope t15) .none kV15 dc15 pm15 an15 cd15 ct15), sl15⟩) (c15' : PySem.W.codeIn K cd15 "_law_right" = true) (k15' : PySem.W.keepIn K (.ref a15) = true)
    (a16' : PySem.W.nsIn K mainGlobals "law" = some (some (.ref a16))) (l16' : K.lookup a16 = some ⟨oc16, od16, .func (PySem.W.fnOf "law" "law" (defArgs t16) (defBody t16) (defScope t16) .none kV16 dc16 pm16 an16 cd16 ct16), sl16⟩) (c16' : PySem.W.codeIn K cd16 "law" = true) (k16' : PySem.W.keepIn K (.ref a16) = true)
    (g0' : PySem.W.nsIn K mainGlobals "TOP" = some (some (.int 10000000000000000000000000000000000000000 u0)))
    (g1' : PySem.W.nsIn K mainGlobals "MAX_LETTERS" = some (some (.int 8 u1)))
    (g2' : PySem.W.nsIn K mainGlobals "LETTERS" = some (some (.str (Str.ofString "abcdefghijklmnopqrstuvwxyz") u2)))
    (g3' : PySem.W.nsIn K mainGlobals "MAX_SIZE" = some (some (.int 4 u3)))
    (z0' : PySem.W.nsIn K mainGlobals "len" = some none)
    (z1' : PySem.W.nsIn K mainGlobals "int" = some none)
    (z2' : PySem.W.nsIn K mainGlobals "abs" = some none)
    (z3' : PySem.W.nsIn K mainGlobals "max" = some none)
    (z4' : PySem.W.nsIn K mainGlobals "min" = some none)
    (z5' : PySem.W.nsIn K mainGlobals "all" = some none)
    (z6' : PySem.W.nsIn K mainGlobals "any" = some none)
    (z7' : PySem.W.nsIn K mainGlobals "sorted" = some none)
    (z8' : PySem.W.nsIn K mainGlobals "list" = some none)
    (z9' : PySem.W.nsIn K mainGlobals "tuple" = some none)
    (z10' : PySem.W.nsIn K mainGlobals "str" = some none)
    (z11' : PySem.W.nsIn K mainGlobals "repr" = some none)
    (z12' : PySem.W.nsIn K mainGlobals "bool" = some none)
    (z13' : PySem.W.nsIn K mainGlobals "sum" = some none)
    (z14' : PySem.W.nsIn K mainGlobals "set" = some none)
    (z15' : PySem.W.nsIn K mainGlobals "dict" = some none)
    (z16' : PySem.W.nsIn K mainGlobals "range" = some none)
    (z17' : PySem.W.nsIn K mainGlobals "zip" = some none)
    (z18' : PySem.W.nsIn K mainGlobals "enumerate" = some none)
    (z19' : PySem.W.nsIn K mainGlobals "isinstance" = some none)
    {cl : Nat → Option Addr} : Fits tb ⟨K, cl⟩ mg := by
  refine ⟨fun f e hf => ?_, fun g x d hg => ?_, fun x hx => ?_⟩
  · match f, hf with
    | 0, hf =>
      cases hf
      have F := fun_mk (K := K) (st := t0) l0' c0' k0'
      exact ⟨_, _, t0, PySem.W.mg_of X G a0', F, F.binds (ps := f0.ps) (fun _ _ _ _ _ _ us hl => match us, hl with | [_, _], _ => rfl), sc0, ch0⟩
    | 1, hf =>
      cases hf
      have F := fun_mk (K := K) (st := t1) l1' c1' k1'
      exact ⟨_, _, t1, PySem.W.mg_of X G a1', F, F.binds (ps := f1.ps) (fun _ _ _ _ _ _ us hl => match us, hl with | [_, _], _ => rfl), sc1, ch1⟩
    | 2, hf =>
      cases hf
      have F := fun_mk (K := K) (st := t2) l2' c2' k2'
      exact ⟨_, _, t2, PySem.W.mg_of X G a2', F, F.binds (ps := f2.ps) (fun _ _ _ _ _ _ us hl => match us, hl with | [_, _], _ => rfl), sc2, ch2⟩
    | 3, hf =>
      cases hf
      have F := fun_mk (K := K) (st := t3) l3' c3' k3'
      exact ⟨_, _, t3, PySem.W.mg_of X G a3', F, F.binds (ps := f3.ps) (fun _ _ _ _ _ _ us hl => match us, hl with | [_, _, _], _ => rfl), sc3, ch3⟩
    | 4, hf =>
      cases hf
      have F := fun_mk (K := K) (st := t4) l4' c4' k4'
      exact ⟨_, _, t4, PySem.W.mg_of X G a4', F, F.binds (ps := f4.ps) (fun _ _ _ _ _ _ us hl => match us, hl with | [_], _ => rfl), sc4, ch4⟩
    | 5, hf =>
      cases hf
      have F := fun_mk (K := K) (st := t5) l5' c5' k5'
      exact ⟨_, _, t5, PySem.W.mg_of X G a5', F, F.binds (ps := f5.ps) (fun _ _ _ _ _ _ us hl => match us, hl with | [_, _], _ => rfl), sc5, ch5⟩
    | 6, hf =>
      cases hf
      have F := fun_mk (K := K) (st := t6) l6' c6' k6'
      exact ⟨_, _, t6, PySem.W.mg_of X G a6', F, F.binds (ps := f6.ps) (fun _ _ _ _ _ _ us hl => match us, hl with | [_], _ => rfl), sc6, ch6⟩
    | 7, hf =>
      cases hf
      have F := fun_mk (K := K) (st := t7) l7' c7' k7'
      exact ⟨_, _, t7, PySem.W.mg_of X G a7', F, F.binds (ps := f7.ps) (fun _ _ _ _ _ _ us hl => match us, hl with | [_, _], _ => rfl), sc7, ch7⟩
    | 8, hf =>
      cases hf
      have F := fun_mk (K := K) (st := t8) l8' c8' k8'
      exact ⟨_, _, t8, PySem.W.mg_of X G a8', F, F.binds (ps := f8.ps) (fun _ _ _ _ _ _ us hl => match us, hl with | [_], _ => rfl), sc8, ch8⟩
    | 9, hf =>
      cases hf
      have F := fun_mk (K := K) (st := t9) l9' c9' k9'
      exact ⟨_, _, t9, PySem.W.mg_of X G a9', F, F.binds (ps := f9.ps) (fun _ _ _ _ _ _ us hl => match us, hl with | [_], _ => rfl), sc9, ch9⟩
    | 10, hf =>
      cases hf
      have F := fun_mk (K := K) (st := t10) l10' c10' k10'
      exact ⟨_, _, t10, PySem.W.mg_of X G a10', F, F.binds (ps := f10.ps) (fun _ _ _ _ _ _ us hl => match us, hl with | [_], _ => rfl), sc10, ch10⟩
    | 11, hf =>
      cases hf
      have F := fun_mk (K := K) (st := t11) l11' c11' k11'
      exact ⟨_, _, t11, PySem.W.mg_of X G a11', F, F.binds (ps := f11.ps) (fun _ _ _ _ _ _ us hl => match us, hl with | [_], _ => rfl), sc11, ch11⟩
    | 12, hf =>
      cases hf
      have F := fun_mk (K := K) (st := t12) l12' c12' k12'
      exact ⟨_, _, t12, PySem.W.mg_of X G a12', F, F.binds (ps := f12.ps) (fun _ _ _ _ _ _ us hl => match us, hl with | [_], _ => rfl), sc12, ch12⟩
    | 13, hf =>
      cases hf
      have F := fun_mk (K := K) (st := t13) l13' c13' k13'
      exact ⟨_, _, t13, PySem.W.mg_of X G a13', F, F.binds (ps := f13.ps) (fun _ _ _ _ _ _ us hl => match us, hl with | [_], _ => rfl), sc13, ch13⟩
    | 14, hf =>
      cases hf
      have F := fun_mk (K := K) (st := t14) l14' c14' k14'
      exact ⟨_, _, t14, PySem.W.mg_of X G a14', F, F.binds (ps := f14.ps) (fun _ _ _ _ _ _ us hl => match us, hl with | [_, _], _ => rfl), sc14, ch14⟩
    | 15, hf =>
      cases hf
      have F := fun_mk (K := K) (st := t15) l15' c15' k15'
      exact ⟨_, _, t15, PySem.W.mg_of X G a15', F, F.binds (ps := f15.ps) (fun _ _ _ _ _ _ us hl => match us, hl with | [_], _ => rfl), sc15, ch15⟩
    | 16, hf =>
      cases hf
      have F := fun_mk (K := K) (st := t16) l16' c16' k16'
      exact ⟨_, _, t16, PySem.W.mg_of X G a16', F, F.binds (ps := f16.ps) (fun _ _ _ _ _ _ us hl => match us, hl with | [_], _ => rfl), sc16, ch16⟩
    | n + 17, hf => cases hf
  · match g, hg with
    | 0, hg =>
      cases hg
      exact ⟨_, .int _, PySem.W.mg_of X G g0', ⟨_, rfl⟩, .int _⟩
    | 1, hg =>
      cases hg
      exact ⟨_, .int _, PySem.W.mg_of X G g1', ⟨_, rfl⟩, .int _⟩
    | 2, hg =>
      cases hg
      exact ⟨_, .str _, PySem.W.mg_of X G g2', ⟨_, rfl⟩, .str _⟩
    | 3, hg =>
      cases hg
      exact ⟨_, .int _, PySem.W.mg_of X G g3', ⟨_, rfl⟩, .int _⟩
    | n + 4, hg => cases hg
  · simp only [bnames, List.mem_cons, List.not_mem_nil, or_false] at hx
    rcases hx with rfl | rfl | rfl | rfl | rfl | rfl | rfl | rfl | rfl | rfl | rfl | rfl | rfl | rfl | rfl | rfl | rfl | rfl | rfl | rfl
    · exact PySem.W.mg_none_of X G z0'
    · exact PySem.W.mg_none_of X G z1'
    · exact PySem.W.mg_none_of X G z2'
    · exact PySem.W.mg_none_of X G z3'
    · exact PySem.W.mg_none_of X G z4'
    · exact PySem.W.mg_none_of X G z5'
    · exact PySem.W.mg_none_of X G z6'
    · exact PySem.W.mg_none_of X G z7'
    · exact PySem.W.mg_none_of X G z8'
    · exact PySem.W.mg_none_of X G z9'
    · exact PySem.W.mg_none_of X G z10'
    · exact PySem.W.mg_none_of X G z11'
    · exact PySem.W.mg_none_of X G z12'
    · exact PySem.W.mg_none_of X G z13'
    · exact PySem.W.mg_none_of X G z14'
    · exact PySem.W.mg_none_of X G z15'
    · exact PySem.W.mg_none_of X G z16'
    · exact PySem.W.mg_none_of X G z17'
    · exact PySem.W.mg_none_of X G z18'
    · exact PySem.W.mg_none_of X G z19'
end L2.Dv.K01
namespace L2.Dv.K01
open PySem PySem.Spec PyProof.Rows
/-! ### signs and texts -/
theorem in_abc (c : Nat) : inS ⟨#[c]⟩ abc = low c := by
  have h := StrLaws.found_one abc c
  unfold inS
  rw [h, abc_list]
  by_cases hc : c < 123
  · have : ∀ c < 123, decide (c ∈ [97, 98, 99, 100, 101, 102, 103, 104, 105, 106, 107, 108, 109, 110, 111, 112, 113, 114, 115, 116, 117, 118, 119, 120, 121, 122]) = low c := by decide
    exact this c hc
  · have e1 : low c = false := by
      unfold low
      simp
      omega
    rw [e1]
    simp
    omega
theorem lt_a (c : Nat) : cmpD M .Lt (.str ⟨#[c]⟩) (.str (Str.ofString "a")) = some (decide (c < 97)) := by
  have e : (Str.ofString "a").cps.toList = [97] := by decide
  simp only [cmpD, e]
  congr 1
  simp [List.cons_lt_cons_iff]
theorem gt_z (c : Nat) : cmpD M .Gt (.str ⟨#[c]⟩) (.str (Str.ofString "z")) = some (decide (122 < c)) := by
  have e : (Str.ofString "z").cps.toList = [122] := by decide
  simp only [cmpD, e]
  congr 1
  simp [List.cons_lt_cons_iff]
/-- a good text: short, of signs that may lie -/
def okS (x : Str) : Prop := x.length ≤ 100 ∧ PyData.strOk x = true
theorem okS.len {x : Str} (h : okS x) : x.length ≤ sizeLine := Nat.le_trans h.1 (by decide)
theorem okS.lt {x : Str} (h : okS x) : ∀ c ∈ x.cps.toList, c < 1114112 := by
  have := h.2
  unfold PyData.strOk at this
  rw [Array.all_eq_true'] at this
  intro c hc
  have := this c (by simpa using hc)
  simpa using this
/-- the law's own word for a name -/
def nm : Dv.D → Bool
  | .str x => decide (1 ≤ x.length) && decide (x.length ≤ 8) && x.cps.toList.all low
  | _ => false
/-- flat or short: what may lie in a tuple -/
def leaf : Dv.D → Prop
  | .non => True
  | .bl _ => True
  | .int i => -(10 ^ 31) ≤ i ∧ i ≤ 10 ^ 31
  | .str x => okS x
  | .tup xs => xs = [] ∨ xs = [.int 1]
  | .lst xs => xs = []
  | .dic ks vs => ks = [] ∧ vs = []
  | _ => False
abbrev G6 : IsFn tb 6 1 1 true b6 := ⟨⟨f6, rfl, rfl, rfl, rfl, rfl⟩⟩
abbrev G7 : IsFn tb 7 2 2 true b7 := ⟨⟨f7, rfl, rfl, rfl, rfl, rfl⟩⟩
abbrev G8 : IsFn tb 8 1 2 true b8 := ⟨⟨f8, rfl, rfl, rfl, rfl, rfl⟩⟩
abbrev G9 : IsFn tb 9 1 4 true b9 := ⟨⟨f9, rfl, rfl, rfl, rfl, rfl⟩⟩
abbrev G10 : IsFn tb 10 1 2 true b10 := ⟨⟨f10, rfl, rfl, rfl, rfl, rfl⟩⟩
abbrev G11 : IsFn tb 11 1 2 true b11 := ⟨⟨f11, rfl, rfl, rfl, rfl, rfl⟩⟩
section
variable {k : Nat} {M : Mem}
theorem len_str {x : Str} (h : okS x) : bltD .len [.str x] M = .ok (.int x.length) M := by
  simp [bltD, lenD, h.len]
theorem is_name_ok {d : Dv.D} (hd : (∃ x, d = .str x ∧ okS x) ∨ ((∀ x, d ≠ .str x) ∧ isiD d (.bt "str") = some false)) : Phi tb (k + 1) 8 [d] M = .ok (.bl (nm d)) M := by
  rw [phi_run G8 rfl]
  rcases hd with ⟨x, rfl, hx⟩ | ⟨hx, h2⟩
  · have g1 : tb.gl 1 = some (Str.ofString "MAX_LETTERS", .int 8) := rfl
    have g2 : tb.gl 2 = some (Str.ofString "LETTERS", .str abc) := rfl
    have hlen : x.cps.toList.length ≤ 100 := hx.1
    have hs : x.cps.toList.length ≤ sizeLine := Nat.le_trans hx.1 (by decide)
    have loop : ∀ d ∈ x.cps.toList.map fun c => Dv.D.str ⟨#[c]⟩, lcF (Phi tb k) tb (.cmp (.var 1) .In (.glo 2)) (.nm 1) [] [1] [some (.str x), none] d M = .ok (match d with | .str y => some (.bl (inS y abc)) | _ => none) M := fun d hd => by
      obtain ⟨c, _, rfl⟩ := List.mem_map.mp hd
      simp [lcF, wipeD, g2, cmpD]
    have el : (x.cps.toList.map fun c => Dv.D.str ⟨#[c]⟩).filterMap (fun d => match d with | .str y => some (.bl (inS y abc)) | _ => none) = (x.cps.toList.map low).map D.bl := by
      rw [List.filterMap_map, List.map_map]
      induction x.cps.toList with
      | nil => rfl
      | cons c r ih => simp only [List.filterMap_cons, Function.comp_apply, in_abc, List.map_cons]; exact congrArg _ ih
    have eb : ∀ l : List Bool, blsOf (l.map D.bl) = some l := fun l => by
      induction l with
      | nil => rfl
      | cons c r ih => simp [blsOf, ih]
    by_cases hl : 0 < x.length
    · by_cases hl2 : x.length ≤ 8
      · have q3 : ¬ (8 : Int) < (x.length : Int) := by omega
        simp [b8, len_str hx, g1, hl, q3, truD, itD]
        rw [foldC_pure loop (by simpa using hs), el]
        have h5 : ([] ++ (x.cps.toList.map low).map D.bl).length ≤ sizeLine := by
          simpa using hs
        simp only [mkL, R.bnd_ok]
        rw [if_pos h5]
        simp [bltD, lstD, nm, Nat.succ_le_of_lt hl, hl2]
        rw [← List.map_map, eb]
        simp
      · have q3 : (8 : Int) < (x.length : Int) := by omega
        simp [b8, len_str hx, g1, hl, q3, nm, hl2]
    · have h0 : x.length = 0 := by omega
      simp [b8, len_str hx, g1, h0, nm]
  · have e : nm d = false := by cases d <;> first | rfl | exact absurd rfl (hx _)
    simp [b8, h2, e]

theorem toPys_strs : ∀ l : List Nat, D.toPys (l.map fun c => Dv.D.str ⟨#[c]⟩) = some (l.map fun c => PyData.str ⟨#[c]⟩)
  | [] => rfl
  | c :: r => by
    show (match D.toPy (.str ⟨#[c]⟩), D.toPys (r.map fun c => Dv.D.str ⟨#[c]⟩) with | some a, some b => some (a :: b) | _, _ => none) = _
    rw [toPys_strs r]
    rfl
theorem canLay_strs : ∀ l : List Nat, (∀ c ∈ l, c < 1114112) → PyData.canLayAll0 (l.map fun c => PyData.str ⟨#[c]⟩) = true
  | [], _ => by simp [PyData.canLayAll0]
  | c :: r, h => by
    have h1 := h c (List.mem_cons_self ..)
    simp only [List.map_cons, PyData.canLayAll0, Bool.and_eq_true]
    exact ⟨by simp [PyData.canLay0, PyData.strOk, h1], canLay_strs r fun d hd => h d (List.mem_cons_of_mem _ hd)⟩
theorem eq_empty {l : List Nat} (h : ∀ c ∈ l, c < 1114112) : eqD M (.lst (l.map fun c => Dv.D.str ⟨#[c]⟩)) (.lst []) = some l.isEmpty := by
  have e1 : toPyM M (.lst (l.map fun c => Dv.D.str ⟨#[c]⟩)) = some (.list (l.map fun c => PyData.str ⟨#[c]⟩)) := by
    show (D.toPys (l.map fun c => Dv.D.str ⟨#[c]⟩)).map PyData.list = _
    rw [toPys_strs]
    rfl
  have e2 : toPyM M (.lst []) = some (.list []) := rfl
  have e3 : (PyData.list (l.map fun c => PyData.str ⟨#[c]⟩)).canLay0 = true := by
    simp only [PyData.canLay0]
    exact canLay_strs l h
  have e4 : (PyData.list []).canLay0 = true := by simp [PyData.canLay0, PyData.canLayAll0]
  have e5 : (PyData.list []).depth ≤ 64 := by simp [PyData.depth, PyData.depthAll]
  have e6 : PyData.eqv (.list (l.map fun c => PyData.str ⟨#[c]⟩)) (.list []) = l.isEmpty := by
    cases l <;> simp [PyData.eqv, PyData.eqvAll]
  have e7 : decide (min (PyData.list (l.map fun c => PyData.str ⟨#[c]⟩)).depth (PyData.list []).depth ≤ 64) = true := decide_eq_true (Nat.le_trans (Nat.min_le_right _ _) e5)
  simp only [eqD, e1, e2, e3, e4, e6, e7, Bool.and_self, if_true]
theorem law_is_name_ok {d : Dv.D} (hd : (∃ x, d = .str x ∧ okS x) ∨ ((∀ x, d ≠ .str x) ∧ isiD d (.bt "str") = some false)) : Phi tb (k + 1) 10 [d] M = .ok (.bl (nm d)) M := by
  rw [phi_run G10 rfl]
  rcases hd with ⟨x, rfl, hx⟩ | ⟨hx, h2⟩
  · have hlen : x.cps.toList.length ≤ 100 := hx.1
    have hs : x.cps.toList.length ≤ sizeLine := Nat.le_trans hx.1 (by decide)
    have loop : ∀ d ∈ x.cps.toList.map fun c => Dv.D.str ⟨#[c]⟩, lcF (Phi tb k) tb (.var 1) (.nm 1) [.boo false [.cmp (.var 1) .Lt (.cst (.str (Str.ofString "a"))), .cmp (.var 1) .Gt (.cst (.str (Str.ofString "z")))]] [1] [some (.str x), none] d M =
        .ok (match d with | .str y => if y.cps.toList.all low then none else some (.str y) | _ => none) M := fun d hd => by
      obtain ⟨c, _, rfl⟩ := List.mem_map.mp hd
      have e : low c = (!decide (c < 97) && !decide (122 < c)) := by
        unfold low
        rw [Bool.eq_iff_iff]
        simp
      by_cases h1 : c < 97
      · simp [lcF, wipeD, lt_a, gt_z, e, h1]
      · by_cases h2 : 122 < c
        · simp [lcF, wipeD, lt_a, gt_z, e, h1, h2]
        · simp [lcF, wipeD, lt_a, gt_z, e, h1, h2]
    have el : ∀ l : List Nat, (l.map fun c => Dv.D.str ⟨#[c]⟩).filterMap (fun d => match d with | .str y => if y.cps.toList.all low then none else some (.str y) | _ => none) = (l.filter fun c => !low c).map fun c => Dv.D.str ⟨#[c]⟩ := fun l => by
      rw [List.filterMap_map]
      have ef : ((fun d : Dv.D => match d with | .str y => if y.cps.toList.all low then none else some (.str y) | _ => none) ∘ fun c : Nat => Dv.D.str ⟨#[c]⟩) = fun c => if low c then none else some (Dv.D.str ⟨#[c]⟩) := by
        funext c
        simp
      rw [ef]
      induction l with
      | nil => rfl
      | cons c r ih =>
        cases e : low c with
        | true => simp [e, ih]
        | false => simp [e, ih]
    have hall : ∀ l : List Nat, (l.filter fun c => !low c).isEmpty = l.all low := fun l => by
      rw [Bool.eq_iff_iff]
      simp [List.filter_eq_nil_iff]
    by_cases hl : 1 ≤ x.length
    · have q1 : ¬ (x.length : Int) < 1 := by omega
      by_cases hl2 : x.length ≤ 8
      · have q3 : ¬ (8 : Int) < (x.length : Int) := by omega
        simp [b10, len_str hx, q1, q3, itD]
        rw [foldC_pure loop (by simpa using hs), el]
        have h5 : ([] ++ (x.cps.toList.filter fun c => !low c).map fun c => Dv.D.str ⟨#[c]⟩).length ≤ sizeLine := by
          rw [List.nil_append, List.length_map]
          exact Nat.le_trans (List.length_filter_le _ _) hs
        rw [R.bnd_ok, mkL_true h5]
        simp only [R.bnd_ok, List.nil_append, mkL_nil, cmpD]
        rw [eq_empty (fun c hc => hx.lt c (List.mem_filter.mp hc).1), hall]
        simp [nm, hl, hl2]
      · have q3 : (8 : Int) < (x.length : Int) := by omega
        simp [b10, len_str hx, q1, q3, nm, hl2]
    · have q1 : (x.length : Int) < 1 := by omega
      simp [b10, len_str hx, q1, nm, hl]
  · have e : nm d = false := by cases d <;> first | rfl | exact absurd rfl (hx _)
    simp [b10, h2, e]
/-! ### whole numbers -/
def below : Dv.D → Bool
  | .int i => decide (0 ≤ i) && decide (i < 4)
  | _ => false
theorem leaf_int {d : Dv.D} (h : leaf d) : (∃ i, d = .int i) ∨ (∃ b, d = .bl b) ∨ ((∀ i, d ≠ .int i) ∧ isiD d (.bt "int") = some false) := by
  cases d with
  | int i => exact .inl ⟨i, rfl⟩
  | bl b => exact .inr (.inl ⟨b, rfl⟩)
  | non => exact .inr (.inr ⟨(fun i z => by cases z), isi_non_int⟩)
  | str x => exact .inr (.inr ⟨(fun i z => by cases z), isi_str_int⟩)
  | tup x => exact .inr (.inr ⟨(fun i z => by cases z), isi_tup_int⟩)
  | lst x => exact .inr (.inr ⟨(fun i z => by cases z), isi_lst_int⟩)
  | dic x y => exact .inr (.inr ⟨(fun i z => by cases z), isi_dic_int⟩)
  | _ => exact h.elim
theorem is_below_ok {d : Dv.D} (h : leaf d) : Phi tb (k + 2) 7 [d, .int 4] M = .ok (.bl (below d)) M := by
  have g0 : tb.gl 0 = some (Str.ofString "TOP", .int 10000000000000000000000000000000000000000) := rfl
  rw [phi_run G7 rfl]
  rcases leaf_int h with ⟨i, rfl⟩ | ⟨b, rfl⟩ | ⟨h1, h2⟩
  · have hi : -(10 ^ 31) ≤ i ∧ i ≤ 10 ^ 31 := h
    have e6 : Phi tb (k + 1) 6 [.int i] M = .ok (.bl true) M := by
      rw [phi_run G6 rfl]
      have q1 : (-10000000000000000000000000000000000000000 : Int) < i := by omega
      have q2 : i < (10000000000000000000000000000000000000000 : Int) := by omega
      simp [b6, g0, q1, q2]
    by_cases h0 : 0 ≤ i
    · simp [b7, e6, h0, below]
    · simp [b7, e6, h0, below]
  · have e6 : Phi tb (k + 1) 6 [.bl b] M = .ok (.bl false) M := by
      rw [phi_run G6 rfl]
      simp [b6]
    simp [b7, e6, below]
  · have e6 : Phi tb (k + 1) 6 [d] M = .ok (.bl false) M := by
      rw [phi_run G6 rfl]
      simp [b6, h2]
    have e : below d = false := by cases d <;> first | rfl | exact absurd rfl (h1 _)
    simp [b7, e6, e]
end
end L2.Dv.K01
namespace L2.Dv.K01
open PySem PySem.Spec PyProof.Rows
@[simp] theorem xm_cons {Φ : Calls} {G : Tb} {p : Pt} {ps : List Pt} {b : List Dv.S} {bs : List (List Dv.S)} {d : Dv.D} {ρ : Env'} {M : Mem} : xm Φ G (p :: ps) (b :: bs) d ρ M = (match Pt.go M p d with
    | some (some l) => xs Φ G b (sets ρ l) M
    | some none => xm Φ G ps bs d ρ M
    | none => .bad) := rfl
@[simp] theorem xm_nil {Φ : Calls} {G : Tb} {d : Dv.D} {ρ : Env'} {M : Mem} : xm Φ G [] [] d ρ M = .nx ρ M := rfl
section
variable {M : Mem}
@[simp] theorem go_cap {i : Nat} {d : Dv.D} : Pt.go M (.cap i) d = some (some [(i, d)]) := rfl
@[simp] theorem go_wild {d : Dv.D} : Pt.go M .wild d = some (some []) := rfl
@[simp] theorem go_str {x : Str} {d : Dv.D} : Pt.go M (.val (.str x)) d = (match eqD M d (.str x) with | some true => some (some []) | some false => some none | none => none) := rfl
@[simp] theorem go_alt {ps : List Pt} {d : Dv.D} : Pt.go M (.alt ps) d = Pt.alts M ps d := rfl
@[simp] theorem go_seq {ps : List Pt} {xs : List Dv.D} : Pt.go M (.seq ps) (.tup xs) = (if xs.length = ps.length then Pt.gos M ps xs else some none) := rfl
@[simp] theorem alts_nil {d : Dv.D} : Pt.alts M [] d = some none := rfl
@[simp] theorem alts_cons {p : Pt} {ps : List Pt} {d : Dv.D} : Pt.alts M (p :: ps) d = (match Pt.go M p d with | some (some l) => some (some l) | some none => Pt.alts M ps d | none => none) := rfl
@[simp] theorem gos_nil : Pt.gos M [] [] = some (some []) := rfl
@[simp] theorem gos_cons {p : Pt} {ps : List Pt} {x : Dv.D} {xs : List Dv.D} : Pt.gos M (p :: ps) (x :: xs) = (match Pt.go M p x with
    | some (some l) => match Pt.gos M ps xs with
      | some (some r) => some (some (l ++ r))
      | other => other
    | other => other) := rfl
end
def isS (a : Dv.D) (y : Str) : Bool := match a with
  | .str x => decide (x = y)
  | _ => false
theorem eq_lit {M : Mem} {a : Dv.D} {y : Str} (h : leaf a) (hy : PyData.strOk y = true) : eqD M a (.str y) = some (isS a y) := by
  have c : (PyData.str y).canLay0 = true := by simpa [PyData.canLay0] using hy
  have d0 : (PyData.str y).depth = 0 := by simp [PyData.depth]
  have key : ∀ (a : Dv.D) (p : PyData), (∀ x, a ≠ .str x) → toPyM M a = some p → p.canLay0 = true → PyData.eqv p (.str y) = false → eqD M a (.str y) = some false := fun a p h1 h2 h3 h4 => by
    have e : toPyM M (.str y) = some (.str y) := rfl
    have e5 : decide (min p.depth (PyData.str y).depth ≤ 64) = true := by rw [d0]; simp
    cases a <;> first
      | exact absurd rfl (h1 _)
      | (simp only [eqD, h2, e, h3, c, e5, Bool.and_self, if_true, h4])
  cases a with
  | str x => rfl
  | non => exact key _ .none (fun x z => by cases z) rfl (by simp [PyData.canLay0]) (by simp [PyData.eqv])
  | bl b => exact key _ (.bool b) (fun x z => by cases z) rfl (by simp [PyData.canLay0]) (by simp [PyData.eqv])
  | int i => exact key _ (.int i) (fun x z => by cases z) rfl (by simp [PyData.canLay0]) (by simp [PyData.eqv])
  | tup xs =>
    rcases (show xs = [] ∨ xs = [.int 1] from h) with rfl | rfl
    · exact key _ (.tuple []) (fun x z => by cases z) rfl (by simp [PyData.canLay0, PyData.canLayAll0]) (by simp [PyData.eqv])
    · exact key _ (.tuple [.int 1]) (fun x z => by cases z) rfl (by simp [PyData.canLay0, PyData.canLayAll0]) (by simp [PyData.eqv])
  | lst xs =>
    cases (show xs = [] from h)
    exact key _ (.list []) (fun x z => by cases z) rfl (by simp [PyData.canLay0, PyData.canLayAll0]) (by simp [PyData.eqv])
  | dic ks vs =>
    obtain ⟨rfl, rfl⟩ := (show ks = [] ∧ vs = [] from h)
    have e1 : toPyM M (.dic [] []) = some (.dict []) := rfl
    have e2 : toPyM M (.str y) = some (.str y) := rfl
    have e3 : (PyData.dict []).canLay0 = false := by simp [PyData.canLay0]
    simp only [eqD, e1, e2, e3, Bool.false_and, isS]
    rfl
  | _ => exact h.elim
theorem leaf_str {d : Dv.D} (h : leaf d) : (∃ x, d = .str x ∧ okS x) ∨ ((∀ x, d ≠ .str x) ∧ isiD d (.bt "str") = some false) := by
  cases d with
  | str x => exact .inl ⟨x, rfl, h⟩
  | int i => exact .inr ⟨(fun i z => by cases z), isi_int_str⟩
  | bl b => exact .inr ⟨(fun i z => by cases z), isi_bl_str⟩
  | non => exact .inr ⟨(fun i z => by cases z), isi_non_str⟩
  | tup x => exact .inr ⟨(fun i z => by cases z), isi_tup_str⟩
  | lst x => exact .inr ⟨(fun i z => by cases z), isi_lst_str⟩
  | dic x y => exact .inr ⟨(fun i z => by cases z), isi_dic_str⟩
  | _ => exact h.elim
abbrev sEnter : Str := Str.ofString "enter"
abbrev sLeave : Str := Str.ofString "leave"
abbrev sSay : Str := Str.ofString "say"
abbrev sAsk : Str := Str.ofString "ask"
def ln : Dv.D → Bool
  | .tup [a, b] => (isS a sEnter || isS a sLeave || isS a sSay) && nm b
  | .tup [a, b, c] => (isS a sAsk || isS a sSay) && nm b && below c
  | _ => false
/-- what is asked about -/
inductive Val : Dv.D → Prop
  | leaf {d : Dv.D} : leaf d → Val d
  | tup {ds : List Dv.D} : (∀ d ∈ ds, leaf d) → ds.length ≤ 100 → Val (.tup ds)
  | lst {ds : List Dv.D} : (∀ d ∈ ds, leaf d) → ds.length ≤ 100 → Val (.lst ds)
  | one {ds : List Dv.D} : (∀ d ∈ ds, leaf d) → ds.length ≤ 100 → Val (.tup [.tup ds])
section
variable {k : Nat} {M : Mem}
theorem line_no {d : Dv.D} (h : isiD d (.bt "tuple") = some false) : Phi tb (k + 3) 9 [d] M = .ok (.bl false) M := by
  rw [phi_run G9 rfl]
  simp [b9, h]
theorem line_len {ds : List Dv.D} (h2 : ds.length ≠ 2) (h3 : ds.length ≠ 3) : Phi tb (k + 3) 9 [.tup ds] M = .ok (.bl false) M := by
  rw [phi_run G9 rfl]
  simp [b9, h2, h3]
theorem line_two {a b : Dv.D} (ha : leaf a) (hb : leaf b) : Phi tb (k + 3) 9 [.tup [a, b]] M = .ok (.bl (ln (.tup [a, b]))) M := by
  have e1 := eq_lit (M := M) ha (y := sEnter) (by decide +kernel)
  have e2 := eq_lit (M := M) ha (y := sLeave) (by decide +kernel)
  have e3 := eq_lit (M := M) ha (y := sSay) (by decide +kernel)
  have n := is_name_ok (k := k + 1) (M := M) (leaf_str hb)
  rw [phi_run G9 rfl]
  cases h1 : isS a sEnter <;> cases h2 : isS a sLeave <;> cases h3 : isS a sSay <;>
    simp [b9, e1, e2, e3, h1, h2, h3, sets, n, ln]
theorem line_three {a b c : Dv.D} (ha : leaf a) (hb : leaf b) (hc : leaf c) : Phi tb (k + 3) 9 [.tup [a, b, c]] M = .ok (.bl (ln (.tup [a, b, c]))) M := by
  have e1 := eq_lit (M := M) ha (y := sAsk) (by decide +kernel)
  have e3 := eq_lit (M := M) ha (y := sSay) (by decide +kernel)
  have n := is_name_ok (k := k + 1) (M := M) (leaf_str hb)
  have bl := is_below_ok (k := k) (M := M) hc
  have g3 : tb.gl 3 = some (Str.ofString "MAX_SIZE", .int 4) := rfl
  rw [phi_run G9 rfl]
  cases h1 : isS a sAsk <;> cases h3 : isS a sSay <;> cases h4 : nm b <;>
    simp [b9, e1, e3, h1, h3, sets, n, ln, g3, bl, h4]
theorem is_line_ok {d : Dv.D} (h : Val d) : Phi tb (k + 3) 9 [d] M = .ok (.bl (ln d)) M := by
  have short : ∀ ds : List Dv.D, (∀ d ∈ ds, leaf d) → Phi tb (k + 3) 9 [.tup ds] M = .ok (.bl (ln (.tup ds))) M := fun ds hd => by
    match ds, hd with
    | [], _ => exact line_len (by simp) (by simp)
    | [_], _ => exact line_len (by simp) (by simp)
    | [a, b], hd => exact line_two (hd a (by simp)) (hd b (by simp))
    | [a, b, c], hd => exact line_three (hd a (by simp)) (hd b (by simp)) (hd c (by simp))
    | _ :: _ :: _ :: _ :: _, _ => exact line_len (by simp) (by simp)
  cases h with
  | leaf h =>
    cases d with
    | tup xs => exact short xs (by
        rcases (show xs = [] ∨ xs = [.int 1] from h) with rfl | rfl
        · simp
        · simp [leaf])
    | non => exact line_no isi_non_tuple
    | bl b => exact line_no isi_bl_tuple
    | int b => exact line_no isi_int_tuple
    | str b => exact line_no isi_str_tuple
    | lst b => exact line_no isi_lst_tuple
    | dic b c => exact line_no isi_dic_tuple
    | _ => exact h.elim
  | tup h _ => exact short _ h
  | lst h _ => exact line_no isi_lst_tuple
  | one h _ => exact line_len (by simp) (by simp)

theorem in_three {x a b c : Str} : cmpD M .In (.str x) (.lst [.str a, .str b, .str c]) = some (isS (.str x) a || isS (.str x) b || isS (.str x) c) := by
  have e : cmpD M .In (.str x) (.lst [.str a, .str b, .str c]) = some (inV (.str x) [.str a, .str b, .str c]) := rfl
  rw [e]
  congr 1
  simp only [inV, List.any_cons, List.any_nil, eqV, isS, Bool.or_false, ← Bool.or_assoc]
  have q : ∀ y : Str, (y == x) = decide (x = y) := fun y => by
    rw [Bool.eq_iff_iff]
    simp
    exact eq_comm
  rw [q, q, q]
theorem in_two {x a b : Str} : cmpD M .In (.str x) (.lst [.str a, .str b]) = some (isS (.str x) a || isS (.str x) b) := by
  have e : cmpD M .In (.str x) (.lst [.str a, .str b]) = some (inV (.str x) [.str a, .str b]) := rfl
  rw [e]
  congr 1
  simp only [inV, List.any_cons, List.any_nil, eqV, isS, Bool.or_false]
  have q : ∀ y : Str, (y == x) = decide (x = y) := fun y => by
    rw [Bool.eq_iff_iff]
    simp
    exact eq_comm
  rw [q, q]
theorem at1' {α : Type} {a b : α} : atI [a, b] 1 = some b := rfl
theorem lline_no {d : Dv.D} (h : isiD d (.bt "tuple") = some false) : Phi tb (k + 2) 11 [d] M = .ok (.bl false) M := by
  rw [phi_run G11 rfl]
  simp [b11, h]
theorem lline_len {ds : List Dv.D} (h2 : ds.length ≠ 2) (h3 : ds.length ≠ 3) : Phi tb (k + 2) 11 [.tup ds] M = .ok (.bl false) M := by
  rw [phi_run G11 rfl]
  by_cases h : ds.length < 2
  · have q : (ds.length : Int) < 2 := by omega
    simp [b11, q]
  · have q : ¬ (ds.length : Int) < 2 := by omega
    have q2 : (3 : Int) < (ds.length : Int) := by omega
    simp [b11, q, q2]
@[simp] theorem eq_int {i j : Int} : cmpD M .Eq (.int i) (.int j) = some (decide (i = j)) := by
  have e1 : toPyM M (.int i) = some (.int i) := rfl
  have e2 : toPyM M (.int j) = some (.int j) := rfl
  have d1 : ∀ i : Int, (PyData.int i).depth = 0 := fun i => by simp [PyData.depth]
  have c1 : ∀ i : Int, (PyData.int i).canLay0 = true := fun i => by simp [PyData.canLay0]
  have h : PyData.eqv (.int i) (.int j) = decide (i = j) := by
    simp [PyData.eqv]
    rfl
  simp only [cmpD, eqD, e1, e2, c1, d1, h, Bool.and_self]
  rfl
theorem lline_two {a b : Dv.D} (ha : leaf a) (hb : leaf b) : Phi tb (k + 2) 11 [.tup [a, b]] M = .ok (.bl (ln (.tup [a, b]))) M := by
  have n := law_is_name_ok (k := k) (M := M) (leaf_str hb)
  rw [phi_run G11 rfl]
  rcases leaf_str ha with ⟨x, rfl, hx⟩ | ⟨h1, h2⟩
  · cases h3 : (isS (.str x) sEnter || isS (.str x) sLeave || isS (.str x) sSay) <;>
      simp [b11, mkL_true (xs := [.str sEnter, .str sLeave, .str sSay]) (by decide), in_three, h3, at1', n, ln]
  · have e : ∀ y, isS a y = false := fun y => by cases a <;> first | rfl | exact absurd rfl (h1 _)
    simp [b11, h2, ln, e]
theorem lline_three {a b c : Dv.D} (ha : leaf a) (hb : leaf b) (hc : leaf c) : Phi tb (k + 2) 11 [.tup [a, b, c]] M = .ok (.bl (ln (.tup [a, b, c]))) M := by
  have n := law_is_name_ok (k := k) (M := M) (leaf_str hb)
  have bc : below c = true → ∃ i, c = .int i ∧ 0 ≤ i ∧ i < 4 := fun h => by
    cases c <;> simp [below] at h
    exact ⟨_, rfl, h.1, h.2⟩
  rw [phi_run G11 rfl]
  rcases leaf_str ha with ⟨x, rfl, hx⟩ | ⟨h1, h2⟩
  · rcases leaf_int hc with ⟨i, rfl⟩ | ⟨t, rfl⟩ | ⟨g1, g2⟩
    · by_cases q1 : i < 0
      · have : below (.int i) = false := by simp [below]; omega
        simp [b11, at2, q1, ln, this]
      · by_cases q2 : 3 < i
        · have : below (.int i) = false := by simp [below]; omega
          simp [b11, at2, q1, q2, ln, this]
        · have : below (.int i) = true := by simp [below]; omega
          cases h3 : (isS (.str x) sSay || isS (.str x) sAsk) <;>
            simp [b11, at2, at1, q1, q2, ln, this, mkL_true (xs := [.str sSay, .str sAsk]) (by decide), in_two, h3, n, Bool.or_comm (isS (.str x) sAsk)]
    · simp [b11, at2, ln, below]
    · have : below c = false := by cases c <;> first | rfl | exact absurd rfl (g1 _)
      simp [b11, at2, g2, ln, this]
  · have e : ∀ y, isS a y = false := fun y => by cases a <;> first | rfl | exact absurd rfl (h1 _)
    simp [b11, h2, ln, e]
theorem law_is_line_ok {d : Dv.D} (h : Val d) : Phi tb (k + 2) 11 [d] M = .ok (.bl (ln d)) M := by
  have short : ∀ ds : List Dv.D, (∀ d ∈ ds, leaf d) → Phi tb (k + 2) 11 [.tup ds] M = .ok (.bl (ln (.tup ds))) M := fun ds hd => by
    match ds, hd with
    | [], _ => exact lline_len (by simp) (by simp)
    | [_], _ => exact lline_len (by simp) (by simp)
    | [a, b], hd => exact lline_two (hd a (by simp)) (hd b (by simp))
    | [a, b, c], hd => exact lline_three (hd a (by simp)) (hd b (by simp)) (hd c (by simp))
    | _ :: _ :: _ :: _ :: _, _ => exact lline_len (by simp) (by simp)
  cases h with
  | leaf h =>
    cases d with
    | tup xs => exact short xs (by
        rcases (show xs = [] ∨ xs = [.int 1] from h) with rfl | rfl
        · simp
        · simp [leaf])
    | non => exact lline_no isi_non_tuple
    | bl b => exact lline_no isi_bl_tuple
    | int b => exact lline_no isi_int_tuple
    | str b => exact lline_no isi_str_tuple
    | lst b => exact lline_no isi_lst_tuple
    | dic b c => exact lline_no isi_dic_tuple
    | _ => exact h.elim
  | tup h _ => exact short _ h
  | lst h _ => exact lline_no isi_lst_tuple
  | one h _ => exact lline_len (by simp) (by simp)
end
end L2.Dv.K01
namespace L2.Dv.K01
open PySem PySem.Spec PyProof.Rows
abbrev F0 : IsFn tb 0 2 5 true bUrn := ⟨⟨f0, rfl, rfl, rfl, rfl, rfl⟩⟩
abbrev F1 : IsFn tb 1 2 6 true bTake := ⟨⟨f1, rfl, rfl, rfl, rfl, rfl⟩⟩
abbrev F2 : IsFn tb 2 2 2 true bOne := ⟨⟨f2, rfl, rfl, rfl, rfl, rfl⟩⟩
abbrev F4 : IsFn tb 4 1 3 true bName := ⟨⟨f4, rfl, rfl, rfl, rfl, rfl⟩⟩
abbrev F12 : IsFn tb 12 1 3 true b12 := ⟨⟨f12, rfl, rfl, rfl, rfl, rfl⟩⟩
abbrev F13 : IsFn tb 13 1 4 true b13 := ⟨⟨f13, rfl, rfl, rfl, rfl, rfl⟩⟩
abbrev F14 : IsFn tb 14 2 7 true b14 := ⟨⟨f14, rfl, rfl, rfl, rfl, rfl⟩⟩
section
variable {k n C : Nat} {M M0 : Mem}
/-- signs that a text is made of -/
theorem ascii_ok {x : Str} (h : ∀ c ∈ x.cps.toList, c < 128) (hl : x.length ≤ 100) : okS x := ⟨hl, by
  unfold PyData.strOk
  rw [Array.all_eq_true']
  intro c hc
  have := h c (by simpa using hc)
  simp
  omega⟩
theorem add_str {x y : Str} (h : x.length + y.length ≤ sizeLine) : bopD M .Add (.str x) (.str y) = some (.str (x ++ y)) := by
  simp only [bopD]
  rw [if_pos h]
theorem text_ok (hu : Urn n C M0 M) (hC : C + 12 < 1000000) : ∃ x M', Phi tb (k + 3) 12 [.loc n] M = .ok (.str x) M' ∧ Urn n (C + 12) M0 M' ∧ okS x := by
  obtain ⟨d, M1, e1, hu1, hd⟩ := one_ok (k := k) F1 F2 hu (by omega) (ds := [.str (Str.ofString ""), .str (Str.ofString ""), .str (Str.ofString "A"), .str (Str.ofString " "), .str (Str.ofString "_0"), .str (Str.ofString "-"), .str (Str.ofString "{|")]) (by simp) (by simp)
  have hd' : ∃ y : Str, d = .str y ∧ y.length ≤ 2 ∧ ∀ c ∈ y.cps.toList, c < 128 := by
    simp only [List.mem_cons, List.not_mem_nil, or_false] at hd
    rcases hd with rfl | rfl | rfl | rfl | rfl | rfl | rfl <;> exact ⟨_, rfl, by decide +kernel, by decide +kernel⟩
  obtain ⟨y, rfl, hy, hyc⟩ := hd'
  obtain ⟨v, M2, e2, hu2, a, b⟩ := take_ok' (k := k + 1) F1 hu1 (by omega) (total := 11) (by decide) (by decide)
  have hr : -4611686018427387904 ≤ v ∧ v < 4611686018427387904 := by omega
  have hlen : ((List.range v.toNat).map fun (i : Nat) => Dv.D.int (i : Int)).length = v.toNat := by simp
  have hle : v.toNat ≤ 10 := by omega
  have hxl : (abc ++ y).length = 26 + y.length := by rw [Str.length_append, abc_len]
  have hxc : ∀ c ∈ (abc ++ y).cps.toList, c < 128 := fun c hc => by
    have e : (abc ++ y).cps.toList = abc.cps.toList ++ y.cps.toList := by
      show (abc.cps ++ y.cps).toList = _
      simp
    rw [e] at hc
    rcases List.mem_append.mp hc with hc | hc
    · have := abc_low hc
      unfold low at this
      simp at this
      omega
    · exact hyc c hc
  have hadd : bopD M1 .Add (.str abc) (.str y) = some (.str (abc ++ y)) := add_str (Nat.le_trans (by rw [abc_len]; omega : abc.length + y.length ≤ 28) (by decide))
  obtain ⟨ys, M3, e3, hys, hp, hu3⟩ := foldC_draw (N := 10) (f := lcF (Phi tb (k + 2)) tb (.call 2 [.var 0, .var 1]) (.nm 2) [] [2] [some (.loc n), some (.str (abc ++ y)), none]) (I := fun i M => Urn n (C + 2 + i) M0 M) (P := fun z => ∃ c, z = .str ⟨#[c]⟩ ∧ c < 128)
    (xs := (List.range v.toNat).map fun (i : Nat) => Dv.D.int (i : Int)) (acc := []) (i := 0) (M := M2) (fun x i M _ hi hI => by
      obtain ⟨c, M', e, hu', hc⟩ := one_str (k := k) F1 F2 hI (by omega) (x := abc ++ y) (by omega) (by omega)
      exact ⟨_, M', by simp [lcF, wipeD, e], ⟨c, rfl, hxc c hc⟩, hu'⟩) (by rw [hlen]; exact Nat.le_trans (by simpa using hle) (by decide : 10 ≤ sizeLine)) (by rw [hlen]; omega) hu2
  rw [hlen] at hys hu3
  obtain ⟨x, e4, hx, hxs⟩ := join_ok (M := M3) hp (by omega)
  refine ⟨x, M3, ?_, hu3.le (by omega), ascii_ok hxs (by omega)⟩
  have hmk : ys.length ≤ sizeLine := Nat.le_trans (by omega : ys.length ≤ 10) (by decide)
  simp only [List.nil_append] at e3
  rw [phi_run F12 rfl]
  simp [b12, mkL_true (xs := [.str (Str.ofString ""), .str (Str.ofString ""), .str (Str.ofString "A"), .str (Str.ofString " "), .str (Str.ofString "_0"), .str (Str.ofString "-"), .str (Str.ofString "{|")]) (by simp [sizeLine]), e1, hadd, rcvB, e2, hr, e3, mkL_true hmk, e4]
/-- the lines that are right -/
def Line (l : List Dv.D) : Prop := ∃ x : Str, (1 ≤ x.length ∧ x.length ≤ 8 ∧ ∀ c ∈ x.cps.toList, low c = true) ∧
  (l = [.str sEnter, .str x] ∨ l = [.str sLeave, .str x] ∨ l = [.str sSay, .str x] ∨ ∃ i : Int, 0 ≤ i ∧ i < 4 ∧ (l = [.str sSay, .str x, .int i] ∨ l = [.str sAsk, .str x, .int i]))
theorem line_ok (hu : Urn n C M0 M) (hC : C + 11 < 1000000) : ∃ l M', Phi tb (k + 3) 13 [.loc n] M = .ok (.tup l) M' ∧ Urn n (C + 11) M0 M' ∧ Line l := by
  obtain ⟨x, M1, e1, hu1, h1, h2, h3⟩ := name_ok (k := k) F1 F4 hu (by omega)
  obtain ⟨i, M2, e2, hu2, a, b⟩ := take_ok' (k := k + 1) F1 hu1 (by omega) (total := 4) (by decide) (by decide)
  obtain ⟨d, M3, e3, hu3, hd⟩ := one_ok (k := k) F1 F2 hu2 (by omega) (ds := [.tup [.str sEnter, .str x], .tup [.str sLeave, .str x], .tup [.str sSay, .str x], .tup [.str sSay, .str x, .int i], .tup [.str sAsk, .str x, .int i]]) (by simp) (by simp)
  have hd' : ∃ l, d = .tup l ∧ Line l := by
    simp only [List.mem_cons, List.not_mem_nil, or_false] at hd
    rcases hd with rfl | rfl | rfl | rfl | rfl
    · exact ⟨_, rfl, x, ⟨h1, h2, h3⟩, .inl rfl⟩
    · exact ⟨_, rfl, x, ⟨h1, h2, h3⟩, .inr (.inl rfl)⟩
    · exact ⟨_, rfl, x, ⟨h1, h2, h3⟩, .inr (.inr (.inl rfl))⟩
    · exact ⟨_, rfl, x, ⟨h1, h2, h3⟩, .inr (.inr (.inr ⟨i, a, b, .inl rfl⟩))⟩
    · exact ⟨_, rfl, x, ⟨h1, h2, h3⟩, .inr (.inr (.inr ⟨i, a, b, .inr rfl⟩))⟩
  obtain ⟨l, rfl, hl⟩ := hd'
  refine ⟨l, M3, ?_, hu3.le (by omega), hl⟩
  have s2 : ∀ l : List Dv.D, l.length ≤ 10 → l.length ≤ sizeLine := fun l h => Nat.le_trans h (by decide)
  have hadd : bopD M2 .Add (.lst [.tup [.str sEnter, .str x], .tup [.str sLeave, .str x]]) (.lst [.tup [.str sSay, .str x], .tup [.str sSay, .str x, .int i], .tup [.str sAsk, .str x, .int i]]) =
      some (.lst [.tup [.str sEnter, .str x], .tup [.str sLeave, .str x], .tup [.str sSay, .str x], .tup [.str sSay, .str x, .int i], .tup [.str sAsk, .str x, .int i]]) := by
    simp only [bopD, lstD]
    rw [if_pos (by simp [sizeLine])]
    rfl
  rw [phi_run F13 rfl]
  have q2 : 2 ≤ sizeLine := by decide
  have q3 : 3 ≤ sizeLine := by decide
  simp [b13, e1, e2, q2, q3, mkL_true (xs := [.tup [.str sSay, .str x], .tup [.str sSay, .str x, .int i], .tup [.str sAsk, .str x, .int i]]) (by simp [sizeLine]), mkL_true (xs := [.tup [.str sEnter, .str x], .tup [.str sLeave, .str x]]) (by simp [sizeLine]), hadd, e3]
end
end L2.Dv.K01
namespace L2.Dv.K01
open PySem PySem.Spec PyProof.Rows
/-! ### what is shown -/
def isDic : Dv.D → Bool
  | .dic _ _ => true
  | _ => false
def isLst : Dv.D → Bool
  | .lst _ => true
  | _ => false
structure Fine (d : Dv.D) (p : PyData) (n : Nat) : Prop where
  py : d.toPy = some p
  sh : p.showable = true
  lv : p.leavesShort 2000 = true
  dp : p.depth ≤ n
  bk : p.bulk ≤ 110
  nd : isDic d = false → p.hasDict = false
  nl : isLst d = false → noList p = true
theorem fine_int {i : Int} (h : -(10 ^ 31) ≤ i ∧ i ≤ 10 ^ 31) : Fine (.int i) (.int i) 1 := by
  have hl : i.natAbs.log2 < 1920 := log_lt (by decide) (Nat.lt_of_lt_of_le (by omega : i.natAbs < 2 ^ 110) (Nat.pow_le_pow_right (by decide) (by decide)))
  refine ⟨rfl, by simp [PyData.showable, hl], ?_, by simp [PyData.depth], by simp [PyData.bulk], fun _ => by simp [PyData.hasDict], fun _ => rfl⟩
  have := int_text_len_1921 hl
  simp only [PyData.leavesShort, decide_eq_true_eq]
  show (Str.ofString (toString i)).length ≤ 2000
  omega
theorem fine_str {x : Str} (h : okS x) : Fine (.str x) (.str x) 1 := by
  refine ⟨rfl, by simp [PyData.showable], ?_, by simp [PyData.depth], Nat.le_trans h.1 (by decide), fun _ => by simp [PyData.hasDict], fun _ => rfl⟩
  simp only [PyData.leavesShort, List.all_eq_true, decide_eq_true_eq]
  intro c hc
  have := h.lt c hc
  omega
theorem fine_leaf {d : Dv.D} (h : leaf d) : ∃ p, Fine d p 1 := by
  cases d with
  | non => exact ⟨.none, rfl, by simp [PyData.showable], rfl, by simp [PyData.depth], by simp [PyData.bulk], fun _ => by simp [PyData.hasDict], fun _ => rfl⟩
  | bl b => exact ⟨.bool b, rfl, by simp [PyData.showable], rfl, by simp [PyData.depth], by simp [PyData.bulk], fun _ => by simp [PyData.hasDict], fun _ => rfl⟩
  | int i => exact ⟨_, fine_int h⟩
  | str x => exact ⟨_, fine_str h⟩
  | tup xs =>
    rcases (show xs = [] ∨ xs = [.int 1] from h) with rfl | rfl
    · exact ⟨.tuple [], rfl, by simp [PyData.showable, PyData.showableAll], by simp [PyData.leavesShort, PyData.leavesShortAll], by simp [PyData.depth, PyData.depthAll], by simp [PyData.bulk, PyData.bulkAll], fun _ => by simp [PyData.hasDict, PyData.hasDictAll], fun _ => rfl⟩
    · have f := fine_int (i := 1) (by decide)
      exact ⟨.tuple [.int 1], rfl, by have := f.sh; simp only [PyData.showable, PyData.showableAll, Bool.and_true]; simpa only [PyData.showable] using this, by simp [PyData.leavesShort, PyData.leavesShortAll]; have := f.lv; simpa [PyData.leavesShort] using this, by simp [PyData.depth, PyData.depthAll], by simp [PyData.bulk, PyData.bulkAll], fun _ => by simp [PyData.hasDict, PyData.hasDictAll], fun _ => rfl⟩
  | lst xs =>
    cases (show xs = [] from h)
    exact ⟨.list [], rfl, by simp [PyData.showable, PyData.showableAll], by simp [PyData.leavesShort, PyData.leavesShortAll], by simp [PyData.depth, PyData.depthAll], by simp [PyData.bulk, PyData.bulkAll], fun _ => by simp [PyData.hasDict, PyData.hasDictAll], fun z => by cases z⟩
  | dic ks vs =>
    obtain ⟨rfl, rfl⟩ := (show ks = [] ∧ vs = [] from h)
    exact ⟨.dict [], rfl, by simp [PyData.showable, PyData.showableKv], by simp [PyData.leavesShort, PyData.leavesShortKv], by simp [PyData.depth, PyData.depthKv], by simp [PyData.bulk, PyData.bulkKv], (fun z => by cases z), fun _ => rfl⟩
  | _ => exact h.elim
theorem fine_leaves : ∀ {ds : List Dv.D}, (∀ d ∈ ds, leaf d) → ∃ ps, D.toPys ds = some ps ∧ PyData.showableAll ps = true ∧ PyData.leavesShortAll 2000 ps = true ∧ PyData.depthAll ps ≤ 1 ∧ PyData.bulkAll ps ≤ 111 * ds.length ∧
    (ds.all (fun d => !isDic d) = true → PyData.hasDictAll ps = false) ∧ (ds.all (fun d => !isLst d) = true → noLists ps = true)
  | [], _ => ⟨[], rfl, by simp [PyData.showableAll], by simp [PyData.leavesShortAll], by simp [PyData.depthAll], by simp [PyData.bulkAll], fun _ => by simp [PyData.hasDictAll], fun _ => rfl⟩
  | d :: ds, h => by
    obtain ⟨p, f⟩ := fine_leaf (h d (List.mem_cons_self ..))
    obtain ⟨ps, e, h1, h2, h3, h4, h5, h6⟩ := fine_leaves fun z hz => h z (List.mem_cons_of_mem _ hz)
    refine ⟨p :: ps, ?_, by simp [PyData.showableAll, f.sh, h1], by simp [PyData.leavesShortAll, f.lv, h2], by simp only [PyData.depthAll]; exact Nat.max_le.mpr ⟨f.dp, h3⟩, ?_, fun z => ?_, fun z => ?_⟩
    · show (match D.toPy d, D.toPys ds with | some a, some b => some (a :: b) | _, _ => none) = _
      rw [f.py, e]
    · have := f.bk
      simp only [PyData.bulkAll, List.length_cons]
      omega
    · simp only [List.all_cons, Bool.and_eq_true, Bool.not_eq_true'] at z
      simp only [PyData.hasDictAll, Bool.or_eq_false_iff]
      exact ⟨f.nd z.1, h5 (by simpa using z.2)⟩
    · simp only [List.all_cons, Bool.and_eq_true, Bool.not_eq_true'] at z
      simp only [noLists, Bool.and_eq_true]
      exact ⟨f.nl z.1, h6 (by simpa using z.2)⟩
def Shows (d : Dv.D) : Prop := ∃ s, ∀ M, reprD M d = some s
theorem shows_of {d : Dv.D} {p : PyData} (hl : ∀ n, d ≠ .loc n) (h1 : d.toPy = some p) (h2 : p.showable = true) (h3 : p.leavesShort 2000 = true) (h4 : p.depth ≤ 3) (h5 : p.bulk ≤ 3000) (h6 : p.hasDict = false ∨ noList p = true) : Shows d := by
  refine ⟨p.shown, fun M => ?_⟩
  have e : toPyM M d = some p := by
    cases d <;> first | exact h1 | exact absurd rfl (hl _)
  have b := PyData.shown_le_bulk 2000 (by decide) p h3
  have b2 : p.shown.length ≤ sizeLine := Nat.le_trans b (Nat.le_trans (Nat.add_le_add_right (Nat.mul_le_mul_left _ h5) _) (by decide))
  have h7 : (!p.hasDict || noList p) = true := by
    rcases h6 with z | z <;> simp [z]
  have h8 : p.depth ≤ 60 := by omega
  unfold reprD
  rw [e]
  simp [h2, b2, h8, h7]
theorem shows_leaf {d : Dv.D} (h : leaf d) : Shows d := by
  obtain ⟨p, f⟩ := fine_leaf h
  refine shows_of (fun n z => by subst z; exact h) f.py f.sh f.lv (Nat.le_trans f.dp (by decide)) (Nat.le_trans f.bk (by decide)) ?_
  cases e : isDic d with
  | false => exact .inl (f.nd e)
  | true => exact .inr (f.nl (by cases d <;> first | rfl | cases e))
def tidy (ds : List Dv.D) : Prop := (∀ d ∈ ds, leaf d) ∧ ds.length ≤ 20 ∧ (ds.all (fun d => !isDic d) = true ∨ ds.all (fun d => !isLst d) = true)
theorem shows_tup {ds : List Dv.D} (h : tidy ds) : Shows (.tup ds) := by
  obtain ⟨ps, e, h1, h2, h3, h4, h5, h6⟩ := fine_leaves h.1
  have hn := h.2.1
  refine shows_of (p := .tuple ps) (fun n z => by cases z) (by show (D.toPys ds).map _ = _; rw [e]; rfl) (by simpa [PyData.showable] using h1) (by simpa [PyData.leavesShort] using h2) (by simp only [PyData.depth]; omega) (by simp only [PyData.bulk]; omega) ?_
  rcases h.2.2 with z | z
  · exact .inl (by simpa [PyData.hasDict] using h5 z)
  · exact .inr (by simpa [noList] using h6 z)
theorem shows_lst {ds : List Dv.D} (h1 : ∀ d ∈ ds, leaf d) (h2 : ds.length ≤ 20) (h3 : ds.all (fun d => !isDic d) = true) : Shows (.lst ds) := by
  obtain ⟨ps, e, q1, q2, q3, q4, q5, q6⟩ := fine_leaves h1
  refine shows_of (p := .list ps) (fun n z => by cases z) (by show (D.toPys ds).map _ = _; rw [e]; rfl) (by simpa [PyData.showable] using q1) (by simpa [PyData.leavesShort] using q2) (by simp only [PyData.depth]; omega) (by simp only [PyData.bulk]; omega) ?_
  exact .inl (by simpa [PyData.hasDict] using q5 h3)
theorem shows_one {ds : List Dv.D} (h1 : ∀ d ∈ ds, leaf d) (h2 : ds.length ≤ 20) (h3 : ds.all (fun d => !isDic d) = true) : Shows (.tup [.tup ds]) := by
  obtain ⟨ps, e, q1, q2, q3, q4, q5, q6⟩ := fine_leaves h1
  refine shows_of (p := .tuple [.tuple ps]) (fun n z => by cases z) ?_ (by simpa [PyData.showable, PyData.showableAll] using q1) (by simpa [PyData.leavesShort, PyData.leavesShortAll] using q2) (by simp [PyData.depth, PyData.depthAll]; omega) (by simp [PyData.bulk, PyData.bulkAll]; omega) ?_
  · show (match (D.toPys ds).map PyData.tuple, some ([] : List PyData) with | some a, some b => some (a :: b) | _, _ => none).map PyData.tuple = _
    rw [e]
    rfl
  · exact .inl (by simpa [PyData.hasDict, PyData.hasDictAll] using q5 h3)
/-- what a value must be -/
def Ask (d : Dv.D) : Prop := Val d ∧ Shows d
theorem ask_leaf {d : Dv.D} (h : leaf d) : Ask d := ⟨.leaf h, shows_leaf h⟩
theorem ask_tup {ds : List Dv.D} (h : tidy ds) : Ask (.tup ds) := ⟨.tup h.1 (Nat.le_trans h.2.1 (by decide)), shows_tup h⟩
theorem ask_lst {ds : List Dv.D} (h1 : ∀ d ∈ ds, leaf d) (h2 : ds.length ≤ 20) (h3 : ds.all (fun d => !isDic d) = true) : Ask (.lst ds) := ⟨.lst h1 (Nat.le_trans h2 (by decide)), shows_lst h1 h2 h3⟩
theorem ask_one {ds : List Dv.D} (h1 : ∀ d ∈ ds, leaf d) (h2 : ds.length ≤ 20) (h3 : ds.all (fun d => !isDic d) = true) : Ask (.tup [.tup ds]) := ⟨.one h1 (Nat.le_trans h2 (by decide)), shows_one h1 h2 h3⟩
end L2.Dv.K01
namespace L2.Dv.K01
open PySem PySem.Spec PyProof.Rows
def q14_0 : Dv.S := .par 2 3 (.call 12 [.var 0]) (.call 1 [.var 0, .blt .len [.var 1]])
def q14_1 : Dv.S := .set (.nm 4) (.call 2 [.var 0, .lst true [.cst .none, .cst (.int 0), .cst (.int 1), .cst (.int 4), .neg (.cst (.int 1)), .cst (.bool true), .cst (.bool false), .var 2, .cst (.str (Str.ofString "")), .cst (.str (Str.ofString "Say")), .tup [], .lst true [], .tup [.cst (.int 1)], .bop .Pow (.cst (.int 10)) (.cst (.int 30)), .cst (.str (Str.ofString "say")), .cst (.str (Str.ofString "enter")), .dis true [] []]])
def q14_2 : Dv.S := .set (.nm 5) (.lst true [.var 1, .blt .list [.var 1], .bop .Add (.var 1) (.tup [.call 1 [.var 0, .cst (.int 6)]]), .slc (.var 1) (some (.cst (.int 1))) none, .slc (.var 1) none (some (.neg (.cst (.int 1)))), .tup [.var 1], .sub (.var 1) (.cst (.int 0)), .rev (.var 1)])
def q14_3 : Dv.S := .set (.nm 5) (.bop .Add (.var 5) (.lst true [.bop .Add (.bop .Add (.slc (.var 1) none (some (.var 3))) (.tup [.var 4])) (.slc (.var 1) (some (.bop .Add (.var 3) (.cst (.int 1)))) none), .bop .Add (.var 1) (.tup [.var 4]), .bop .Add (.tup [.sub (.var 1) (.cst (.int 0)), .var 2]) (.slc (.var 1) (some (.cst (.int 2))) none), .var 4]))
def q14_4 : Dv.S := .set (.nm 6) (.call 2 [.var 0, .lst true [.cst (.str (Str.ofString "enter")), .cst (.str (Str.ofString "leave")), .cst (.str (Str.ofString "say")), .cst (.str (Str.ofString "ask")), .cst (.str (Str.ofString "told"))]])
def q14_5 : Dv.S := .ret (.bop .Add (.var 5) (.lst true [.bop .Add (.tup [.var 6]) (.slc (.var 1) (some (.cst (.int 1))) none), .tup [.var 6], .tup [.var 6, .sub (.var 1) (.cst (.int 1)), .sub (.var 1) (.cst (.int 1))], .tup [.var 6, .sub (.var 1) (.cst (.int 1)), .cst (.bool true)]]))
theorem b14_eq : b14 = [q14_0, q14_1, q14_2, q14_3, q14_4, q14_5] := rfl
def q15_0 : Dv.S := .set (.nm 1) (.call 13 [.var 0])
def q15_1 : Dv.S := .set (.nm 2) (.bop .Add (.bop .Add (.call 14 [.var 0, .var 1]) (.lc true (.call 12 [.var 0]) (.nm 3) (.rng [.cst (.int 4)]) [] [3])) (.lst true [.call 4 [.var 0], .bop .Add (.sub (.var 1) (.cst (.int 1))) (.cst (.str (Str.ofString "a")))]))
def q15_2 : Dv.S := .set (.nm 2) (.bop .Add (.var 2) (.lst true [.cst .none, .cst (.int 0), .cst (.bool true), .tup [], .lst true [], .dis true [] [], .cst (.str (Str.ofString "")), .cst (.str (Str.ofString "abcdefgh")), .cst (.str (Str.ofString "abcdefghi")), .cst (.str (Str.ofString "a")), .cst (.str (Str.ofString "z")), .cst (.str (Str.ofString "aZ")), .cst (.str (Str.ofString "say")), .cst (.str (Str.ofString "mirror\n")), .cst (.int 7)]))
def q15_3 : Dv.S := .fr (.nm 4) (.var 2) [.set (.nm 5) (.blt .repr [.var 4]), .ite (.cmp (.blt .repr [.lst true [.call 8 [.var 4], .call 9 [.var 4]]]) .NotEq (.blt .repr [.lst true [.call 10 [.var 4], .call 11 [.var 4]]])) [.ret (.cst (.bool false))] [], .ite (.boo false [.cmp (.blt .repr [.var 4]) .NotEq (.var 5), .cmp (.blt .repr [.call 9 [.var 4]]) .NotEq (.blt .repr [.call 11 [.var 4]])]) [.ret (.cst (.bool false))] []]
def q15_4 : Dv.S := .ret (.boo true [.cmp (.call 9 [.var 1]) .Is (.cst (.bool true)), .cmp (.call 8 [.sub (.var 1) (.cst (.int 1))]) .Is (.cst (.bool true))])
theorem b15_eq : b15 = [q15_0, q15_1, q15_2, q15_3, q15_4] := rfl
def q16_0 : Dv.S := .fr (.nm 1) (.rng [.blt .max [.cst (.int 1), .blt .min [.cst (.int 10), .blt .len [.var 0]]]]) [.set (.nm 2) (.call 0 [.var 0, .var 1]), .fr (.nm 3) (.rng [.cst (.int 4)]) [.ite (.not (.call 15 [.var 2])) [.ret (.cst (.bool false))] []]]
def q16_1 : Dv.S := .set (.nm 4) (.lc true (.call 9 [.tup [.cst (.str (Str.ofString "ask")), .cst (.str (Str.ofString "w")), .var 5]]) (.nm 5) (.rng [.neg (.cst (.int 1)), .cst (.int 6)]) [] [5])
def q16_2 : Dv.S := .ret (.boo true [.cmp (.var 4) .Eq (.lst true [.cst (.bool false), .cst (.bool true), .cst (.bool true), .cst (.bool true), .cst (.bool true), .cst (.bool false), .cst (.bool false)]), .cmp (.call 9 [.tup [.cst (.str (Str.ofString "ask")), .cst (.str (Str.ofString "w"))]]) .Is (.cst (.bool false))])
theorem b16_eq : b16 = [q16_0, q16_1, q16_2] := rfl
def flat0 (d : Dv.D) : Prop := leaf d ∧ isDic d = false ∧ isLst d = false
theorem tidy_flat {ds : List Dv.D} (h : ∀ d ∈ ds, flat0 d) (hl : ds.length ≤ 20) : tidy ds :=
  ⟨fun d hd => (h d hd).1, hl, .inl (List.all_eq_true.mpr fun d hd => by rw [(h d hd).2.1]; rfl)⟩
theorem tidy_odd {p q : List Dv.D} {odd : Dv.D} (hp : ∀ d ∈ p, flat0 d) (hq : ∀ d ∈ q, flat0 d) (ho : leaf odd) (hl : (p ++ [odd] ++ q).length ≤ 20) : tidy (p ++ [odd] ++ q) := by
  refine ⟨fun d hd => ?_, hl, ?_⟩
  · simp only [List.mem_append, List.mem_cons, List.not_mem_nil, or_false] at hd
    rcases hd with (hd | rfl) | hd
    · exact (hp d hd).1
    · exact ho
    · exact (hq d hd).1
  · cases e : isDic odd with
    | false =>
      refine .inl (List.all_eq_true.mpr fun d hd => ?_)
      simp only [List.mem_append, List.mem_cons, List.not_mem_nil, or_false] at hd
      rcases hd with (hd | rfl) | hd
      · rw [(hp d hd).2.1]; rfl
      · rw [e]; rfl
      · rw [(hq d hd).2.1]; rfl
    | true =>
      refine .inr (List.all_eq_true.mpr fun d hd => ?_)
      simp only [List.mem_append, List.mem_cons, List.not_mem_nil, or_false] at hd
      rcases hd with (hd | rfl) | hd
      · rw [(hp d hd).2.2]; rfl
      · cases d <;> first | rfl | cases e
      · rw [(hq d hd).2.2]; rfl
theorem flat_str {x : Str} (h : okS x) : flat0 (.str x) := ⟨h, rfl, rfl⟩
theorem flat_int {i : Int} (h : -(10 ^ 31) ≤ i ∧ i ≤ 10 ^ 31) : flat0 (.int i) := ⟨h, rfl, rfl⟩
theorem flat_bl {b : Bool} : flat0 (.bl b) := ⟨trivial, rfl, rfl⟩
theorem cut_drop {l : List Dv.D} (j : Nat) : cutL l (some (j : Int)) none = l.drop j := by
  unfold cutL
  rw [HT.sIx_nat, HT.sIx_none]
  by_cases h : j ≤ l.length
  · rw [Nat.min_eq_left h]
    exact List.take_of_length_le (by simp)
  · rw [Nat.min_eq_right (by omega)]
    simp
    omega
theorem cut_take {l : List Dv.D} (j : Nat) : cutL l none (some (j : Int)) = l.take j := by
  unfold cutL
  rw [HT.sIx_nat, HT.sIx_none]
  simp only [List.drop_zero, Nat.sub_zero]
  by_cases h : j ≤ l.length
  · rw [Nat.min_eq_left h]
  · rw [Nat.min_eq_right (by omega), List.take_of_length_le (Nat.le_refl _), List.take_of_length_le (by omega)]
theorem add_tup {M : Mem} {xs ys : List Dv.D} (h : xs.length + ys.length ≤ 1000) : bopD M .Add (.tup xs) (.tup ys) = some (.tup (xs ++ ys)) := by
  simp only [bopD]
  rw [if_pos (Nat.le_trans h (by decide))]
theorem add_lst {M : Mem} {xs ys : List Dv.D} (h : xs.length + ys.length ≤ 1000) : bopD M .Add (.lst xs) (.lst ys) = some (.lst (xs ++ ys)) := by
  simp only [bopD, lstD]
  rw [if_pos (Nat.le_trans h (by decide))]
theorem mkL_few {M : Mem} {xs : List Dv.D} (h : xs.length ≤ 1000) : mkL true xs M = .ok (.lst xs) M := mkL_true (Nat.le_trans h (by decide))
theorem sl {n : Nat} (h : n ≤ 1000) : n ≤ sizeLine := Nat.le_trans h (by decide)
@[simp] theorem slc_tup {M : Mem} {xs : List Dv.D} {lo hi : Option Int} : slcD M (.tup xs) lo hi = some (.tup (cutL xs lo hi)) := rfl
@[simp] theorem list_tup {M : Mem} {xs : List Dv.D} : bltD .list [.tup xs] M = mkL true xs M := rfl
abbrev odds (text : Str) : List Dv.D := [.non, .int 0, .int 1, .int 4, .int (-1), .bl true, .bl false, .str text, .str (Str.ofString ""), .str (Str.ofString "Say"), .tup [], .lst [], .tup [.int 1], .int (10 ^ 30), .str (Str.ofString "say"), .str (Str.ofString "enter"), .dic [] []]
theorem lit_ok {x : Str} (h : x.length ≤ 100 ∧ PyData.strOk x = true) : okS x := h
theorem odd_leaf {text : Str} {d : Dv.D} (ht : okS text) (h : d ∈ odds text) : leaf d := by
  simp only [odds, List.mem_cons, List.not_mem_nil, or_false] at h
  rcases h with rfl | rfl | rfl | rfl | rfl | rfl | rfl | rfl | rfl | rfl | rfl | rfl | rfl | rfl | rfl | rfl | rfl
  · exact trivial
  · exact ⟨by decide, by decide⟩
  · exact ⟨by decide, by decide⟩
  · exact ⟨by decide, by decide⟩
  · exact ⟨by decide, by decide⟩
  · exact trivial
  · exact trivial
  · exact ht
  · exact ⟨by decide +kernel, by decide +kernel⟩
  · exact ⟨by decide +kernel, by decide +kernel⟩
  · exact .inl rfl
  · exact rfl
  · exact .inr rfl
  · exact ⟨by decide, by decide⟩
  · exact ⟨by decide +kernel, by decide +kernel⟩
  · exact ⟨by decide +kernel, by decide +kernel⟩
  · exact ⟨rfl, rfl⟩
/-- the values about a line -/
def nears (a b : Dv.D) (r : List Dv.D) (text : Str) (spot : Nat) (odd : Dv.D) (more : Int) (word : Str) : List Dv.D :=
  [.tup (a :: b :: r), .lst (a :: b :: r), .tup ((a :: b :: r) ++ [.int more]), .tup (b :: r), .tup (a :: b :: r).dropLast, .tup [.tup (a :: b :: r)], a, .tup (a :: b :: r).reverse] ++
  [.tup ((a :: b :: r).take spot ++ [odd] ++ (a :: b :: r).drop (spot + 1)), .tup ((a :: b :: r) ++ [odd]), .tup ([a, .str text] ++ r), odd] ++
  [.tup ([.str word] ++ b :: r), .tup [.str word], .tup [.str word, b, b], .tup [.str word, b, .bl true]]
theorem nears_ask {a b : Dv.D} {r : List Dv.D} {text word : Str} {spot : Nat} {odd : Dv.D} {more : Int} (hr : r.length ≤ 1) (hl : ∀ d ∈ a :: b :: r, flat0 d) (ht : okS text) (hw : okS word) (ho : leaf odd) (hm : 0 ≤ more ∧ more < 6) :
    ∀ v ∈ nears a b r text spot odd more word, Ask v := by
  have ha := hl a (by simp)
  have hb := hl b (by simp)
  have hrr : ∀ d ∈ r, flat0 d := fun d hd => hl d (by simp [hd])
  have hbr : ∀ d ∈ b :: r, flat0 d := fun d hd => hl d (List.mem_cons_of_mem _ hd)
  have hmm : flat0 (.int more) := flat_int (by omega)
  have len : (a :: b :: r).length ≤ 3 := by simp; omega
  have nodic : ∀ ds : List Dv.D, (∀ d ∈ ds, flat0 d) → ds.all (fun d => !isDic d) = true := fun ds h => List.all_eq_true.mpr fun d hd => by rw [(h d hd).2.1]; rfl
  have app : ∀ p q : List Dv.D, (∀ d ∈ p, flat0 d) → (∀ d ∈ q, flat0 d) → ∀ d ∈ p ++ q, flat0 d := fun p q hp hq d hd => by
    rcases List.mem_append.mp hd with h | h
    · exact hp d h
    · exact hq d h
  have one : ∀ x, flat0 x → ∀ d ∈ [x], flat0 d := fun x hx d hd => by
    rw [List.mem_singleton.mp hd]
    exact hx
  intro v hv
  simp only [nears, List.mem_append, List.mem_cons, List.not_mem_nil, or_false] at hv
  rcases hv with ((rfl | rfl | rfl | rfl | rfl | rfl | rfl | rfl) | rfl | rfl | rfl | rfl) | rfl | rfl | rfl | rfl
  · exact ask_tup (tidy_flat hl (by omega))
  · exact ask_lst (fun d hd => (hl d hd).1) (by omega) (nodic _ hl)
  · exact ask_tup (tidy_flat (app _ _ hl (one _ hmm)) (by simp; omega))
  · exact ask_tup (tidy_flat hbr (by simp; omega))
  · exact ask_tup (tidy_flat (fun d hd => hl d (List.dropLast_subset _ hd)) (by simp; omega))
  · exact ask_one (fun d hd => (hl d hd).1) (by omega) (nodic _ hl)
  · exact ask_leaf ha.1
  · exact ask_tup (tidy_flat (fun d hd => hl d (List.mem_reverse.mp hd)) (by simp; omega))
  · exact ask_tup (tidy_odd (fun d hd => hl d (List.mem_of_mem_take hd)) (fun d hd => hl d (List.mem_of_mem_drop hd)) ho (by simp; omega))
  · have := tidy_odd (q := []) hl (by simp) ho (by simp; omega)
    rw [List.append_nil] at this
    exact ask_tup this
  · exact ask_tup (tidy_flat (app _ _ (fun d hd => by
      simp only [List.mem_cons, List.not_mem_nil, or_false] at hd
      rcases hd with rfl | rfl
      · exact ha
      · exact flat_str ht) hrr) (by simp; omega))
  · exact ask_leaf ho
  · exact ask_tup (tidy_flat (app _ _ (one _ (flat_str hw)) hbr) (by simp; omega))
  · exact ask_tup (tidy_flat (one _ (flat_str hw)) (by simp))
  · exact ask_tup (tidy_flat (fun d hd => by
      simp only [List.mem_cons, List.not_mem_nil, or_false] at hd
      rcases hd with rfl | rfl | rfl
      · exact flat_str hw
      · exact hb
      · exact hb) (by simp))
  · exact ask_tup (tidy_flat (fun d hd => by
      simp only [List.mem_cons, List.not_mem_nil, or_false] at hd
      rcases hd with rfl | rfl | rfl
      · exact flat_str hw
      · exact hb
      · exact flat_bl) (by simp))
section
variable {Φ : Calls} {G : Tb} {ρ : Env'} {M : Mem}
theorem ev_tup0 : ev Φ G (.tup []) ρ M = .ok (.tup []) M := by
  simp only [ev_tup, evs_nil, R.bnd_ok]
  rw [if_pos (sl (by simp))]
theorem ev_tup1 (a : E) : ev Φ G (.tup [a]) ρ M = (ev Φ G a ρ M).bnd fun x M1 => .ok (.tup [x]) M1 := by
  simp only [ev_tup, evs_cons, evs_nil]
  cases ev Φ G a ρ M with
  | ok x M1 =>
    simp only [R.bnd_ok]
    rw [if_pos (sl (by simp))]
  | err _ _ => rfl
  | bad => rfl
theorem ev_tup2 (a b : E) : ev Φ G (.tup [a, b]) ρ M = (ev Φ G a ρ M).bnd fun x M1 => (ev Φ G b ρ M1).bnd fun y M2 => .ok (.tup [x, y]) M2 := by
  simp only [ev_tup, evs_cons, evs_nil]
  cases ev Φ G a ρ M with
  | ok x M1 =>
    simp only [R.bnd_ok]
    cases ev Φ G b ρ M1 with
    | ok y M2 =>
      simp only [R.bnd_ok]
      rw [if_pos (sl (by simp))]
    | err _ _ => rfl
    | bad => rfl
  | err _ _ => rfl
  | bad => rfl
theorem ev_tup3 (a b c : E) : ev Φ G (.tup [a, b, c]) ρ M = (ev Φ G a ρ M).bnd fun x M1 => (ev Φ G b ρ M1).bnd fun y M2 => (ev Φ G c ρ M2).bnd fun z M3 => .ok (.tup [x, y, z]) M3 := by
  simp only [ev_tup, evs_cons, evs_nil]
  cases ev Φ G a ρ M with
  | ok x M1 =>
    simp only [R.bnd_ok]
    cases ev Φ G b ρ M1 with
    | ok y M2 =>
      simp only [R.bnd_ok]
      cases ev Φ G c ρ M2 with
      | ok z M3 =>
        simp only [R.bnd_ok]
        rw [if_pos (sl (by simp))]
      | err _ _ => rfl
      | bad => rfl
    | err _ _ => rfl
    | bad => rfl
  | err _ _ => rfl
  | bad => rfl
end
section
variable {k n C : Nat} {M M0 : Mem}
theorem near_ok (hu : Urn n C M0 M) (hC : C + 16 < 1000000) {a b : Dv.D} {r : List Dv.D} (hr : r.length ≤ 1) (hl : ∀ d ∈ a :: b :: r, flat0 d) :
    ∃ vs M', Phi tb (k + 4) 14 [.loc n, .tup (a :: b :: r)] M = .ok (.lst vs) M' ∧ Urn n (C + 16) M0 M' ∧ (∀ v ∈ vs, Ask v) ∧ vs.length = 16 := by
  obtain ⟨text, M1, e1, hu1, ht⟩ := text_ok (k := k) hu (by omega)
  obtain ⟨spot, M2, e2, hu2, s1, s2⟩ := take_ok' (k := k + 2) F1 hu1 (by omega) (total := ((a :: b :: r).length : Int)) (by simp; omega) (by simp; omega)
  obtain ⟨odd, M3, e3, hu3, ho⟩ := one_ok (k := k + 1) F1 F2 hu2 (by omega) (ds := odds text) (by simp) (by simp)
  obtain ⟨more, M4, e4, hu4, m1, m2⟩ := take_ok' (k := k + 2) F1 hu3 (by omega) (total := 6) (by decide) (by decide)
  obtain ⟨wd, M5, e5, hu5, hw⟩ := one_ok (k := k + 1) F1 F2 hu4 (by omega) (ds := [.str (Str.ofString "enter"), .str (Str.ofString "leave"), .str (Str.ofString "say"), .str (Str.ofString "ask"), .str (Str.ofString "told")]) (by simp) (by simp)
  have hw' : ∃ word, wd = .str word ∧ okS word := by
    simp only [List.mem_cons, List.not_mem_nil, or_false] at hw
    rcases hw with rfl | rfl | rfl | rfl | rfl <;> exact ⟨_, rfl, by decide +kernel, by decide +kernel⟩
  obtain ⟨word, rfl, hword⟩ := hw'
  refine ⟨nears a b r text spot.toNat odd more word, M5, ?_, hu5.le (by omega), nears_ask hr hl ht hword (odd_leaf ht ho) ⟨m1, m2⟩, by simp [nears]⟩
  obtain ⟨sp, rfl⟩ : ∃ sp : Nat, spot = (sp : Int) := ⟨spot.toNat, by omega⟩
  have p1 : ∀ M, bopD M .Pow (.int 10) (.int 30) = some (.int (10 ^ 30)) := fun M => pow_ok (by decide +kernel) rfl
  have c1 : cutL (a :: b :: r) (some 1) none = b :: r := cut_drop 1
  have c2 : cutL (a :: b :: r) (some 2) none = r := cut_drop 2
  have c3 : cutL (a :: b :: r) none (some (-1)) = (a :: b :: r).dropLast := by
    match r, hr with
    | [], _ => rfl
    | [_], _ => rfl
  have c4 : cutL (a :: b :: r) none (some (sp : Int)) = (a :: b :: r).take sp := cut_take sp
  have c5 : cutL (a :: b :: r) (some ((sp : Int) + 1)) none = (a :: b :: r).drop (sp + 1) := cut_drop (sp + 1)
  have le : (a :: b :: r).length ≤ 3 := by simp; omega
  have at1r : atI (a :: b :: r) 1 = some b := by
    rw [at_nat (by decide) (by simp; omega)]
    rfl
  have add3 : ∀ p q : List Dv.D, p.length ≤ 100 → q.length ≤ 100 → ∀ M, bopD M .Add (.tup p) (.tup q) = some (.tup (p ++ q)) := fun p q hp hq M => add_tup (by omega)
  have s1 : xc (Phi tb (k + 3)) tb q14_0 [some (.loc n), some (.tup (a :: b :: r)), none, none, none, none, none] M = .nx [some (.loc n), some (.tup (a :: b :: r)), some (.str text), some (.int sp), none, none, none] M2 := by
    unfold q14_0
    rw [xc_par]
    simp only [ev_call, evs_cons, evs_nil, ev_var, ev_blt, List.getElem?_cons_succ, List.getElem?_cons_zero, R.bnd_ok, e1, R.st_ok, len_tup, e2]
    rfl
  have s2 : xc (Phi tb (k + 3)) tb q14_1 [some (.loc n), some (.tup (a :: b :: r)), some (.str text), some (.int sp), none, none, none] M2 = .nx [some (.loc n), some (.tup (a :: b :: r)), some (.str text), some (.int sp), some odd, none, none] M3 := by
    unfold q14_1
    rw [xc_set]
    simp only [ev_call, ev_lst, ev_tup0, ev_tup1, ev_tup2, ev_tup3, ev_cst, ev_neg, ev_bop, ev_dis, cst_int, cst_str, cst_bool, cst_none, R.of_some, evs_cons, evs_nil, ev_var, List.getElem?_cons_succ, List.getElem?_cons_zero, R.bnd_ok, p1]
    simp only [R.bnd_ok, mkL_nil]
    rw [mkL_few (by simp)]
    simp only [R.bnd_ok]
    rw [e3]
    rfl
  have s3 : xc (Phi tb (k + 3)) tb q14_2 [some (.loc n), some (.tup (a :: b :: r)), some (.str text), some (.int sp), some odd, none, none] M3 =
      .nx [some (.loc n), some (.tup (a :: b :: r)), some (.str text), some (.int sp), some odd, some (.lst [.tup (a :: b :: r), .lst (a :: b :: r), .tup ((a :: b :: r) ++ [.int more]), .tup (b :: r), .tup (a :: b :: r).dropLast, .tup [.tup (a :: b :: r)], a, .tup (a :: b :: r).reverse]), none] M4 := by
    unfold q14_2
    rw [xc_set]
    simp only [ev_call, ev_lst, ev_tup0, ev_tup1, ev_tup2, ev_tup3, ev_cst, ev_neg, ev_bop, ev_blt, ev_slc, ev_sub, ev_rev, evO_none, evO_some, cst_int, R.of_some, evs_cons, evs_nil, ev_var, List.getElem?_cons_succ, List.getElem?_cons_zero, R.bnd_ok, list_tup]
    rw [mkL_few (by omega)]
    simp only [R.bnd_ok, e4]
    rw [add3 _ _ (by omega) (by simp)]
    simp only [R.of_some, R.bnd_ok, slc_tup, c1, c3, sub_tup, at0]
    rw [mkL_few (by simp)]
    rfl
  have s4 : xc (Phi tb (k + 3)) tb q14_3 [some (.loc n), some (.tup (a :: b :: r)), some (.str text), some (.int sp), some odd, some (.lst [.tup (a :: b :: r), .lst (a :: b :: r), .tup ((a :: b :: r) ++ [.int more]), .tup (b :: r), .tup (a :: b :: r).dropLast, .tup [.tup (a :: b :: r)], a, .tup (a :: b :: r).reverse]), none] M4 =
      .nx [some (.loc n), some (.tup (a :: b :: r)), some (.str text), some (.int sp), some odd, some (.lst ([.tup (a :: b :: r), .lst (a :: b :: r), .tup ((a :: b :: r) ++ [.int more]), .tup (b :: r), .tup (a :: b :: r).dropLast, .tup [.tup (a :: b :: r)], a, .tup (a :: b :: r).reverse] ++
        [.tup ((a :: b :: r).take sp ++ [odd] ++ (a :: b :: r).drop (sp + 1)), .tup ((a :: b :: r) ++ [odd]), .tup ([a, .str text] ++ r), odd])), none] M4 := by
    unfold q14_3
    rw [xc_set]
    have l1 : ((a :: b :: r).take sp).length ≤ 100 := by rw [List.length_take]; omega
    have l2 : ((a :: b :: r).drop (sp + 1)).length ≤ 100 := by rw [List.length_drop]; omega
    simp only [ev_lst, ev_tup0, ev_tup1, ev_tup2, ev_tup3, ev_cst, ev_bop, ev_slc, ev_sub, evO_none, evO_some, cst_int, R.of_some, evs_cons, evs_nil, ev_var, List.getElem?_cons_succ, List.getElem?_cons_zero, R.bnd_ok, slc_tup, c4, c2, sub_tup, at0, add_ok, c5]
    rw [add3 _ _ l1 (by simp)]
    simp only [R.of_some, R.bnd_ok]
    rw [add3 _ _ (by simp; omega) l2]
    simp only [R.of_some, R.bnd_ok]
    rw [add3 (a :: b :: r) [odd] (by omega) (by simp)]
    simp only [R.of_some, R.bnd_ok]
    rw [add3 [a, .str text] r (by simp) (by omega)]
    simp only [R.of_some, R.bnd_ok]
    rw [mkL_few (by simp)]
    simp only [R.bnd_ok]
    rw [add_lst (by simp)]
    rfl
  have s5 : ∀ z, xc (Phi tb (k + 3)) tb q14_4 [some (.loc n), some (.tup (a :: b :: r)), some (.str text), some (.int sp), some odd, z, none] M4 = .nx [some (.loc n), some (.tup (a :: b :: r)), some (.str text), some (.int sp), some odd, z, some (.str word)] M5 := fun z => by
    unfold q14_4
    rw [xc_set]
    simp only [ev_call, ev_lst, ev_cst, cst_str, R.of_some, evs_cons, evs_nil, ev_var, List.getElem?_cons_succ, List.getElem?_cons_zero, R.bnd_ok]
    rw [mkL_few (by simp)]
    simp only [R.bnd_ok, e5]
    rfl
  have s6 : ∀ vs : List Dv.D, vs.length ≤ 100 → xc (Phi tb (k + 3)) tb q14_5 [some (.loc n), some (.tup (a :: b :: r)), some (.str text), some (.int sp), some odd, some (.lst vs), some (.str word)] M5 = .rt (.lst (vs ++ [.tup ([.str word] ++ b :: r), .tup [.str word], .tup [.str word, b, b], .tup [.str word, b, .bl true]])) M5 := fun vs hvs => by
    unfold q14_5
    rw [xc_ret]
    simp only [ev_lst, ev_tup0, ev_tup1, ev_tup2, ev_tup3, ev_cst, ev_bop, ev_slc, ev_sub, evO_none, evO_some, cst_int, cst_bool, R.of_some, evs_cons, evs_nil, ev_var, List.getElem?_cons_succ, List.getElem?_cons_zero, R.bnd_ok, slc_tup, c1, sub_tup, at1r]
    rw [add3 [.str word] (b :: r) (by simp) (by simp; omega)]
    simp only [R.of_some, R.bnd_ok]
    rw [mkL_few (by simp)]
    simp only [R.bnd_ok]
    rw [add_lst (by simp; omega)]
    rfl
  rw [phi_run F14 rfl, b14_eq]
  show fin true M.length (xs (Phi tb (k + 3)) tb [q14_0, q14_1, q14_2, q14_3, q14_4, q14_5] [some (.loc n), some (.tup (a :: b :: r)), none, none, none, none, none] M) = _
  simp only [xs_cons, s1, s2, s3, s4, s5]
  rw [s6 _ (by simp)]
  rfl
end
end L2.Dv.K01
namespace L2.Dv.K01
open PySem PySem.Spec PyProof.Rows
abbrev F15 : IsFn tb 15 1 6 true b15 := ⟨⟨f15, rfl, rfl, rfl, rfl, rfl⟩⟩
abbrev F16 : IsFn tb 16 1 6 true b16 := ⟨⟨f16, rfl, rfl, rfl, rfl, rfl⟩⟩
theorem line_facts {l : List Dv.D} (h : Line l) : ∃ a x r, l = a :: .str x :: r ∧ r.length ≤ 1 ∧ (∀ d ∈ l, flat0 d) ∧ ln (.tup l) = true ∧ nm (.str x) = true ∧ okS x ∧ x.length ≤ 8 ∧ ∀ c ∈ x.cps.toList, low c = true := by
  obtain ⟨x, ⟨h1, h2, h3⟩, h⟩ := h
  have hx : okS x := ascii_ok (fun c hc => by have := h3 c hc; unfold low at this; simp at this; omega) (by omega)
  have hn : nm (.str x) = true := by
    simp only [nm, Bool.and_eq_true, decide_eq_true_eq, List.all_eq_true]
    exact ⟨⟨h1, h2⟩, h3⟩
  have w : ∀ y : Str, (y.length ≤ 100 ∧ PyData.strOk y = true) → flat0 (.str y) := fun y hy => flat_str hy
  have two : ∀ a : Str, (a.length ≤ 100 ∧ PyData.strOk a = true) → ∀ d ∈ [Dv.D.str a, .str x], flat0 d := fun a ha d hd => by
    simp only [List.mem_cons, List.not_mem_nil, or_false] at hd
    rcases hd with rfl | rfl
    · exact w a ha
    · exact flat_str hx
  have three : ∀ (a : Str) (i : Int), (a.length ≤ 100 ∧ PyData.strOk a = true) → (0 ≤ i ∧ i < 4) → ∀ d ∈ [Dv.D.str a, .str x, .int i], flat0 d := fun a i ha hi d hd => by
    simp only [List.mem_cons, List.not_mem_nil, or_false] at hd
    rcases hd with rfl | rfl | rfl
    · exact w a ha
    · exact flat_str hx
    · exact flat_int (by omega)
  rcases h with rfl | rfl | rfl | ⟨i, i1, i2, rfl | rfl⟩
  · exact ⟨_, x, [], rfl, by simp, two _ ⟨by decide +kernel, by decide +kernel⟩, by simp [ln, hn, isS], hn, hx, h2, h3⟩
  · exact ⟨_, x, [], rfl, by simp, two _ ⟨by decide +kernel, by decide +kernel⟩, by simp [ln, hn, isS], hn, hx, h2, h3⟩
  · exact ⟨_, x, [], rfl, by simp, two _ ⟨by decide +kernel, by decide +kernel⟩, by simp [ln, hn, isS], hn, hx, h2, h3⟩
  · exact ⟨_, x, _, rfl, by simp, three _ i ⟨by decide +kernel, by decide +kernel⟩ ⟨i1, i2⟩, by simp [ln, hn, isS, below, i1, i2], hn, hx, h2, h3⟩
  · exact ⟨_, x, _, rfl, by simp, three _ i ⟨by decide +kernel, by decide +kernel⟩ ⟨i1, i2⟩, by simp [ln, hn, isS, below, i1, i2], hn, hx, h2, h3⟩
theorem val_str {d : Dv.D} (h : Val d) : (∃ x, d = .str x ∧ okS x) ∨ ((∀ x, d ≠ .str x) ∧ isiD d (.bt "str") = some false) := by
  cases h with
  | leaf h => exact leaf_str h
  | tup _ _ => exact .inr ⟨(fun x z => by cases z), isi_tup_str⟩
  | lst _ _ => exact .inr ⟨(fun x z => by cases z), isi_lst_str⟩
  | one _ _ => exact .inr ⟨(fun x z => by cases z), isi_tup_str⟩
theorem ne_str {M : Mem} {x : Str} : cmpD M .NotEq (.str x) (.str x) = some false := by
  show neD M (.str x) (.str x) = _
  simp [neD]
theorem is_bl {M : Mem} {x y : Bool} : cmpD M .Is (.bl x) (.bl y) = some (decide (x = y)) := rfl
def lits : List Dv.D := [.non, .int 0, .bl true, .tup [], .lst [], .dic [] [], .str (Str.ofString ""), .str (Str.ofString "abcdefgh"), .str (Str.ofString "abcdefghi"), .str (Str.ofString "a"), .str (Str.ofString "z"), .str (Str.ofString "aZ"), .str (Str.ofString "say"), .str (Str.ofString "mirror\n"), .int 7]
theorem lits_ask : ∀ v ∈ lits, Ask v := fun v h => ask_leaf (by
  simp only [lits, List.mem_cons, List.not_mem_nil, or_false] at h
  rcases h with rfl | rfl | rfl | rfl | rfl | rfl | rfl | rfl | rfl | rfl | rfl | rfl | rfl | rfl | rfl
  · exact trivial
  · exact ⟨by decide, by decide⟩
  · exact trivial
  · exact .inl rfl
  · exact rfl
  · exact ⟨rfl, rfl⟩
  · exact ⟨by decide +kernel, by decide +kernel⟩
  · exact ⟨by decide +kernel, by decide +kernel⟩
  · exact ⟨by decide +kernel, by decide +kernel⟩
  · exact ⟨by decide +kernel, by decide +kernel⟩
  · exact ⟨by decide +kernel, by decide +kernel⟩
  · exact ⟨by decide +kernel, by decide +kernel⟩
  · exact ⟨by decide +kernel, by decide +kernel⟩
  · exact ⟨by decide +kernel, by decide +kernel⟩
  · exact ⟨by decide, by decide⟩)
section
variable {k n C : Nat} {M M0 : Mem}
def body15 : List Dv.S := [.set (.nm 5) (.blt .repr [.var 4]), .ite (.cmp (.blt .repr [.lst true [.call 8 [.var 4], .call 9 [.var 4]]]) .NotEq (.blt .repr [.lst true [.call 10 [.var 4], .call 11 [.var 4]]])) [.ret (.cst (.bool false))] [], .ite (.boo false [.cmp (.blt .repr [.var 4]) .NotEq (.var 5), .cmp (.blt .repr [.call 9 [.var 4]]) .NotEq (.blt .repr [.call 11 [.var 4]])]) [.ret (.cst (.bool false))] []]
theorem turn_ok {d : Dv.D} (h : Ask d) {o0 o1 o2 o3 o5 : Option Dv.D} : ∃ s, xs (Phi tb (k + 4)) tb body15 [o0, o1, o2, o3, some d, o5] M = .nx [o0, o1, o2, o3, some d, some (.str s)] M := by
  obtain ⟨s, hs⟩ := h.2
  have n1 := is_name_ok (k := k + 3) (M := M) (val_str h.1)
  have n2 := law_is_name_ok (k := k + 3) (M := M) (val_str h.1)
  have l1 := is_line_ok (k := k + 1) (M := M) h.1
  have l2 := law_is_line_ok (k := k + 2) (M := M) h.1
  obtain ⟨s2, hs2⟩ := shows_lst (ds := [.bl (nm d), .bl (ln d)]) (by simp [leaf]) (by simp) (by simp [isDic])
  obtain ⟨s3, hs3⟩ := shows_leaf (d := .bl (ln d)) trivial
  have r : ∀ (d : Dv.D) (s : Str), reprD M d = some s → bltD .repr [d] M = .ok (.str s) M := fun d s e => by
    simp [bltD, e]
  refine ⟨s, ?_⟩
  unfold body15
  simp only [xs_cons, xc_set, ev_blt, evs_cons, evs_nil, ev_var, List.getElem?_cons_succ, List.getElem?_cons_zero, R.bnd_ok, r _ _ (hs M), R.st_ok, put_nm, List.set_cons_succ, List.set_cons_zero, xc_ite, tst_cmp, ev_lst, ev_call, n1, n2, l1, l2, mkL_few (show [Dv.D.bl (nm d), .bl (ln d)].length ≤ 1000 by simp), r _ _ (hs2 M), ne_str, R.of_some, tst_boo, evTs_cons, evTs_one, r _ _ (hs3 M), if_true, Bool.false_eq_true, if_false, xs_nil]
theorem right_ok (hu : Urn n C M0 M) (hC : C + 100 < 1000000) : ∃ M', Phi tb (k + 5) 15 [.loc n] M = .ok (.bl true) M' ∧ Urn n (C + 100) M0 M' := by
  obtain ⟨l, M1, e1, hu1, hl⟩ := line_ok (k := k + 1) hu (by omega)
  obtain ⟨a, x, r, rfl, hr, hf, hln, hnm, hx, hx8, hlow⟩ := line_facts hl
  obtain ⟨vs, M2, e2, hu2, hvs, hvl⟩ := near_ok (k := k) hu1 (by omega) hr hf
  obtain ⟨ts, M3, e3, hts, hp, hu3⟩ := foldC_draw (N := 4) (f := lcF (Phi tb (k + 4)) tb (.call 12 [.var 0]) (.nm 3) [] [3] [some (.loc n), some (.tup (a :: .str x :: r)), none, none, none, none]) (I := fun i M => Urn n (C + 11 + 16 + 12 * i) M0 M) (P := fun z => ∃ y, z = .str y ∧ okS y)
    (xs := (List.range 4).map fun (i : Nat) => Dv.D.int (i : Int)) (acc := []) (i := 0) (M := M2) (fun x i M _ hi hI => by
      obtain ⟨y, M', e, hu', hy⟩ := text_ok (k := k + 1) hI (by omega)
      exact ⟨_, M', by simp [lcF, wipeD, e], ⟨y, rfl, hy⟩, hu'⟩) (by simp [sizeLine]) (by simp) (by simpa using hu2)
  simp only [List.nil_append] at e3
  have hts4 : ts.length = 4 := by simpa using hts
  obtain ⟨y, M4, e4, hu4, y1, y2, y3⟩ := name_ok (k := k + 2) F1 F4 hu3 (by simp; omega)
  have hy : okS y := ascii_ok (fun c hc => by have := y3 c hc; unfold low at this; simp at this; omega) (by omega)
  have la : (Str.ofString "a").length = 1 := by decide +kernel
  have hxa : okS (x ++ Str.ofString "a") := ascii_ok (fun c hc => by
    have e : (x ++ Str.ofString "a").cps.toList = x.cps.toList ++ (Str.ofString "a").cps.toList := by
      show (x.cps ++ (Str.ofString "a").cps).toList = _
      simp
    rw [e] at hc
    rcases List.mem_append.mp hc with hc | hc
    · have := hlow c hc
      unfold low at this
      simp at this
      omega
    · have q : ∀ c ∈ (Str.ofString "a").cps.toList, c < 128 := by decide +kernel
      exact q c hc) (by rw [Str.length_append]; omega)
  have hadd : bopD M4 .Add (.str x) (.str (Str.ofString "a")) = some (.str (x ++ Str.ofString "a")) := add_str (Nat.le_trans (by omega : x.length + (Str.ofString "a").length ≤ 9) (by decide))
  have at1r : atI (a :: Dv.D.str x :: r) 1 = some (.str x) := by
    rw [at_nat (by decide) (by simp; omega)]
    rfl
  obtain ⟨all, hall⟩ : ∃ all, all = vs ++ ts ++ [.str y, .str (x ++ Str.ofString "a")] ++ lits := ⟨_, rfl⟩
  have asks : ∀ v ∈ all, Ask v := fun v hv => by
    rw [hall] at hv
    simp only [List.mem_append, List.mem_cons, List.not_mem_nil, or_false] at hv
    rcases hv with ((hv | hv) | rfl | rfl) | hv
    · exact hvs v hv
    · obtain ⟨z, rfl, hz⟩ := hp v hv
      exact ask_leaf hz
    · exact ask_leaf hy
    · exact ask_leaf hxa
    · exact lits_ask v hv
  have s0 : xc (Phi tb (k + 4)) tb q15_0 [some (.loc n), none, none, none, none, none] M = .nx [some (.loc n), some (.tup (a :: .str x :: r)), none, none, none, none] M1 := by
    unfold q15_0
    rw [xc_set]
    simp only [ev_call, evs_cons, evs_nil, ev_var, List.getElem?_cons_succ, List.getElem?_cons_zero, R.bnd_ok, e1]
    rfl
  have s1 : xc (Phi tb (k + 4)) tb q15_1 [some (.loc n), some (.tup (a :: .str x :: r)), none, none, none, none] M1 = .nx [some (.loc n), some (.tup (a :: .str x :: r)), some (.lst (vs ++ ts ++ [.str y, .str (x ++ Str.ofString "a")])), none, none, none] M4 := by
    unfold q15_1
    rw [xc_set]
    simp only [ev_bop, ev_call, ev_lc, ev_lst, ev_sub, wlk_rng1, ev_cst, cst_int, cst_str, R.of_some, evs_cons, evs_nil, ev_var, List.getElem?_cons_succ, List.getElem?_cons_zero, R.bnd_ok, e2]
    rw [if_pos (by decide)]
    simp only [R.bnd_ok]
    rw [show (4 : Int).toNat = 4 from rfl, e3]
    simp only [R.bnd_ok]
    rw [mkL_few (by omega)]
    simp only [R.bnd_ok]
    rw [add_lst (by omega)]
    simp only [R.of_some, R.bnd_ok, e4, sub_tup, at1r, hadd]
    rw [mkL_few (by simp)]
    simp only [R.bnd_ok]
    rw [add_lst (by simp; omega)]
    rfl
  have s2 : xc (Phi tb (k + 4)) tb q15_2 [some (.loc n), some (.tup (a :: .str x :: r)), some (.lst (vs ++ ts ++ [.str y, .str (x ++ Str.ofString "a")])), none, none, none] M4 = .nx [some (.loc n), some (.tup (a :: .str x :: r)), some (.lst all), none, none, none] M4 := by
    unfold q15_2
    rw [xc_set]
    simp only [ev_bop, ev_lst, ev_tup0, ev_dis, ev_cst, cst_int, cst_str, cst_bool, cst_none, R.of_some, evs_cons, evs_nil, ev_var, List.getElem?_cons_succ, List.getElem?_cons_zero, R.bnd_ok, mkL_nil]
    rw [mkL_few (by simp)]
    simp only [R.bnd_ok]
    rw [add_lst (by simp; omega)]
    rw [hall]
    rfl
  obtain ⟨ρ5, M5, e5, hI5⟩ := loopF_inv (N := all.length) (g := fun d ρ M => match (Tg.nm 4).put d ρ with | some ρ' => xs (Phi tb (k + 4)) tb body15 ρ' M | none => .bad) (I := fun _ ρ M => M = M4 ∧ ∃ z4 z5, ρ = [some (.loc n), some (.tup (a :: .str x :: r)), some (.lst all), none, z4, z5])
    (xs := all) (i := 0) (ρ := [some (.loc n), some (.tup (a :: .str x :: r)), some (.lst all), none, none, none]) (M := M4) (fun d i ρ M hd _ hI => by
      obtain ⟨rfl, z4, z5, rfl⟩ := hI
      obtain ⟨s, e⟩ := turn_ok (k := k) (M := M) (asks d hd) (o0 := some (.loc n)) (o1 := some (.tup (a :: .str x :: r))) (o2 := some (.lst all)) (o3 := none) (o5 := z5)
      exact ⟨_, M, .inl e, rfl, _, _, rfl⟩) (by simp) ⟨rfl, none, none, rfl⟩
  obtain ⟨rfl, z4, z5, rfl⟩ := hI5
  have s3 : xc (Phi tb (k + 4)) tb q15_3 [some (.loc n), some (.tup (a :: .str x :: r)), some (.lst all), none, none, none] M5 = .nx [some (.loc n), some (.tup (a :: .str x :: r)), some (.lst all), none, z4, z5] M5 := by
    unfold q15_3
    rw [xc_fr, wlk_var]
    simp only [ev_var, List.getElem?_cons_succ, List.getElem?_cons_zero, R.bnd_ok, itD, R.of_some, R.st_ok]
    exact e5
  have s4 : xc (Phi tb (k + 4)) tb q15_4 [some (.loc n), some (.tup (a :: .str x :: r)), some (.lst all), none, z4, z5] M5 = .rt (.bl true) M5 := by
    have l1 := is_line_ok (k := k + 1) (M := M5) (d := .tup (a :: .str x :: r)) (.tup (fun d hd => (hf d hd).1) (by simp; omega))
    have n1 := is_name_ok (k := k + 3) (M := M5) (d := .str x) (.inl ⟨x, rfl, hx⟩)
    rw [hln] at l1
    rw [hnm] at n1
    unfold q15_4
    rw [xc_ret]
    simp only [ev_boo, evB_cons, evB_one, ev_cmp, ev_call, ev_sub, ev_cst, cst_bool, cst_int, R.of_some, evs_cons, evs_nil, ev_var, List.getElem?_cons_succ, List.getElem?_cons_zero, R.bnd_ok, l1, sub_tup, at1r, n1, is_bl, Option.map_some, tru_bl]
    rfl
  refine ⟨M5, ?_, hu4.le (by simp)⟩
  rw [phi_run F15 rfl, b15_eq]
  show fin true M.length (xs (Phi tb (k + 4)) tb [q15_0, q15_1, q15_2, q15_3, q15_4] [some (.loc n), none, none, none, none, none] M) = _
  simp only [xs_cons, s0, s1, s2, s3, s4]
  rfl

/-! ### the law -/
def body16 : List Dv.S := [.set (.nm 2) (.call 0 [.var 0, .var 1]), .fr (.nm 3) (.rng [.cst (.int 4)]) [.ite (.not (.call 15 [.var 2])) [.ret (.cst (.bool false))] []]]
def inner16 : List Dv.S := [.ite (.not (.call 15 [.var 2])) [.ret (.cst (.bool false))] []]
theorem round_ok {ns : List Int} {i : Int} (h0 : 0 ≤ i) (h1 : i < 1000) {o2 o3 o4 o5 : Option Dv.D} : ∃ o2' o3' M', xs (Phi tb (k + 5)) tb body16 [some (.ro (ns.map D.int)), some (.int i), o2, o3, o4, o5] M = .nx [some (.ro (ns.map D.int)), some (.int i), o2', o3', o4, o5] M' := by
  obtain ⟨u, e, g⟩ := urn_ok (k := k + 4) (M := M) F0 (ns := ns) h0 h1
  obtain ⟨ρ5, M5, e5, hI5⟩ := loopF_inv (N := 4) (g := fun d ρ M => match (Tg.nm 3).put d ρ with | some ρ' => xs (Phi tb (k + 5)) tb inner16 ρ' M | none => .bad)
    (I := fun j ρ N => Urn M.length (100 * j) (M ++ [some (.lst u)]) N ∧ ∃ z3, ρ = [some (.ro (ns.map D.int)), some (.int i), some (.loc M.length), z3, o4, o5])
    (xs := (List.range 4).map fun (i : Nat) => Dv.D.int (i : Int)) (i := 0) (ρ := [some (.ro (ns.map D.int)), some (.int i), some (.loc M.length), o3, o4, o5]) (M := M ++ [some (.lst u)]) (fun d j ρ N hd hj hI => by
      obtain ⟨hU, z3, rfl⟩ := hI
      obtain ⟨N', e, hU'⟩ := right_ok (k := k) hU (by omega)
      refine ⟨[some (.ro (ns.map D.int)), some (.int i), some (.loc M.length), some d, o4, o5], N', .inl ?_, by rw [Nat.mul_add, Nat.mul_one]; exact hU', _, rfl⟩
      unfold inner16
      simp only [put_nm, List.set_cons_succ, List.set_cons_zero, xs_cons, xs_nil, xc_ite, tst_not, tst_call, ev_call, evs_cons, evs_nil, ev_var, List.getElem?_cons_succ, List.getElem?_cons_zero, R.bnd_ok, e, tru_bl, R.of_some, R.st_ok, Bool.not_true, Bool.false_eq_true, if_false])
    (by simp) ⟨⟨u, by
      apply List.ext_getElem?
      intro j
      by_cases hj : M.length = j
      · subst hj
        rw [List.getElem?_set_self (by simp)]
        simp
      · rw [List.getElem?_set_ne hj], by simp, g⟩, o3, rfl⟩
  obtain ⟨_, z3, rfl⟩ := hI5
  refine ⟨some (.loc M.length), z3, M5, ?_⟩
  unfold body16
  rw [xs_cons, xc_set]
  simp only [ev_call, evs_cons, evs_nil, ev_var, List.getElem?_cons_succ, List.getElem?_cons_zero, R.bnd_ok, e, R.st_ok, put_nm, List.set_cons_succ, List.set_cons_zero]
  rw [xs_cons, xc_fr, wlk_rng1]
  simp only [ev_cst, cst_int, R.of_some, R.bnd_ok]
  rw [if_pos (by decide)]
  simp only [R.st_ok]
  rw [show (4 : Int).toNat = 4 from rfl]
  exact congrArg (fun z : RS => (match z with | .nx ρ1 M1 => RS.nx ρ1 M1 | o => o)) e5
def nums : List Dv.D := [.bl false, .bl true, .bl true, .bl true, .bl true, .bl false, .bl false]
theorem nums_ok {ρ : Env'} (h3 : ρ.length = 6) : foldC (lcF (Phi tb (k + 5)) tb (.call 9 [.tup [.cst (.str (Str.ofString "ask")), .cst (.str (Str.ofString "w")), .var 5]]) (.nm 5) [] [5] ρ) [.int (-1), .int 0, .int 1, .int 2, .int 3, .int 4, .int 5] [] M = .ok nums M := by
  have ha : leaf (.str sAsk) := ⟨by decide +kernel, by decide +kernel⟩
  have hw : leaf (.str (Str.ofString "w")) := ⟨by decide +kernel, by decide +kernel⟩
  have hn : nm (.str (Str.ofString "w")) = true := by decide +kernel
  have one : ∀ d ∈ [Dv.D.int (-1), .int 0, .int 1, .int 2, .int 3, .int 4, .int 5], lcF (Phi tb (k + 5)) tb (.call 9 [.tup [.cst (.str (Str.ofString "ask")), .cst (.str (Str.ofString "w")), .var 5]]) (.nm 5) [] [5] ρ d M = .ok (some (.bl (below d))) M := fun d hd => by
    have hl : leaf d := by
      simp only [List.mem_cons, List.not_mem_nil, or_false] at hd
      rcases hd with rfl | rfl | rfl | rfl | rfl | rfl | rfl <;> exact ⟨by decide, by decide⟩
    have l := is_line_ok (k := k + 2) (M := M) (d := .tup [.str sAsk, .str (Str.ofString "w"), d]) (.tup (fun z hz => by
      simp only [List.mem_cons, List.not_mem_nil, or_false] at hz
      rcases hz with rfl | rfl | rfl
      · exact ha
      · exact hw
      · exact hl) (by simp))
    have e : ln (.tup [.str sAsk, .str (Str.ofString "w"), d]) = below d := by
      simp [ln, isS, hn]
    rw [e] at l
    have g : (((wipeD ρ [5]).set 5 (some d))[5]?) = some (some d) := by
      show ((ρ.set 5 none).set 5 (some d))[5]? = _
      rw [List.set_set, List.getElem?_set_self (by omega)]
    simp only [lcF, put_nm, evF_nil, R.bnd_ok, ev_call, evs_cons, evs_nil, ev_tup3, ev_cst, cst_str, R.of_some, ev_var, g, l, if_true]
  rw [foldC_pure one (by simp [sizeLine])]
  rfl
theorem nums_eq : cmpD M .Eq (.lst nums) (.lst nums) = some true := by
  have e : toPyM M (.lst nums) = some (.list [.bool false, .bool true, .bool true, .bool true, .bool true, .bool false, .bool false]) := rfl
  show eqD M (.lst nums) (.lst nums) = _
  have c : (PyData.list [.bool false, .bool true, .bool true, .bool true, .bool true, .bool false, .bool false]).canLay0 = true := by simp [PyData.canLay0, PyData.canLayAll0]
  have dp : (PyData.list [.bool false, .bool true, .bool true, .bool true, .bool true, .bool false, .bool false]).depth = 1 := by simp [PyData.depth, PyData.depthAll]
  have q : PyData.eqv (.list [.bool false, .bool true, .bool true, .bool true, .bool true, .bool false, .bool false]) (.list [.bool false, .bool true, .bool true, .bool true, .bool true, .bool false, .bool false]) = true := by simp [PyData.eqv, PyData.eqvAll]
  simp only [eqD, e, c, dp, q, Bool.and_self]
  rfl
theorem law_run (ns : List Int) (hl : ns.length ≤ 63) : ∃ M', Phi tb (k + 6) 16 [.ro (ns.map D.int)] M = .ok (.bl true) M' := by
  obtain ⟨m, hm, hm0, hm2⟩ : ∃ m : Int, m = (if (if (ns.length : Int) < 10 then (ns.length : Int) else 10) > 1 then (if (ns.length : Int) < 10 then (ns.length : Int) else 10) else 1) ∧ 0 ≤ m ∧ m ≤ 10 := ⟨_, rfl, by split <;> omega, by split <;> split <;> omega⟩
  obtain ⟨ρ5, M5, e5, z1, z2, z3, rfl⟩ := loopF_inv (N := m.toNat) (g := fun d ρ M => match (Tg.nm 1).put d ρ with | some ρ' => xs (Phi tb (k + 5)) tb body16 ρ' M | none => .bad)
    (I := fun _ ρ _ => ∃ z1 z2 z3, ρ = [some (.ro (ns.map D.int)), z1, z2, z3, none, none])
    (xs := (List.range m.toNat).map fun (i : Nat) => Dv.D.int (i : Int)) (i := 0) (ρ := [some (.ro (ns.map D.int)), none, none, none, none, none]) (M := M) (fun d j ρ N hd hj hI => by
      obtain ⟨z1, z2, z3, rfl⟩ := hI
      obtain ⟨i, hi, rfl⟩ := List.mem_map.mp hd
      have hi := List.mem_range.mp hi
      obtain ⟨o2, o3, N', e⟩ := round_ok (k := k) (M := N) (ns := ns) (i := (i : Int)) (by omega) (by omega) (o2 := z2) (o3 := z3) (o4 := none) (o5 := none)
      exact ⟨_, N', .inl e, _, _, _, rfl⟩) (by simp) ⟨none, none, none, rfl⟩
  have s0 : xc (Phi tb (k + 5)) tb q16_0 [some (.ro (ns.map D.int)), none, none, none, none, none] M = .nx [some (.ro (ns.map D.int)), z1, z2, z3, none, none] M5 := by
    unfold q16_0
    rw [xc_fr, wlk_rng1]
    simp only [ev_blt, ev_cst, cst_int, R.of_some, evs_cons, evs_nil, ev_var, List.getElem?_cons_zero, R.bnd_ok, len_ro, List.length_map, min_int, max_int]
    rw [← hm, if_pos (by omega)]
    exact e5
  have s1 : xc (Phi tb (k + 5)) tb q16_1 [some (.ro (ns.map D.int)), z1, z2, z3, none, none] M5 = .nx [some (.ro (ns.map D.int)), z1, z2, z3, some (.lst nums), none] M5 := by
    unfold q16_1
    rw [xc_set, ev_lc, wlk_rng2]
    simp only [ev_neg, ev_cst, cst_int, R.of_some, R.bnd_ok]
    rw [if_pos (by decide)]
    simp only [R.bnd_ok]
    rw [show ((List.range ((6 : Int) - -1).toNat).map fun (k : Nat) => Dv.D.int (-1 + (k : Int))) = [.int (-1), .int 0, .int 1, .int 2, .int 3, .int 4, .int 5] from rfl, nums_ok (by rfl)]
    simp only [R.bnd_ok]
    rw [mkL_few (by simp [nums])]
    rfl
  have s2 : xc (Phi tb (k + 5)) tb q16_2 [some (.ro (ns.map D.int)), z1, z2, z3, some (.lst nums), none] M5 = .rt (.bl true) M5 := by
    have l := line_two (k := k + 2) (M := M5) (a := .str sAsk) (b := .str (Str.ofString "w")) ⟨by decide +kernel, by decide +kernel⟩ ⟨by decide +kernel, by decide +kernel⟩
    have e : ln (.tup [.str sAsk, .str (Str.ofString "w")]) = false := by decide +kernel
    rw [e] at l
    unfold q16_2
    rw [xc_ret]
    simp only [ev_boo, evB_cons, evB_one, ev_cmp, ev_lst, ev_call, ev_tup2, ev_cst, cst_bool, cst_str, R.of_some, evs_cons, evs_nil, ev_var, List.getElem?_cons_succ, List.getElem?_cons_zero, R.bnd_ok]
    rw [mkL_few (by simp)]
    simp only [R.bnd_ok]
    rw [show [Dv.D.bl false, .bl true, .bl true, .bl true, .bl true, .bl false, .bl false] = nums from rfl, nums_eq]
    simp only [Option.map_some, R.of_some, R.bnd_ok, tru_bl, if_true, l, is_bl]
    rfl
  refine ⟨M5, ?_⟩
  rw [phi_run F16 rfl, b16_eq]
  show fin true M.length (xs (Phi tb (k + 5)) tb [q16_0, q16_1, q16_2] [some (.ro (ns.map D.int)), none, none, none, none, none] M) = _
  simp only [xs_cons, s0, s1, s2]
  rfl
end
def deep : Nat := 6
theorem law_true (ns : List Int) (hl : ns.length ≤ 63) (_ : ∀ i ∈ ns, PySem.Builtin.Int.intBits i ≤ 1048576) : ∃ M, Phi tb deep 16 [.ro (ns.map D.int)] [] = .ok (.bl true) M := law_run (k := 0) ns hl
end L2.Dv.K01
open PySem PySem.W PyProof.Rows
set_option maxHeartbeats 0 in
theorem PySem.Challenge.cw_showncalls_k01_names_and_lines_holds : PySem.Challenge.rw_showncalls_k01_names_and_lines.Holds := by
  w_on; o_law; k_head; (case hw => w_witness2)
  k_fill
  refine L2.Dv.walk_dv (l := PySem.Challenge.rw_showncalls_k01_names_and_lines) (n := 63) (k := L2.Dv.K01.deep) (T := L2.Dv.K01.tb) (fL := 16) (eL := L2.Dv.K01.f16) rfl rfl rfl rfl (by decide) rfl ⟨rfl, by decide, by decide⟩ (fun w h Y => PySem.W.kIn_of Y) ?F L2.Dv.K01.law_true
  case F =>
    intro w mg h KX G
    refine' ⟨fun _ => none, L2.Dv.K01.fits KX G ?qa0 ?ql0 ?qc0 ?qk0 ?qa1 ?ql1 ?qc1 ?qk1 ?qa2 ?ql2 ?qc2 ?qk2 ?qa3 ?ql3 ?qc3 ?qk3 ?qa4 ?ql4 ?qc4 ?qk4 ?qa5 ?ql5 ?qc5 ?qk5 ?qa6 ?ql6 ?qc6 ?qk6 ?qa7 ?ql7 ?qc7 ?qk7 ?qa8 ?ql8 ?qc8 ?qk8 ?qa9 ?ql9 ?qc9 ?qk9 ?qa10 ?ql10 ?qc10 ?qk10 ?qa11 ?ql11 ?qc11 ?qk11 ?qa12 ?ql12 ?qc12 ?qk12 ?qa13 ?ql13 ?qc13 ?qk13 ?qa14 ?ql14 ?qc14 ?qk14 ?qa15 ?ql15 ?qc15 ?qk15 ?qa16 ?ql16 ?qc16 ?qk16 ?qg0 ?qg1 ?qg2 ?qg3 ?qz0 ?qz1 ?qz2 ?qz3 ?qz4 ?qz5 ?qz6 ?qz7 ?qz8 ?qz9 ?qz10 ?qz11 ?qz12 ?qz13 ?qz14 ?qz15 ?qz16 ?qz17 ?qz18 ?qz19⟩
    (case qa0 => k_is); (case ql0 => k_is); (case qc0 => k_is); (case qk0 => k_is); (case qa1 => k_is); (case ql1 => k_is); (case qc1 => k_is); (case qk1 => k_is)
    (case qa2 => k_is); (case ql2 => k_is); (case qc2 => k_is); (case qk2 => k_is); (case qa3 => k_is); (case ql3 => k_is); (case qc3 => k_is); (case qk3 => k_is)
    (case qa4 => k_is); (case ql4 => k_is); (case qc4 => k_is); (case qk4 => k_is); (case qa5 => k_is); (case ql5 => k_is); (case qc5 => k_is); (case qk5 => k_is)
    (case qa6 => k_is); (case ql6 => k_is); (case qc6 => k_is); (case qk6 => k_is); (case qa7 => k_is); (case ql7 => k_is); (case qc7 => k_is); (case qk7 => k_is)
    (case qa8 => k_is); (case ql8 => k_is); (case qc8 => k_is); (case qk8 => k_is); (case qa9 => k_is); (case ql9 => k_is); (case qc9 => k_is); (case qk9 => k_is)
    (case qa10 => k_is); (case ql10 => k_is); (case qc10 => k_is); (case qk10 => k_is); (case qa11 => k_is); (case ql11 => k_is); (case qc11 => k_is); (case qk11 => k_is)
    (case qa12 => k_is); (case ql12 => k_is); (case qc12 => k_is); (case qk12 => k_is); (case qa13 => k_is); (case ql13 => k_is); (case qc13 => k_is); (case qk13 => k_is)
    (case qa14 => k_is); (case ql14 => k_is); (case qc14 => k_is); (case qk14 => k_is); (case qa15 => k_is); (case ql15 => k_is); (case qc15 => k_is); (case qk15 => k_is)
    (case qa16 => k_is); (case ql16 => k_is); (case qc16 => k_is); (case qk16 => k_is); (case qg0 => k_is); (case qg1 => k_is); (case qg2 => k_is); (case qg3 => k_is)
    (case qz0 => k_is); (case qz1 => k_is); (case qz2 => k_is); (case qz3 => k_is); (case qz4 => k_is); (case qz5 => k_is); (case qz6 => k_is); (case qz7 => k_is)
    (case qz8 => k_is); (case qz9 => k_is); (case qz10 => k_is); (case qz11 => k_is); (case qz12 => k_is); (case qz13 => k_is); (case qz14 => k_is); (case qz15 => k_is)
    (case qz16 => k_is); (case qz17 => k_is); (case qz18 => k_is); (case qz19 => k_is)
