import PyProof.Rows.All
import HandS.Conv
import HandS.Evl
import HandS.ForExc
import HandS.ForMost
import HandS.IsInst
import HandS.Style
import HandS.TupLe
import HandS.Wide
import PySem.Challenge.RW_colonnade_k67_runs_merged
set_option Elab.async false
set_option linter.all false
set_option maxRecDepth 100000
set_option maxHeartbeats 2000000
/-! A layer over the heap's readings: what a def does is said of plain data, the heap is hidden. Own work. -/
namespace DL
open PySem PySem.Spec PyProof.Rows L2
open Evl (Ex ex_l ex_t)

/-! ### lists in pairs -/
section
variable {α β : Type} {G : α → β → Prop}
theorem P_get : ∀ {l : List α} {m : List β} {i : Nat} {b : β}, Paired G l m → m[i]? = some b → ∃ a, l[i]? = some a ∧ G a b
  | _, _, _, _, .nil, e => by simp at e
  | _, _, 0, _, .cons r _, e => by simp at e; subst e; exact ⟨_, rfl, r⟩
  | _, _, i + 1, b, .cons _ t, e => by
    obtain ⟨a, h1, h2⟩ := P_get (i := i) (b := b) t (by simpa using e)
    exact ⟨a, by simpa using h1, h2⟩
theorem P_getL : ∀ {l : List α} {m : List β} {i : Nat} {a : α}, Paired G l m → l[i]? = some a → ∃ b, m[i]? = some b ∧ G a b
  | _, _, _, _, .nil, e => by simp at e
  | _, _, 0, _, .cons r _, e => by simp at e; subst e; exact ⟨_, rfl, r⟩
  | _, _, i + 1, a, .cons _ t, e => by
    obtain ⟨b, h1, h2⟩ := P_getL (i := i) (a := a) t (by simpa using e)
    exact ⟨b, by simpa using h1, h2⟩
theorem P_len : ∀ {l : List α} {m : List β}, Paired G l m → l.length = m.length
  | _, _, .nil => rfl
  | _, _, .cons _ t => by rw [List.length_cons, List.length_cons, P_len t]
theorem P_app : ∀ {l l' : List α} {m m' : List β}, Paired G l m → Paired G l' m' → Paired G (l ++ l') (m ++ m')
  | _, _, _, _, .nil, s => s
  | _, _, _, _, .cons r t, s => .cons r (P_app t s)
theorem P_take : ∀ {l : List α} {m : List β} (n : Nat), Paired G l m → Paired G (l.take n) (m.take n)
  | _, _, 0, _ => .nil
  | _, _, _ + 1, .nil => .nil
  | _, _, n + 1, .cons r t => .cons r (P_take n t)
theorem P_drop : ∀ {l : List α} {m : List β} (n : Nat), Paired G l m → Paired G (l.drop n) (m.drop n)
  | _, _, 0, r => r
  | _, _, _ + 1, .nil => .nil
  | _, _, n + 1, .cons _ t => P_drop n t
theorem P_set {a : α} {b : β} (r : G a b) : ∀ {l : List α} {m : List β} (i : Nat), Paired G l m → Paired G (l.set i a) (m.set i b)
  | _, _, _, .nil => .nil
  | _, _, 0, .cons _ t => .cons r t
  | _, _, i + 1, .cons q t => .cons q (P_set r i t)
theorem P_rev : ∀ {l : List α} {m : List β}, Paired G l m → Paired G l.reverse m.reverse
  | _, _, .nil => .nil
  | _, _, .cons r t => by
    rw [List.reverse_cons, List.reverse_cons]
    exact P_app (P_rev t) (.cons r .nil)
theorem P_erase : ∀ {l : List α} {m : List β} (i : Nat), Paired G l m → Paired G (l.eraseIdx i) (m.eraseIdx i)
  | _, _, _, .nil => .nil
  | _, _, 0, .cons _ t => t
  | _, _, i + 1, .cons q t => .cons q (P_erase i t)
theorem P_mono {G' : α → β → Prop} (k : ∀ a b, G a b → G' a b) : ∀ {l : List α} {m : List β}, Paired G l m → Paired G' l m
  | _, _, .nil => .nil
  | _, _, .cons r t => .cons (k _ _ r) (P_mono k t)
theorem P_rep {l : List α} {m : List β} (h : Paired G l m) : ∀ k : Nat, Paired G (List.replicate k l).flatten (List.replicate k m).flatten
  | 0 => .nil
  | k + 1 => by
    rw [List.replicate_succ, List.replicate_succ, List.flatten_cons, List.flatten_cons]
    exact P_app h (P_rep h k)
theorem P_dropLast {l : List α} {m : List β} (h : Paired G l m) : Paired G l.dropLast m.dropLast := by
  rw [List.dropLast_eq_take, List.dropLast_eq_take, P_len h]
  exact P_take _ h
theorem P_of : ∀ {l : List α} {m : List β}, l.length = m.length → (∀ (i : Nat) (a : α) (b : β), l[i]? = some a → m[i]? = some b → G a b) → Paired G l m
  | [], [], _, _ => .nil
  | [], _ :: _, h, _ => by simp at h
  | _ :: _, [], h, _ => by simp at h
  | a :: l, b :: m, h, k => .cons (k 0 a b rfl rfl) (P_of (by simpa using h) fun i x y e1 e2 => k (i + 1) x y (by simpa using e1) (by simpa using e2))
theorem P_insert {a : α} {b : β} (r : G a b) : ∀ {l : List α} {m : List β} (i : Nat), Paired G l m → Paired G (l.take i ++ a :: l.drop i) (m.take i ++ b :: m.drop i) := fun i h =>
  P_app (P_take i h) (.cons r (P_drop i h))
end

/-! ### data -/
inductive D where
  | non | bl (b : Bool) | int (i : Int) | str (x : Str) | ref (a : Addr) | ty (n : String)
  | lst (xs : List D) | tup (xs : List D) | obj (C : Addr) (fs : List (Str × D)) | dct (kvs : List (Key × D))
  /-- the law's own script -/
  | scr (ns : List Int)
  /-- a thing that is newer than the line that was drawn -/
  | fr (d : D)

/-- the kit's fragment, and the addresses that were there before -/
structure KZ where
  fr : PySem.W.Frag
  z : Addr → Prop
instance : Coe KZ PySem.W.Frag := ⟨KZ.fr⟩
mutual
/-- v is the data d, all of it read off F -/
inductive Rp (K : KZ) (F : Hp) : V → D → Prop
  | non : Rp K F .non .non
  | bl (b : Bool) : Rp K F (.bl b) (.bl b)
  | int (i : Int) : Rp K F (.int i) (.int i)
  | str (x : Str) : Rp K F (.str x) (.str x)
  | ref (a : Addr) : Rp K F (.ref a) (.ref a)
  | ty (n : String) : Rp K F (.ty n) (.ty n)
  | lst {a : Addr} {vs : List V} {ds : List D} : F a = some (.lst vs) → RpAll K F vs ds → Rp K F (.ref a) (.lst ds)
  | scr {a : Addr} {ns : List Int} : SqL K.fr F a (ns.map V.int) → Rp K F (.ref a) (.scr ns)
  | tup {a : Addr} {vs : List V} {ds : List D} : SqT K.fr F a vs → RpAll K F vs ds → Rp K F (.ref a) (.tup ds)
  | obj {a C dx : Addr} {fv : List (Str × V)} {fs : List (Str × D)} : F a = some (.ins C dx fv) → F dx = some (.own a) → RpFs K F fv fs → Rp K F (.ref a) (.obj C fs)
  | dct {a : Addr} {kv : List (Key × V)} {kd : List (Key × D)} : F a = some (.dK kv) → RpKs K F kv kd → Rp K F (.ref a) (.dct kd)
  | fr {a : Addr} {d : D} : ¬ K.z a → Rp K F (.ref a) d → Rp K F (.ref a) (.fr d)
inductive RpAll (K : KZ) (F : Hp) : List V → List D → Prop
  | nil : RpAll K F [] []
  | cons {v : V} {vs : List V} {d : D} {ds : List D} : Rp K F v d → RpAll K F vs ds → RpAll K F (v :: vs) (d :: ds)
inductive RpFs (K : KZ) (F : Hp) : List (Str × V) → List (Str × D) → Prop
  | nil : RpFs K F [] []
  | cons {n : Str} {v : V} {vs : List (Str × V)} {d : D} {ds : List (Str × D)} : Rp K F v d → RpFs K F vs ds → RpFs K F ((n, v) :: vs) ((n, d) :: ds)
inductive RpKs (K : KZ) (F : Hp) : List (Key × V) → List (Key × D) → Prop
  | nil : RpKs K F [] []
  | cons {n : Key} {v : V} {vs : List (Key × V)} {d : D} {ds : List (Key × D)} : Rp K F v d → RpKs K F vs ds → RpKs K F ((n, v) :: vs) ((n, d) :: ds)
end
section
variable {K : KZ} {F F' : Hp}
mutual
theorem Rp.mono (e : Ex F F') : ∀ {v : V} {d : D}, Rp K F v d → Rp K F' v d
  | _, _, .non => .non
  | _, _, .bl b => .bl b
  | _, _, .int i => .int i
  | _, _, .str x => .str x
  | _, _, .ref a => .ref a
  | _, _, .ty n => .ty n
  | _, _, .lst h a => .lst (e _ _ h) (RpAll.mono e a)
  | _, _, .scr h => .scr (ex_l e h)
  | _, _, .tup h a => .tup (ex_t e h) (RpAll.mono e a)
  | _, _, .obj h1 h2 a => .obj (e _ _ h1) (e _ _ h2) (RpFs.mono e a)
  | _, _, .dct h1 a => .dct (e _ _ h1) (RpKs.mono e a)
  | _, _, .fr n a => .fr n (Rp.mono e a)
theorem RpAll.mono (e : Ex F F') : ∀ {v : List V} {d : List D}, RpAll K F v d → RpAll K F' v d
  | _, _, .nil => .nil
  | _, _, .cons h t => .cons (Rp.mono e h) (RpAll.mono e t)
theorem RpFs.mono (e : Ex F F') : ∀ {v : List (Str × V)} {d : List (Str × D)}, RpFs K F v d → RpFs K F' v d
  | _, _, .nil => .nil
  | _, _, .cons h t => .cons (Rp.mono e h) (RpFs.mono e t)
theorem RpKs.mono (e : Ex F F') : ∀ {v : List (Key × V)} {d : List (Key × D)}, RpKs K F v d → RpKs K F' v d
  | _, _, .nil => .nil
  | _, _, .cons h t => .cons (Rp.mono e h) (RpKs.mono e t)
end
theorem RpAll.p : ∀ {vs : List V} {ds : List D}, RpAll K F vs ds → Paired (Rp K F) vs ds
  | _, _, .nil => .nil
  | _, _, .cons h t => .cons h (RpAll.p t)
theorem RpAll.of : ∀ {vs : List V} {ds : List D}, Paired (Rp K F) vs ds → RpAll K F vs ds
  | _, _, .nil => .nil
  | _, _, .cons h t => .cons h (RpAll.of t)
theorem RpAll.length {vs : List V} {ds : List D} (h : RpAll K F vs ds) : vs.length = ds.length := P_len h.p
end

/-! ### what is owned: it may still change -/
inductive OC where
  | lst (xs : List D) | ins (C : Addr) (fs : List (Str × D)) | dct (kvs : List (Key × D))
def OC.data : OC → D
  | .lst xs => .lst xs
  | .ins C fs => .obj C fs
  | .dct k => .dct k
/-- a name's slot: nothing known; data that stays; a thing that this def may change (of a parameter: some k) -/
inductive Sx where
  | no | val (d : D) | own (p : Option Nat) (c : OC)
/-- a result: data that stays; what stands in slot j; a new thing that nobody else holds -/
inductive RS where
  | val (d : D) | own (j : Nat) (c : OC) | new (c : OC)
def RS.data : RS → D
  | .val d => d
  | .own _ c => c.data
  | .new c => c.data
abbrev Env := List Sx
def look : Env → Nat → Sx
  | [], _ => .no
  | s :: _, 0 => s
  | _ :: γ, i + 1 => look γ i
def put : Env → Nat → Sx → Env
  | [], _, _ => []
  | _ :: γ, 0, t => t :: γ
  | s :: γ, i + 1, t => s :: put γ i t
theorem look_of : ∀ {γ : Env} {i : Nat} {s : Sx}, γ[i]? = some s → look γ i = s
  | [], _, _, h => by simp at h
  | _ :: _, 0, _, h => by simpa [look] using h
  | _ :: γ, i + 1, _, h => look_of (γ := γ) (i := i) (by simpa using h)
theorem of_look : ∀ {γ : Env} {i : Nat} {s : Sx}, look γ i = s → s ≠ .no → γ[i]? = some s
  | [], _, _, h, n => absurd h.symm n
  | _ :: _, 0, _, h, _ => by simpa [look] using h
  | _ :: γ, i + 1, _, h, n => by
    have := of_look (γ := γ) (i := i) h n
    simpa using this
theorem put_set : ∀ {γ : Env} {i : Nat} {s : Sx}, put γ i s = γ.set i s
  | [], _, _ => rfl
  | _ :: _, 0, _ => rfl
  | _ :: γ, i + 1, _ => by rw [put, put_set, List.set_cons_succ]
theorem put_len {γ : Env} {i : Nat} {s : Sx} : (put γ i s).length = γ.length := by rw [put_set, List.length_set]

/-- a base: N the heap at the def's entry, pa its parameters' things; F, H the heaps that later ones are held against, m what may have changed since -/
structure Bs where
  N : Hp
  pa : Nat → Option Addr
  F : Hp
  H : Hp
  m : List Addr
  z : Addr → Prop
  zn : ∀ a, z a → ∃ o, N a = some o
abbrev Bs.kz (B : Bs) (K : PySem.W.Frag) : KZ := ⟨K, B.z⟩

def OCok (K : PySem.W.Frag) (B : Bs) (F H : Hp) (a : Addr) : OC → Prop
  | .lst ds => ∃ vs, H a = some (.lst vs) ∧ RpAll (B.kz K) F vs ds
  | .ins C fs => ∃ dx fv, H a = some (.ins C dx fv) ∧ H dx = some (.own a) ∧ F dx = none ∧ (B.N a = none → B.N dx = none) ∧ (dx ∈ B.m ∨ B.H dx = none) ∧ RpFs (B.kz K) F fv fs
  | .dct kd => ∃ kv, H a = some (.dK kv) ∧ RpKs (B.kz K) F kv kd
def SlotOk (K : PySem.W.Frag) (B : Bs) (F H : Hp) (s : Option V) : Sx → Prop
  | .no => True
  | .val d => ∃ v, s = some v ∧ Rp (B.kz K) F v d
  | .own _ c => ∃ a, s = some (.ref a) ∧ F a = none ∧ OCok K B F H a c
/-- the kind of an object stays -/
def Kin : HO → HO → Prop
  | .ins C dx _, o => ∃ fs, o = .ins C dx fs
  | .lst _, o => ∃ xs, o = .lst xs
  | .dK _, o => ∃ xs, o = .dK xs
  | _, _ => True
theorem Kin.refl : ∀ o : HO, Kin o o
  | .ins _ _ fs => ⟨fs, rfl⟩
  | .lst xs => ⟨xs, rfl⟩
  | .dK xs => ⟨xs, rfl⟩
  | .tup _ => trivial | .dT _ => trivial | .set _ _ => trivial | .own _ => trivial | .xd _ => trivial | .met _ _ => trivial | .rng _ _ => trivial | .frz _ _ => trivial | .tbl _ => trivial | .ext _ => trivial
theorem Kin.trans : ∀ {a b c : HO}, Kin a b → Kin b c → Kin a c
  | .ins _ _ fs, _, _, ⟨_, rfl⟩, h => h
  | .lst xs, _, _, ⟨_, rfl⟩, h => h
  | .dK xs, _, _, ⟨_, rfl⟩, h => h
  | .tup _, _, _, _, _ => trivial | .dT _, _, _, _, _ => trivial | .set _ _, _, _, _, _ => trivial | .own _, _, _, _, _ => trivial | .xd _, _, _, _, _ => trivial | .met _ _, _, _, _, _ => trivial | .rng _ _, _, _, _, _ => trivial | .frz _ _, _, _, _, _ => trivial | .tbl _, _, _, _, _ => trivial | .ext _, _, _, _, _ => trivial
structure Rep (K : PySem.W.Frag) (B : Bs) (F H : Hp) (σ : L2.St) (γ : Env) : Prop where
  fh : Ex F H
  len : σ.length = γ.length
  sl : ∀ (i : Nat) s t, σ[i]? = some s → γ[i]? = some t → SlotOk K B F H s t
  nd : ∀ (i j : Nat) a p c q c', γ[i]? = some (.own p c) → γ[j]? = some (.own q c') → σ[i]? = some (some (.ref a)) → σ[j]? = some (some (.ref a)) → i = j
  b1 : ∀ b o, B.H b = some o → (b ∉ B.m → H b = some o) ∧ ∃ o', H b = some o'
  b2 : Ex B.F F
  b3 : ∀ b o, B.H b = some o → b ∉ B.m → F b = B.F b
  b4 : ∀ (i : Nat) a p c, γ[i]? = some (.own p c) → σ[i]? = some (some (.ref a)) → (∀ k, p = some k → B.pa k = some a) ∧ (p = none → B.N a = none)
  b5 : ∀ (i : Nat) a p c, γ[i]? = some (.own p c) → σ[i]? = some (some (.ref a)) → a ∈ B.m ∨ B.H a = none
  bN : ∀ b o, B.N b = some o → ∃ o', H b = some o'
  bd : ∀ a o, B.H a = some o → ∃ o', H a = some o' ∧ Kin o o'
structure RNew (K : PySem.W.Frag) (B : Bs) (F H : Hp) (σ : L2.St) (γ : Env) (a : Addr) (c : OC) : Prop where
  fa : F a = none
  ok : OCok K B F H a c
  bn : B.N a = none
  bm : a ∈ B.m ∨ B.H a = none
  na : ∀ (i : Nat) p c', γ[i]? = some (.own p c') → σ[i]? ≠ some (some (.ref a))
def RsOk (K : PySem.W.Frag) (B : Bs) (F H : Hp) (σ : L2.St) (γ : Env) (v : V) : RS → Prop
  | .val d => Rp (B.kz K) F v d
  | .own j c => σ[j]? = some (some v) ∧ ∃ p, γ[j]? = some (.own p c)
  | .new c => ∃ a, v = .ref a ∧ RNew K B F H σ γ a c
/-- the result still stands as it was told -/
def RS.ok (γ : Env) : RS → Prop
  | .own j c => ∃ p, look γ j = .own p c
  | _ => True

section
variable {K : PySem.W.Frag} {B : Bs} {F F' H H' : Hp} {σ : L2.St} {γ : Env} {v : V} {d : D}
theorem OCok.mono {a : Addr} {c : OC} (e : Ex F F') (hd : ∀ dx, H dx = some (.own a) → F dx = none → F' dx = none) (h : OCok K B F H a c) : OCok K B F' H a c := by
  cases c with
  | lst ds => obtain ⟨vs, h1, h2⟩ := h; exact ⟨vs, h1, h2.mono e⟩
  | ins C fs => obtain ⟨dx, fv, h1, h2, h3, h4, h5, h6⟩ := h; exact ⟨dx, fv, h1, h2, hd dx h2 h3, h4, h5, h6.mono e⟩
  | dct kd => obtain ⟨kv, h1, h2⟩ := h; exact ⟨kv, h1, h2.mono e⟩
theorem OCok.obj {a : Addr} {c : OC} (h : OCok K B F H a c) : ∃ o, H a = some o ∧ ∀ x, o ≠ .own x := by
  cases c with
  | lst ds => obtain ⟨vs, h1, h2⟩ := h; exact ⟨_, h1, fun x e => by cases e⟩
  | ins C fs => obtain ⟨dx, fv, h1, _⟩ := h; exact ⟨_, h1, fun x e => by cases e⟩
  | dct kd => obtain ⟨kv, h1, h2⟩ := h; exact ⟨_, h1, fun x e => by cases e⟩
/-- the heap may change elsewhere -/
theorem OCok.heap {a : Addr} {c : OC} (h : OCok K B F H a c) (ka : H' a = H a) (kd : ∀ dx, H dx = some (.own a) → H' dx = H dx) : OCok K B F H' a c := by
  cases c with
  | lst ds => obtain ⟨vs, h1, h2⟩ := h; exact ⟨vs, ka.trans h1, h2⟩
  | ins C fs => obtain ⟨dx, fv, h1, h2, h3⟩ := h; exact ⟨dx, fv, ka.trans h1, (kd dx h2).trans h2, h3⟩
  | dct kd => obtain ⟨kv, h1, h2⟩ := h; exact ⟨kv, ka.trans h1, h2⟩
theorem OCok.base {a : Addr} {c : OC} {B' : Bs} (h : OCok K B F H a c) (hN : B'.N = B.N) (hz : B'.z = B.z) (hm : ∀ dx, H dx = some (.own a) → dx ∈ B.m ∨ B.H dx = none → dx ∈ B'.m ∨ B'.H dx = none) : OCok K B' F H a c := by
  have e : B'.kz K = B.kz K := by unfold Bs.kz; rw [hz]
  cases c with
  | lst ds => obtain ⟨vs, h1, h2⟩ := h; exact ⟨vs, h1, by rw [e]; exact h2⟩
  | ins C fs => obtain ⟨dx, fv, h1, h2, h3, h4, h5, h6⟩ := h; exact ⟨dx, fv, h1, h2, h3, by rw [hN]; exact h4, hm dx h2 h5, by rw [e]; exact h6⟩
  | dct kd => obtain ⟨kv, h1, h2⟩ := h; exact ⟨kv, h1, by rw [e]; exact h2⟩

theorem Rep.val (R : Rep K B F H σ γ) {i : Nat} (h : look γ i = .val d) : ∃ v, σ[i]? = some (some v) ∧ Rp (B.kz K) F v d := by
  have hg := of_look h (by intro e; cases e)
  obtain ⟨h1, _⟩ := List.getElem?_eq_some_iff.mp hg
  have h2 : i < σ.length := by rw [R.len]; exact h1
  have hs : σ[i]? = some σ[i] := List.getElem?_eq_getElem h2
  obtain ⟨v, e, r⟩ := R.sl i _ _ hs hg
  exact ⟨v, by rw [hs, e], r⟩
theorem Rep.own (R : Rep K B F H σ γ) {i : Nat} {p : Option Nat} {c : OC} (h : look γ i = .own p c) : ∃ a, σ[i]? = some (some (.ref a)) ∧ γ[i]? = some (.own p c) ∧ F a = none ∧ OCok K B F H a c := by
  have hg := of_look h (by intro e; cases e)
  obtain ⟨h1, _⟩ := List.getElem?_eq_some_iff.mp hg
  have h2 : i < σ.length := by rw [R.len]; exact h1
  have hs : σ[i]? = some σ[i] := List.getElem?_eq_getElem h2
  obtain ⟨a, e, r, q⟩ := R.sl i _ _ hs hg
  exact ⟨a, by rw [hs, e], hg, r, q⟩
/-- a free address is free everywhere -/
theorem Rep.fresh (R : Rep K B F H σ γ) {p : Addr} (h : H p = none) : F p = none ∧ B.H p = none ∧ B.N p = none ∧ ∀ (i : Nat) q c', γ[i]? = some (.own q c') → σ[i]? ≠ some (some (.ref p)) := by
  refine ⟨?_, ?_, ?_, ?_⟩
  · cases e : F p with
    | none => rfl
    | some o => rw [R.fh p o e] at h; cases h
  · cases e : B.H p with
    | none => rfl
    | some o => obtain ⟨_, o', e'⟩ := R.b1 p o e; rw [e'] at h; cases h
  · cases e : B.N p with
    | none => rfl
    | some o => obtain ⟨o', e'⟩ := R.bN p o e; rw [e'] at h; cases h
  · intro i q c' hg hs
    obtain ⟨a, e, _, ok⟩ := R.sl i _ _ hs hg
    cases e
    obtain ⟨o, ho, _⟩ := ok.obj
    rw [ho] at h; cases h
/-- a slot's address, and that it is no own dict -/
theorem Rep.ownObj (R : Rep K B F H σ γ) {i : Nat} {p : Option Nat} {c : OC} {a : Addr} (hg : γ[i]? = some (.own p c)) (hs : σ[i]? = some (some (.ref a))) : F a = none ∧ OCok K B F H a c := by
  obtain ⟨a', e, f, ok⟩ := R.sl i _ _ hs hg
  cases e
  exact ⟨f, ok⟩
/-- a new object, not frozen -/
theorem Rep.alloc (R : Rep K B F H σ γ) {p : Addr} (o : HO) (h : H p = none) : Rep K B F (upd H p o) σ γ := by
  have hx : Ex H (upd H p o) := Ex.new h
  have nep : ∀ {b : Addr} {x : HO}, H b = some x → b ≠ p := fun e => ne_of_none e h
  refine ⟨R.fh.trans hx, R.len, fun i s t hs hg => ?_, R.nd, fun b x e => ?_, R.b2, R.b3, R.b4, R.b5, fun b x e => ?_, fun a x e => let ⟨o', h, k⟩ := R.bd a x e; ⟨o', hx _ _ h, k⟩⟩
  · have q := R.sl i s t hs hg
    cases t with
    | no => trivial
    | val d => exact q
    | own q' c =>
      obtain ⟨a, e, f, ok⟩ := q
      obtain ⟨o', ho', _⟩ := ok.obj
      exact ⟨a, e, f, ok.heap (upd_ne (nep ho')) fun dx hd => upd_ne (nep hd)⟩
  · obtain ⟨h1, o', h2⟩ := R.b1 b x e
    exact ⟨fun n => hx _ _ (h1 n), o', hx _ _ h2⟩
  · obtain ⟨o', h2⟩ := R.bN b x e
    exact ⟨o', hx _ _ h2⟩
/-- F takes up what H holds at a, which nobody owns -/
theorem Rep.freeze (R : Rep K B F H σ γ) {a : Addr} {o : HO} (h : H a = some o) (fa : F a = none) (bm : a ∈ B.m ∨ B.H a = none) (na : ∀ (i : Nat) q c', γ[i]? = some (.own q c') → σ[i]? ≠ some (some (.ref a)) ∧ ∀ x, σ[i]? = some (some (.ref x)) → o ≠ .own x) :
    Rep K B (upd F a o) H σ γ ∧ Ex F (upd F a o) := by
  have hx : Ex F (upd F a o) := Ex.new fa
  refine ⟨⟨fun b x e => ?_, R.len, fun i s t hs hg => ?_, R.nd, R.b1, R.b2.trans hx, fun b x e n => ?_, R.b4, R.b5, R.bN, R.bd⟩, hx⟩
  · by_cases hb : b = a
    · subst hb; rw [upd_same] at e; cases e; exact h
    · rw [upd_ne hb] at e; exact R.fh b x e
  · have q := R.sl i s t hs hg
    cases t with
    | no => trivial
    | val d => obtain ⟨v, e, r⟩ := q; exact ⟨v, e, r.mono hx⟩
    | own q' c =>
      obtain ⟨b, e, f, ok⟩ := q
      subst e
      obtain ⟨n1, n2⟩ := na i _ _ hg
      have nba : b ≠ a := fun z => n1 (by rw [hs, z])
      refine ⟨b, rfl, by rw [upd_ne nba]; exact f, ok.mono hx fun dx hd fd => ?_⟩
      have : dx ≠ a := fun z => by
        subst z
        rw [h] at hd
        exact n2 b hs (Option.some.inj hd)
      rw [upd_ne this]; exact fd
  · rcases bm with z | z
    · by_cases hb : b = a
      · subst hb; exact absurd z n
      · rw [upd_ne hb]; exact R.b3 b x e n
    · rw [upd_ne (ne_of_none e z)]; exact R.b3 b x e n
end
end DL

set_option Elab.async false
set_option linter.all false
set_option maxRecDepth 100000
set_option maxHeartbeats 2000000
namespace DL
open PySem PySem.Spec PyProof.Rows L2
open Evl (Ex ex_l ex_t)

abbrev DE := Env → (RS → Env → Prop) → Prop
abbrev DT := Env → (Bool → Env → Prop) → Prop
abbrev DA := Env → (List RS → Env → Prop) → Prop
def SE (K : PySem.W.Frag) (te : TE) (de : DE) : Prop := ∀ (B : Bs) (F H : Hp) (σ : L2.St) (γ : Env) (Q : VK) (q : RS → Env → Prop), Rep K B F H σ γ → de γ q →
  (∀ v F' H' γ' s, Rep K B F' H' σ γ' → Ex F F' → RsOk K B F' H' σ γ' v s → q s γ' → Q v H') → te σ H Q
def ST (K : PySem.W.Frag) (tt : TT) (dt : DT) : Prop := ∀ (B : Bs) (F H : Hp) (σ : L2.St) (γ : Env) (Q : Bool → Hp → Prop) (q : Bool → Env → Prop), Rep K B F H σ γ → dt γ q →
  (∀ b F' H' γ', Rep K B F' H' σ γ' → Ex F F' → q b γ' → Q b H') → tt σ H Q
def SA (K : PySem.W.Frag) (ta : TA) (da : DA) : Prop := ∀ (B : Bs) (F H : Hp) (σ : L2.St) (γ : Env) (Q : List V → Hp → Prop) (q : List RS → Env → Prop), Rep K B F H σ γ → da γ q →
  (∀ vs F' H' γ' rs, Rep K B F' H' σ γ' → Ex F F' → Paired (RsOk K B F' H' σ γ') vs rs → q rs γ' → Q vs H') → ta σ H Q
structure XE (X : Cx) (e : Expr) (te : TE) (de : DE) : Prop where
  pe : PE X e te
  se : SE X.K te de
structure XT (X : Cx) (e : Expr) (tt : TT) (dt : DT) : Prop where
  pt : PT X e tt
  st : ST X.K tt dt
structure XW (X : Cx) (e : Expr) (tt : TT) (dt : DT) : Prop where
  pw : PW X e tt
  st : ST X.K tt dt
structure XA (X : Cx) (es : List Expr) (ta : TA) (da : DA) : Prop where
  pa : PA X es ta
  sa : SA X.K ta da

/-- a new thing that is not given a name stays -/
def RS.fz : RS → RS
  | .new c => .val c.data
  | s => s
theorem RS.fz_data (s : RS) : s.fz.data = s.data := by cases s <;> rfl
section
variable {K : PySem.W.Frag} {B : Bs} {F F' H H' : Hp} {σ : L2.St} {γ γ' : Env} {v : V} {d : D}
theorem RsOk.fz (R : Rep K B F H σ γ) {s : RS} (h : RsOk K B F H σ γ v s) : ∃ F', Rep K B F' H σ γ ∧ Ex F F' ∧ RsOk K B F' H σ γ v s.fz := by
  cases s with
  | val d => exact ⟨F, R, Evl.Ex.refl F, h⟩
  | own j c => exact ⟨F, R, Evl.Ex.refl F, h⟩
  | new c =>
    obtain ⟨a, rfl, N⟩ := h
    have ok := N.ok
    cases c with
    | lst ds =>
      obtain ⟨vs, h1, h2⟩ := ok
      obtain ⟨R', e⟩ := R.freeze h1 N.fa N.bm fun i q c' hg => ⟨N.na i q c' hg, fun x _ z => by cases z⟩
      exact ⟨_, R', e, .lst upd_same (h2.mono e)⟩
    | dct kd =>
      obtain ⟨kv, h1, h2⟩ := ok
      obtain ⟨R', e⟩ := R.freeze h1 N.fa N.bm fun i q c' hg => ⟨N.na i q c' hg, fun x _ z => by cases z⟩
      exact ⟨_, R', e, .dct upd_same (h2.mono e)⟩
    | ins C fs =>
      obtain ⟨dx, fv, h1, h2, h3, h4, h5, h6⟩ := ok
      have na : a ≠ dx := ne_of h1 h2 (fun z => by cases z)
      obtain ⟨R', e⟩ := R.freeze h2 h3 h5 fun i q c' hg => ⟨fun hs => by
        obtain ⟨_, ok'⟩ := R.ownObj hg hs
        obtain ⟨o, ho, n⟩ := ok'.obj
        rw [h2] at ho
        exact n a (Option.some.inj ho).symm, fun x hs z => by
        injection z with z
        subst z
        exact N.na i q c' hg hs⟩
      obtain ⟨R2, e2⟩ := R'.freeze h1 (by rw [upd_ne na]; exact N.fa) N.bm fun i q c' hg => ⟨N.na i q c' hg, fun x _ z => by cases z⟩
      refine ⟨_, R2, e.trans e2, .obj upd_same (e2 dx _ upd_same) (h6.mono (e.trans e2))⟩
/-- read as it stands: frozen, or owned -/
def Rs (K : KZ) (F H : Hp) (v : V) (d : D) : Prop := Rp K F v d ∨ ∃ a, v = .ref a ∧
  ((∃ vs ds, d = .lst ds ∧ H a = some (.lst vs) ∧ RpAll K F vs ds) ∨ (∃ C dx fv fs, d = .obj C fs ∧ H a = some (.ins C dx fv) ∧ H dx = some (.own a) ∧ RpFs K F fv fs) ∨ ∃ kv kd, d = .dct kd ∧ H a = some (.dK kv) ∧ RpKs K F kv kd)
theorem OCok.rs {a : Addr} {c : OC} (h : OCok K B F H a c) : Rs (B.kz K) F H (.ref a) c.data := by
  cases c with
  | lst ds => obtain ⟨vs, h1, h2⟩ := h; exact .inr ⟨a, rfl, .inl ⟨vs, ds, rfl, h1, h2⟩⟩
  | ins C fs => obtain ⟨dx, fv, h1, h2, _, _, _, h6⟩ := h; exact .inr ⟨a, rfl, .inr (.inl ⟨C, dx, fv, fs, rfl, h1, h2, h6⟩)⟩
  | dct kd => obtain ⟨kv, h1, h2⟩ := h; exact .inr ⟨a, rfl, .inr (.inr ⟨kv, kd, rfl, h1, h2⟩)⟩
/-- what a result says later: val grows, own is asked again -/
theorem RsOk.later {s : RS} {F1 H1 F2 H2 : Hp} {γ1 γ2 : Env} (h : RsOk K B F1 H1 σ γ1 v s) (e : Ex F1 F2) (R2 : Rep K B F2 H2 σ γ2) (hok : s.ok γ2) (hf : s.fz = s) : RsOk K B F2 H2 σ γ2 v s := by
  cases s with
  | val d => exact Rp.mono e h
  | own j c =>
    obtain ⟨p, hp⟩ := hok
    obtain ⟨a, _, hg, _⟩ := R2.own hp
    exact ⟨h.1, p, hg⟩
  | new c => cases hf
theorem RsOk.rs (R : Rep K B F H σ γ) {s : RS} (h : RsOk K B F H σ γ v s) : Rs (B.kz K) F H v s.data := by
  cases s with
  | val d => exact .inl h
  | own j c =>
    obtain ⟨hs, p, hg⟩ := h
    obtain ⟨a, e, _, ok⟩ := R.sl j _ _ hs hg
    cases e
    exact ok.rs
  | new c =>
    obtain ⟨a, rfl, N⟩ := h
    exact N.ok.rs
theorem fz_idem (s : RS) : s.fz.fz = s.fz := by cases s <;> rfl
theorem fz_ok (s : RS) (γ : Env) : s.ok γ → s.fz.ok γ := by cases s <;> exact fun h => h
theorem ok_own {j : Nat} {c : OC} {p : Option Nat} (h : look γ j = .own p c) : RS.ok γ (.own j c) := ⟨p, h⟩
end
/-! inversions -/
section
variable {K : KZ} {F F' H H' : Hp} {v : V} {d : D}
theorem Rs.int {i : Int} (h : Rs K F H v (.int i)) : v = .int i := by
  rcases h with h | ⟨a, rfl, ⟨_, _, e, _⟩ | ⟨_, _, _, _, e, _⟩ | ⟨_, _, e, _⟩⟩
  · cases h; rfl
  all_goals cases e
theorem Rs.bl {i : Bool} (h : Rs K F H v (.bl i)) : v = .bl i := by
  rcases h with h | ⟨a, rfl, ⟨_, _, e, _⟩ | ⟨_, _, _, _, e, _⟩ | ⟨_, _, e, _⟩⟩
  · cases h; rfl
  all_goals cases e
theorem Rs.str {i : Str} (h : Rs K F H v (.str i)) : v = .str i := by
  rcases h with h | ⟨a, rfl, ⟨_, _, e, _⟩ | ⟨_, _, _, _, e, _⟩ | ⟨_, _, e, _⟩⟩
  · cases h; rfl
  all_goals cases e
theorem Rs.non (h : Rs K F H v .non) : v = .non := by
  rcases h with h | ⟨a, rfl, ⟨_, _, e, _⟩ | ⟨_, _, _, _, e, _⟩ | ⟨_, _, e, _⟩⟩
  · cases h; rfl
  all_goals cases e
theorem Rs.lst {ds : List D} (e : Ex F H) (h : Rs K F H v (.lst ds)) : ∃ a vs, v = .ref a ∧ H a = some (.lst vs) ∧ RpAll K F vs ds := by
  rcases h with h | ⟨a, rfl, ⟨vs, _, e, h1, h2⟩ | ⟨_, _, _, _, e, _⟩ | ⟨_, _, e, _⟩⟩
  · cases h with
    | lst h1 h2 => exact ⟨_, _, rfl, e _ _ h1, h2⟩
  · cases e; exact ⟨a, vs, rfl, h1, h2⟩
  all_goals cases e
theorem Rs.tup {ds : List D} (e : Ex F H) (h : Rs K F H v (.tup ds)) : ∃ a vs, v = .ref a ∧ SqT K H a vs ∧ RpAll K F vs ds := by
  rcases h with h | ⟨a, rfl, ⟨vs, _, e, h1, h2⟩ | ⟨_, _, _, _, e, _⟩ | ⟨_, _, e, _⟩⟩
  · cases h with
    | tup h1 h2 => exact ⟨_, _, rfl, ex_t e h1, h2⟩
  all_goals cases e
end

/-! ### names and constants -/
section
variable {X : Cx} {pos : Pos}
def dC (d : D) (γ : Env) (q : RS → Env → Prop) : Prop := q (.val d) γ
/-- a name, as it stands -/
def dVar (i : Nat) (γ : Env) (q : RS → Env → Prop) : Prop := match look γ i with
  | .val d => q (.val d) γ
  | .own _ c => q (.own i c) γ
  | .no => False
/-- a name whose thing stays from here on -/
def dVarV (i : Nat) (γ : Env) (q : RS → Env → Prop) : Prop := match look γ i with
  | .val d => q (.val d) γ
  | .own _ c => q (.val c.data) (put γ i (.val c.data))
  | .no => False
/-- a name that is given away -/
def dVarM (i : Nat) (γ : Env) (q : RS → Env → Prop) : Prop := match look γ i with
  | .val d => q (.val d) γ
  | .own none c => q (.new c) (put γ i .no)
  | .own (some _) _ => False
  | .no => False
theorem se_c {K : PySem.W.Frag} {v : V} {d : D} (h : ∀ z F, Rp ⟨K, z⟩ F v d) : SE K (tC v) (dC d) := fun B F H σ γ Q q R hq k => k v F H γ (.val d) R (Evl.Ex.refl F) (h B.z F) hq
theorem se_var {K : PySem.W.Frag} {i : Nat} : SE K (tVar i) (dVar i) := fun B F H σ γ Q q R hq k => by
  unfold dVar at hq
  cases e : look γ i with
  | no => rw [e] at hq; exact hq.elim
  | val d =>
    rw [e] at hq
    obtain ⟨v, hs, r⟩ := R.val e
    exact ⟨v, hs, k v F H γ (.val d) R (Evl.Ex.refl F) r hq⟩
  | own p c =>
    rw [e] at hq
    obtain ⟨a, hs, hg, _⟩ := R.own e
    exact ⟨.ref a, hs, k _ F H γ (.own i c) R (Evl.Ex.refl F) ⟨hs, p, hg⟩ hq⟩
section
variable {K : PySem.W.Frag} {B : Bs} {F H : Hp} {σ : L2.St} {γ : Env}
theorem get_put {i j : Nat} {s t : Sx} (h : (put γ i s)[j]? = some t) : (j = i ∧ t = s) ∨ (j ≠ i ∧ γ[j]? = some t) := by
  rw [put_set] at h
  by_cases e : i = j
  · subst e
    by_cases hl : i < γ.length
    · rw [List.getElem?_set_self hl] at h; exact .inl ⟨rfl, (Option.some.inj h).symm⟩
    · rw [List.getElem?_eq_none (by rw [List.length_set]; omega)] at h; cases h
  · rw [List.getElem?_set_ne e] at h; exact .inr ⟨fun z => e z.symm, h⟩
/-- a slot told less, or by frozen data -/
theorem Rep.told (R : Rep K B F H σ γ) {i : Nat} {t : Sx} (ht : ∀ s, σ[i]? = some s → SlotOk K B F H s t) (hn : ∀ p c, t ≠ .own p c) : Rep K B F H σ (put γ i t) := by
  have key : ∀ {j : Nat} {p : Option Nat} {c : OC}, (put γ i t)[j]? = some (.own p c) → γ[j]? = some (.own p c) := fun h => by
    rcases get_put h with ⟨_, e⟩ | ⟨_, e⟩
    · exact absurd e.symm (hn _ _)
    · exact e
  refine ⟨R.fh, by rw [put_len]; exact R.len, fun j s u hs hg => ?_, fun i j a p c q c' h1 h2 => R.nd i j a p c q c' (key h1) (key h2), R.b1, R.b2, R.b3, fun j a p c h1 => R.b4 j a p c (key h1), fun j a p c h1 => R.b5 j a p c (key h1), R.bN, R.bd⟩
  rcases get_put hg with ⟨rfl, rfl⟩ | ⟨_, e⟩
  · exact ht s hs
  · exact R.sl j s u hs e
/-- the thing in slot i is given away -/
theorem Rep.move (R : Rep K B F H σ γ) {i : Nat} {c : OC} (e : look γ i = .own none c) : ∃ a, σ[i]? = some (some (.ref a)) ∧ Rep K B F H σ (put γ i .no) ∧ RNew K B F H σ (put γ i .no) a c := by
  obtain ⟨a, hs, hg, fa, ok⟩ := R.own e
  refine ⟨a, hs, R.told (fun _ _ => trivial) (fun _ _ z => by cases z), fa, ok, (R.b4 i a none c hg hs).2 rfl, R.b5 i a none c hg hs, fun j p c' h1 h2 => ?_⟩
  rcases get_put h1 with ⟨_, z⟩ | ⟨n, z⟩
  · cases z
  · exact n (R.nd j i a p c' none c z hg h2 hs)
/-- the thing in slot i stays from here on -/
theorem Rep.freezeVar (R : Rep K B F H σ γ) {i : Nat} {p : Option Nat} {c : OC} (e : look γ i = .own p c) : ∃ a F', σ[i]? = some (some (.ref a)) ∧ Rep K B F' H σ (put γ i (.val c.data)) ∧ Ex F F' ∧ Rp (B.kz K) F' (.ref a) c.data := by
  obtain ⟨a, hs, hg, fa, ok⟩ := R.own e
  have R0 : Rep K B F H σ (put γ i .no) := R.told (fun _ _ => trivial) (fun _ _ z => by cases z)
  have na : ∀ (j : Nat) q c', (put γ i .no)[j]? = some (.own q c') → σ[j]? ≠ some (some (.ref a)) := fun j q c' h1 h2 => by
    rcases get_put h1 with ⟨_, z⟩ | ⟨n, z⟩
    · cases z
    · exact n (R.nd j i a q c' p c z hg h2 hs)
  have b5 := R.b5 i a p c hg hs
  obtain ⟨F', R', ex, rp⟩ : ∃ F', Rep K B F' H σ (put γ i .no) ∧ Ex F F' ∧ Rp (B.kz K) F' (.ref a) c.data := by
    cases c with
    | lst ds =>
      obtain ⟨vs, h1, h2⟩ := ok
      obtain ⟨R', e⟩ := R0.freeze h1 fa b5 fun i q c' hg => ⟨na i q c' hg, fun x _ z => by cases z⟩
      exact ⟨_, R', e, .lst upd_same (h2.mono e)⟩
    | dct kd =>
      obtain ⟨kv, h1, h2⟩ := ok
      obtain ⟨R', e⟩ := R0.freeze h1 fa b5 fun i q c' hg => ⟨na i q c' hg, fun x _ z => by cases z⟩
      exact ⟨_, R', e, .dct upd_same (h2.mono e)⟩
    | ins C fs =>
      obtain ⟨dx, fv, h1, h2, h3, h4, h5, h6⟩ := ok
      have nad : a ≠ dx := ne_of h1 h2 (fun z => by cases z)
      obtain ⟨R', e⟩ := R0.freeze h2 h3 h5 fun i q c' hg => ⟨fun hs => by
        obtain ⟨_, ok'⟩ := R0.ownObj hg hs
        obtain ⟨o, ho, n⟩ := ok'.obj
        rw [h2] at ho
        exact n a (Option.some.inj ho).symm, fun x hs z => by
        injection z with z
        subst z
        exact na i q c' hg hs⟩
      obtain ⟨R2, e2⟩ := R'.freeze h1 (by rw [upd_ne nad]; exact fa) b5 fun i q c' hg => ⟨na i q c' hg, fun x _ z => by cases z⟩
      exact ⟨_, R2, e.trans e2, .obj upd_same (e2 dx _ upd_same) (h6.mono (e.trans e2))⟩
  refine ⟨a, F', hs, ?_, ex, rp⟩
  have q := R'.told (i := i) (t := .val c.data) (fun s hs' => by rw [hs] at hs'; cases hs'; exact ⟨_, rfl, rp⟩) (fun _ _ z => by cases z)
  have pp : put (put γ i .no) i (.val c.data) = put γ i (.val c.data) := by rw [put_set, put_set, put_set, List.set_set]
  rw [pp] at q
  exact q
end
theorem se_varV {K : PySem.W.Frag} {i : Nat} : SE K (tVar i) (dVarV i) := fun B F H σ γ Q q R hq k => by
  unfold dVarV at hq
  cases e : look γ i with
  | no => rw [e] at hq; exact hq.elim
  | val d =>
    rw [e] at hq
    obtain ⟨v, hs, r⟩ := R.val e
    exact ⟨v, hs, k v F H γ (.val d) R (Evl.Ex.refl F) r hq⟩
  | own p c =>
    rw [e] at hq
    obtain ⟨a, F', hs, R', ex, rp⟩ := R.freezeVar e
    exact ⟨.ref a, hs, k _ F' H _ (.val c.data) R' ex rp hq⟩
theorem se_varM {K : PySem.W.Frag} {i : Nat} : SE K (tVar i) (dVarM i) := fun B F H σ γ Q q R hq k => by
  unfold dVarM at hq
  cases e : look γ i with
  | no => rw [e] at hq; exact hq.elim
  | val d =>
    rw [e] at hq
    obtain ⟨v, hs, r⟩ := R.val e
    exact ⟨v, hs, k v F H γ (.val d) R (Evl.Ex.refl F) r hq⟩
  | own p c =>
    rw [e] at hq
    cases p with
    | some k' => exact hq.elim
    | none =>
      obtain ⟨a, hs, R', N⟩ := R.move e
      exact ⟨.ref a, hs, k _ F H _ (.new c) R' (Evl.Ex.refl F) ⟨a, rfl, N⟩ hq⟩
section
variable {x : Str}
theorem xv (i : Nat) (hN : X.N[i]? = some x := by rfl) (hv : Vis X.env.scope x := by first | exact Or.inl rfl | exact Or.inr (Or.inl rfl) | exact Or.inr (Or.inr rfl)) (hd : (x == ("__debug__" : Str)) = false := by decide)
    (hcd : (x == ("__classdict__" : Str)) = false := by decide) : XE X (.Name x pos) (tVar i) (dVar i) := ⟨pe_var hN hv hd hcd, se_var⟩
theorem xvV (i : Nat) (hN : X.N[i]? = some x := by rfl) (hv : Vis X.env.scope x := by first | exact Or.inl rfl | exact Or.inr (Or.inl rfl) | exact Or.inr (Or.inr rfl)) (hd : (x == ("__debug__" : Str)) = false := by decide)
    (hcd : (x == ("__classdict__" : Str)) = false := by decide) : XE X (.Name x pos) (tVar i) (dVarV i) := ⟨pe_var hN hv hd hcd, se_varV⟩
theorem xvM (i : Nat) (hN : X.N[i]? = some x := by rfl) (hv : Vis X.env.scope x := by first | exact Or.inl rfl | exact Or.inr (Or.inl rfl) | exact Or.inr (Or.inr rfl)) (hd : (x == ("__debug__" : Str)) = false := by decide)
    (hcd : (x == ("__classdict__" : Str)) = false := by decide) : XE X (.Name x pos) (tVar i) (dVarM i) := ⟨pe_var hN hv hd hcd, se_varM⟩
end
theorem x_int {i j} : XE X (.Constant (.int i) j pos) (tC (.int i)) (dC (.int i)) := ⟨pe_int, se_c fun _ _ => .int i⟩
theorem x_bl {i j} : XE X (.Constant (.bool i) j pos) (tC (.bl i)) (dC (.bl i)) := ⟨pe_bl, se_c fun _ _ => .bl i⟩
theorem x_non {j} : XE X (.Constant .none j pos) (tC .non) (dC .non) := ⟨pe_non, se_c fun _ _ => .non⟩
theorem x_str {i j} : XE X (.Constant (.str i) j pos) (tC (.str i)) (dC (.str i)) := ⟨pe_str, se_c fun _ _ => .str i⟩
theorem x_glob {x : Str} {v : V} {d : D} {u : Value} (hg : Gl X x) (hm : X.mg x = some u) (r : RelV v u) (h : ∀ z F, Rp ⟨X.K, z⟩ F v d) (hd : (x == ("__debug__" : Str)) = false := by decide) : XE X (.Name x pos) (tC v) (dC d) := ⟨pe_glob hg hm r hd, se_c h⟩
end

/-! ### operations -/
def OpD (K : PySem.W.Frag) (r : R2) (f : D → D → (RS → Prop) → Prop) : Prop := ∀ (B : Bs) (F H : Hp) (σ : L2.St) (γ : Env) (x y : V) (d e : D) (Q : VK) (q : RS → Prop), Rep K B F H σ γ → Rs (B.kz K) F H x d → Rs (B.kz K) F H y e → f d e q →
  (∀ v F' H' s, Rep K B F' H' σ γ → Ex F F' → RsOk K B F' H' σ γ v s → q s → Q v H') → r x y H Q
def UnD (K : PySem.W.Frag) (r : V → Hp → VK → Prop) (f : D → (RS → Prop) → Prop) : Prop := ∀ (B : Bs) (F H : Hp) (σ : L2.St) (γ : Env) (x : V) (d : D) (Q : VK) (q : RS → Prop), Rep K B F H σ γ → Rs (B.kz K) F H x d → f d q →
  (∀ v F' H' s, Rep K B F' H' σ γ → Ex F F' → RsOk K B F' H' σ γ v s → q s → Q v H') → r x H Q
def CallD (K : PySem.W.Frag) (r : List V → Hp → VK → Prop) (f : List D → (RS → Prop) → Prop) : Prop := ∀ (B : Bs) (F H : Hp) (σ : L2.St) (γ : Env) (xs : List V) (ds : List D) (Q : VK) (q : RS → Prop), Rep K B F H σ γ → Paired (Rs (B.kz K) F H) xs ds → f ds q →
  (∀ v F' H' s, Rep K B F' H' σ γ → Ex F F' → RsOk K B F' H' σ γ v s → q s → Q v H') → r xs H Q
def d2 (f : D → D → (RS → Prop) → Prop) (da db : DE) (γ : Env) (q : RS → Env → Prop) : Prop := da γ fun s γ1 => db γ1 fun t γ2 => s.ok γ2 ∧ f s.data t.data fun r => q r γ2
def d1 (f : D → (RS → Prop) → Prop) (da : DE) (γ : Env) (q : RS → Env → Prop) : Prop := da γ fun s γ1 => f s.data fun r => q r γ1
section
variable {K : PySem.W.Frag} {ta tb : TE} {da db : DE}
theorem se_op {r : R2} {f : D → D → (RS → Prop) → Prop} (ho : OpD K r f) (sa : SE K ta da) (sb : SE K tb db) : SE K (tOp r ta tb) (d2 f da db) := fun B F H σ γ Q q R hq k => by
  refine sa B F H σ γ _ _ R hq fun x F1 H1 γ1 s R1 e1 o1 h1 => ?_
  obtain ⟨F2, R2, e2, o2⟩ := o1.fz R1
  refine sb B F2 H1 σ γ1 _ _ R2 h1 fun y F3 H3 γ3 t R3 e3 o3 ⟨h3, h4⟩ => ?_
  obtain ⟨F4, R4, e4, o4⟩ := o3.fz R3
  have ox := o2.later (e3.trans e4) R4 (fz_ok s γ3 h3) (fz_idem s)
  have rx := ox.rs R4
  have ry := o4.rs R4
  rw [RS.fz_data] at rx ry
  exact ho B F4 H3 σ γ3 x y _ _ Q _ R4 rx ry h4 fun v F5 H5 u R5 e5 o5 h5 => k v F5 H5 γ3 u R5 ((((e1.trans e2).trans e3).trans e4).trans e5) o5 h5
theorem se_un {r : V → Hp → VK → Prop} {f : D → (RS → Prop) → Prop} (ho : UnD K r f) (sa : SE K ta da) : SE K (tUn r ta) (d1 f da) := fun B F H σ γ Q q R hq k => by
  refine sa B F H σ γ _ _ R hq fun x F1 H1 γ1 s R1 e1 o1 h1 => ?_
  obtain ⟨F2, R2, e2, o2⟩ := o1.fz R1
  have rx := o2.rs R2
  rw [RS.fz_data] at rx
  exact ho B F2 H1 σ γ1 x _ Q _ R2 rx h1 fun v F5 H5 u R5 e5 o5 h5 => k v F5 H5 γ1 u R5 ((e1.trans e2).trans e5) o5 h5
def dNil (γ : Env) (q : List RS → Env → Prop) : Prop := q [] γ
def dCons (da : DE) (dr : DA) (γ : Env) (q : List RS → Env → Prop) : Prop := da γ fun s γ1 => dr γ1 fun rs γ2 => s.ok γ2 ∧ q (s.fz :: rs) γ2
theorem sa_nil : SA K tNil dNil := fun B F H σ γ Q q R hq k => k [] F H γ [] R (Evl.Ex.refl F) .nil hq
theorem sa_cons {tr : TA} {dr : DA} (sa : SE K ta da) (sr : SA K tr dr) : SA K (tCons ta tr) (dCons da dr) := fun B F H σ γ Q q R hq k => by
  refine sa B F H σ γ _ _ R hq fun x F1 H1 γ1 s R1 e1 o1 h1 => ?_
  obtain ⟨F2, R2, e2, o2⟩ := o1.fz R1
  refine sr B F2 H1 σ γ1 _ _ R2 h1 fun vs F3 H3 γ3 rs R3 e3 o3 ⟨h3, h4⟩ => ?_
  exact k _ F3 H3 γ3 _ R3 ((e1.trans e2).trans e3) (.cons (o2.later e3 R3 (fz_ok s γ3 h3) (fz_idem s)) o3) h4
/-- the data of arguments -/
def dCB (f : List D → (RS → Prop) → Prop) (da : DA) (γ : Env) (q : RS → Env → Prop) : Prop := da γ fun rs γ1 => f (rs.map RS.data) fun r => q r γ1
theorem rs_all {B : Bs} {F H : Hp} {σ : L2.St} {γ : Env} (R : Rep K B F H σ γ) : ∀ {vs : List V} {rs : List RS}, Paired (RsOk K B F H σ γ) vs rs → Paired (Rs (B.kz K) F H) vs (rs.map RS.data)
  | _, _, .nil => .nil
  | _, _, .cons h t => .cons (h.rs R) (rs_all R t)
theorem se_cb {ta : TA} {da : DA} {r : List V → Hp → VK → Prop} {f : List D → (RS → Prop) → Prop} (ho : CallD K r f) (sa : SA K ta da) : SE K (tCB r ta) (dCB f da) := fun B F H σ γ Q q R hq k => by
  refine sa B F H σ γ _ _ R hq fun vs F1 H1 γ1 rs R1 e1 o1 h1 => ?_
  exact ho B F1 H1 σ γ1 vs _ Q _ R1 (rs_all R1 o1) h1 fun v F5 H5 u R5 e5 o5 h5 => k v F5 H5 γ1 u R5 (e1.trans e5) o5 h5
end
section
variable {X : Cx} {pos : Pos} {a b : Expr} {ta tb : TE} {da db : DE}
theorem x_op {op : Operator} {r : R2} {f : D → D → (RS → Prop) → Prop} (ho : OpR X (binaryOp op) r) (hd : OpD X.K r f) (ha : XE X a ta da) (hb : XE X b tb db) : XE X (.BinOp a op b pos) (tOp r ta tb) (d2 f da db) := ⟨pe_op ho ha.pe hb.pe, se_op hd ha.se hb.se⟩
theorem x_un {op : UnaryOp} {r : V → Hp → VK → Prop} {f : D → (RS → Prop) → Prop} (ho : UnR X (unaryOp op) r) (hd : UnD X.K r f) (ha : XE X a ta da) : XE X (.UnaryOp op a pos) (tUn r ta) (d1 f da) := ⟨pe_un ho ha.pe, se_un hd ha.se⟩
theorem x_cmp {op : CmpOp} {r : R2} {f : D → D → (RS → Prop) → Prop} (ho : OpR X (compareOp op) r) (hd : OpD X.K r f) (ha : XE X a ta da) (hb : XE X b tb db) (hm : behindInMarks op b = false := by first | exact nomark _ | rfl) : XE X (.Compare a [op] [b] pos) (tOp r ta tb) (d2 f da db) := ⟨pe_cmpR ho ha.pe hb.pe hm, se_op hd ha.se hb.se⟩
theorem x_ix {r : R2} {f : D → D → (RS → Prop) → Prop} (ho : IxR X r) (hd : OpD X.K r f) (ha : XE X a ta da) (hb : XE X b tb db) (hs : PlainIx b := by exact fun _ _ => rfl) : XE X (.Subscript a b pos) (tOp r ta tb) (d2 f da db) := ⟨pe_ix ho ha.pe hb.pe hs, se_op hd ha.se hb.se⟩
theorem xa_nil : XA X [] tNil dNil := ⟨pa_nil, sa_nil⟩
theorem xa_cons {es : List Expr} {tr : TA} {dr : DA} (ha : XE X a ta da) (hr : XA X es tr dr) (hs : starEach (a :: es) X.env = (false, eval a X.env) :: starEach es X.env := by rfl) : XA X (a :: es) (tCons ta tr) (dCons da dr) := ⟨pa_cons ha.pe hr.pa hs, sa_cons ha.se hr.sa⟩
theorem x_cb {id : String} {es : List Expr} {x : Str} {p : Pos} {tl : TA} {dl : DA} {r : List V → Hp → VK → Prop} {f : List D → (RS → Prop) → Prop} (hc : CallR X (.builtin id) r) (hd : CallD X.K r f) (hm : X.mg x = none) (hl : XA X (a :: es) tl dl)
    (hg : Gl X x := by rfl) (hv : bootBuiltins x = some (.builtin id) := by decide +kernel) (hn : x ≠ "__name__" := by decide) (hdb : (x == ("__debug__" : Str)) = false := by decide)
    (he : starEach (a :: es) X.env = (false, eval a X.env) :: starEach es X.env := by rfl) (hpl : (backTo pos (starEach es X.env)).any (·.1) = false := by rfl) : XE X (.Call (.Name x p) (a :: es) [] pos) (tCB r tl) (dCB f dl) := ⟨pe_callB hc hg hm hv hl.pa hn hdb he hpl, se_cb hd hl.sa⟩
theorem x_ct {T : String} {es : List Expr} {x : Str} {p : Pos} {tl : TA} {dl : DA} {r : List V → Hp → VK → Prop} {f : List D → (RS → Prop) → Prop} (hc : CallR X (.type T) r) (hd : CallD X.K r f) (hm : X.mg x = none) (hl : XA X (a :: es) tl dl)
    (hg : Gl X x := by rfl) (hv : bootBuiltins x = some (.type T) := by decide +kernel) (hn : x ≠ "__name__" := by decide) (hdb : (x == ("__debug__" : Str)) = false := by decide)
    (he : starEach (a :: es) X.env = (false, eval a X.env) :: starEach es X.env := by rfl) (hpl : (backTo pos (starEach es X.env)).any (·.1) = false := by rfl) : XE X (.Call (.Name x p) (a :: es) [] pos) (tCB r tl) (dCB f dl) := ⟨pe_callTy hc hg hm hv hl.pa hn hdb he hpl, se_cb hd hl.sa⟩
end
end DL

set_option Elab.async false
set_option linter.all false
set_option maxRecDepth 100000
set_option maxHeartbeats 2000000
namespace DL
open PySem PySem.Spec PyProof.Rows L2
open Evl (Ex ex_l ex_t)
theorem sz_le {n : Nat} (h : n ≤ 1000000) : n ≤ sizeLine := Nat.le_trans h (by decide)

/-! ### new things -/
section
variable {K : PySem.W.Frag} {B : Bs} {F H : Hp} {σ : L2.St} {γ : Env} {p : Addr} {vs : List V} {ds : List D}
theorem Rep.newL (R : Rep K B F H σ γ) (hp : H p = none) (h : RpAll (B.kz K) F vs ds) : Rep K B F (upd H p (.lst vs)) σ γ ∧ RsOk K B F (upd H p (.lst vs)) σ γ (.ref p) (.new (.lst ds)) := by
  obtain ⟨f1, f2, f3, f4⟩ := R.fresh hp
  exact ⟨R.alloc _ hp, p, rfl, f1, ⟨vs, upd_same, h⟩, f3, .inr f2, f4⟩
theorem Rep.newT (R : Rep K B F H σ γ) (hp : H p = none) (h : RpAll (B.kz K) F vs ds) : Rep K B (upd F p (.tup vs)) (upd H p (.tup vs)) σ γ ∧ Ex F (upd F p (.tup vs)) ∧ Rp (B.kz K) (upd F p (.tup vs)) (.ref p) (.tup ds) := by
  obtain ⟨f1, f2, f3, f4⟩ := R.fresh hp
  obtain ⟨R2, e⟩ := (R.alloc (.tup vs) hp).freeze (a := p) (o := .tup vs) upd_same f1 (.inr f2) fun i q c' hg => ⟨f4 i q c' hg, fun x _ z => by cases z⟩
  exact ⟨R2, e, .tup (Evl.st_of upd_same) (h.mono e)⟩
end

/-! ### operations on numbers, texts, truths -/
theorem vk {K : PySem.W.Frag} {B : Bs} {F H : Hp} {σ : L2.St} {γ : Env} {v : V} {d : D} {Q : VK} {q : RS → Prop} (R : Rep K B F H σ γ) (k : ∀ v F' H' s, Rep K B F' H' σ γ → Ex F F' → RsOk K B F' H' σ γ v s → q s → Q v H')
    (r : Rp (B.kz K) F v d) (hq : q (.val d)) : Q v H := k v F H (.val d) R (Evl.Ex.refl F) r hq
def fI0 (g : Int → Int → D) : D → D → (RS → Prop) → Prop
  | .int i, .int j, q => q (.val (g i j))
  | _, _, _ => False
def fI (C : Int → Int → Prop) (g : Int → Int → D) : D → D → (RS → Prop) → Prop
  | .int i, .int j, q => C i j ∧ q (.val (g i j))
  | _, _, _ => False
def fU (g : Int → D) : D → (RS → Prop) → Prop
  | .int i, q => q (.val (g i))
  | _, _ => False
section
variable {K : PySem.W.Frag}
theorem od_I0 {gv : Int → Int → V} {g : Int → Int → D} (h : ∀ i j z F, Rp ⟨K, z⟩ F (gv i j) (g i j)) : OpD K (rI0 gv) (fI0 g) := fun B F H σ γ x y d e Q q R rx ry hf k => by
  unfold fI0 at hf
  split at hf
  · exact ⟨_, _, rx.int, ry.int, vk R k (h _ _ _ F) hf⟩
  · exact hf.elim
theorem od_I {C : Int → Int → Prop} {gv : Int → Int → V} {g : Int → Int → D} (h : ∀ i j z F, Rp ⟨K, z⟩ F (gv i j) (g i j)) : OpD K (rI C gv) (fI C g) := fun B F H σ γ x y d e Q q R rx ry hf k => by
  unfold fI at hf
  split at hf
  · exact ⟨_, _, rx.int, ry.int, hf.1, vk R k (h _ _ _ F) hf.2⟩
  · exact hf.elim
theorem ud_U {gv : Int → V} {g : Int → D} (h : ∀ i z F, Rp ⟨K, z⟩ F (gv i) (g i)) : UnD K (rU gv) (fU g) := fun B F H σ γ x d Q q R rx hf k => by
  unfold fU at hf
  split at hf
  · exact ⟨_, rx.int, vk R k (h _ _ F) hf⟩
  · exact hf.elim
theorem od_add : OpD K (rI0 fun i j => .int (i + j)) (fI0 fun i j => .int (i + j)) := od_I0 fun _ _ _ _ => .int _
theorem od_sub : OpD K (rI0 fun i j => .int (i - j)) (fI0 fun i j => .int (i - j)) := od_I0 fun _ _ _ _ => .int _
theorem od_mul : OpD K (rI CMul fun i j => .int (i * j)) (fI CMul fun i j => .int (i * j)) := od_I fun _ _ _ _ => .int _
theorem od_fdiv : OpD K (rI CDiv fun i j => .int (i / j)) (fI CDiv fun i j => .int (i / j)) := od_I fun _ _ _ _ => .int _
theorem od_mod : OpD K (rI (fun _ j => 0 < j) fun i j => .int (i % j)) (fI (fun _ j => 0 < j) fun i j => .int (i % j)) := od_I fun _ _ _ _ => .int _
theorem od_mulW : OpD K (rI CMulW fun i j => .int (i * j)) (fI CMulW fun i j => .int (i * j)) := od_I fun _ _ _ _ => .int _
theorem od_fdivW : OpD K (rI CDivW fun i j => .int (i / j)) (fI CDivW fun i j => .int (i / j)) := od_I fun _ _ _ _ => .int _
theorem od_pow : OpD K (rI CPow fun i j => .int (i ^ j.toNat)) (fI CPow fun i j => .int (i ^ j.toNat)) := od_I fun _ _ _ _ => .int _
theorem od_shl : OpD K (rI CPow fun i j => .int (i * 2 ^ j.toNat)) (fI CPow fun i j => .int (i * 2 ^ j.toNat)) := od_I fun _ _ _ _ => .int _
theorem od_shr : OpD K (rI (fun _ j => 0 ≤ j) fun i j => .int (i / 2 ^ j.toNat)) (fI (fun _ j => 0 ≤ j) fun i j => .int (i / 2 ^ j.toNat)) := od_I fun _ _ _ _ => .int _
theorem od_bit {g : Int → Int → Int} : OpD K (rI0 fun i j => .int (g i j)) (fI0 fun i j => .int (g i j)) := od_I0 fun _ _ _ _ => .int _
theorem od_lt : OpD K (rI0 fun i j => .bl (decide (i < j))) (fI0 fun i j => .bl (decide (i < j))) := od_I0 fun _ _ _ _ => .bl _
theorem od_le : OpD K (rI0 fun i j => .bl (decide (i ≤ j))) (fI0 fun i j => .bl (decide (i ≤ j))) := od_I0 fun _ _ _ _ => .bl _
theorem od_gt : OpD K (rI0 fun i j => .bl (decide (j < i))) (fI0 fun i j => .bl (decide (j < i))) := od_I0 fun _ _ _ _ => .bl _
theorem od_ge : OpD K (rI0 fun i j => .bl (decide (j ≤ i))) (fI0 fun i j => .bl (decide (j ≤ i))) := od_I0 fun _ _ _ _ => .bl _
theorem ud_neg : UnD K (rU fun i => .int (-i)) (fU fun i => .int (-i)) := ud_U fun _ _ _ => .int _
/-- == of flat things of the kinds that are met -/
def fEq : D → D → (RS → Prop) → Prop
  | .int i, .int j, q => q (.val (.bl (decide (i = j))))
  | .str i, .str j, q => q (.val (.bl (decide (i = j))))
  | .bl i, .bl j, q => q (.val (.bl (decide (i = j))))
  | .non, .non, q => q (.val (.bl true))
  | .int _, .non, q => q (.val (.bl false))
  | .non, .int _, q => q (.val (.bl false))
  | .str _, .non, q => q (.val (.bl false))
  | .non, .str _, q => q (.val (.bl false))
  | .int _, .str _, q => q (.val (.bl false))
  | .str _, .int _, q => q (.val (.bl false))
  | _, _, _ => False
def fNe : D → D → (RS → Prop) → Prop
  | .int i, .int j, q => q (.val (.bl (!decide (i = j))))
  | .str i, .str j, q => q (.val (.bl (!decide (i = j))))
  | .bl i, .bl j, q => q (.val (.bl (!decide (i = j))))
  | .non, .non, q => q (.val (.bl false))
  | .int _, .non, q => q (.val (.bl true))
  | .non, .int _, q => q (.val (.bl true))
  | .str _, .non, q => q (.val (.bl true))
  | .non, .str _, q => q (.val (.bl true))
  | .int _, .str _, q => q (.val (.bl true))
  | .str _, .int _, q => q (.val (.bl true))
  | _, _, _ => False
theorem dec_inj {α : Type} [DecidableEq α] (f : α → V) (h : ∀ a b, f a = f b → a = b) (a b : α) : decide (f a = f b) = decide (a = b) := by
  by_cases e : a = b
  · subst e; simp
  · rw [decide_eq_false e, decide_eq_false fun z => e (h _ _ z)]
theorem od_eq : OpD K rEq fEq := fun B F H σ γ x y d e Q q R rx ry hf k => by
  unfold fEq at hf
  split at hf
  all_goals first
    | exact hf.elim
    | (rw [rx.int, ry.int]; exact ⟨rfl, by rw [dec_inj V.int (fun _ _ e => V.int.inj e)]; exact vk R k (.bl _) hf⟩)
    | (rw [rx.str, ry.str]; exact ⟨rfl, by rw [dec_inj V.str (fun _ _ e => V.str.inj e)]; exact vk R k (.bl _) hf⟩)
    | (rw [rx.bl, ry.bl]; exact ⟨rfl, by rw [dec_inj V.bl (fun _ _ e => V.bl.inj e)]; exact vk R k (.bl _) hf⟩)
    | (rw [rx.non, ry.non]; exact ⟨rfl, vk R k (.bl _) hf⟩)
    | (rw [rx.int, ry.non]; exact ⟨rfl, vk R k (.bl _) hf⟩)
    | (rw [rx.non, ry.int]; exact ⟨rfl, vk R k (.bl _) hf⟩)
    | (rw [rx.str, ry.non]; exact ⟨rfl, vk R k (.bl _) hf⟩)
    | (rw [rx.non, ry.str]; exact ⟨rfl, vk R k (.bl _) hf⟩)
    | (rw [rx.int, ry.str]; exact ⟨rfl, vk R k (.bl _) hf⟩)
    | (rw [rx.str, ry.int]; exact ⟨rfl, vk R k (.bl _) hf⟩)
theorem od_ne : OpD K rNe fNe := fun B F H σ γ x y d e Q q R rx ry hf k => by
  unfold fNe at hf
  split at hf
  all_goals first
    | exact hf.elim
    | (rw [rx.int, ry.int]; exact ⟨rfl, by rw [dec_inj V.int (fun _ _ e => V.int.inj e)]; exact vk R k (.bl _) hf⟩)
    | (rw [rx.str, ry.str]; exact ⟨rfl, by rw [dec_inj V.str (fun _ _ e => V.str.inj e)]; exact vk R k (.bl _) hf⟩)
    | (rw [rx.bl, ry.bl]; exact ⟨rfl, by rw [dec_inj V.bl (fun _ _ e => V.bl.inj e)]; exact vk R k (.bl _) hf⟩)
    | (rw [rx.non, ry.non]; exact ⟨rfl, vk R k (.bl _) hf⟩)
    | (rw [rx.int, ry.non]; exact ⟨rfl, vk R k (.bl _) hf⟩)
    | (rw [rx.non, ry.int]; exact ⟨rfl, vk R k (.bl _) hf⟩)
    | (rw [rx.str, ry.non]; exact ⟨rfl, vk R k (.bl _) hf⟩)
    | (rw [rx.non, ry.str]; exact ⟨rfl, vk R k (.bl _) hf⟩)
    | (rw [rx.int, ry.str]; exact ⟨rfl, vk R k (.bl _) hf⟩)
    | (rw [rx.str, ry.int]; exact ⟨rfl, vk R k (.bl _) hf⟩)
def fIsN : D → D → (RS → Prop) → Prop
  | .non, .non, q => q (.val (.bl true))
  | _, .non, q => q (.val (.bl false))
  | _, _, _ => False
def fNotN : D → D → (RS → Prop) → Prop
  | .non, .non, q => q (.val (.bl false))
  | _, .non, q => q (.val (.bl true))
  | _, _, _ => False
theorem Rs.ne_non {K : KZ} {F H : Hp} {v : V} {d : D} (h : Rs K F H v d) (n : d ≠ .non) : v ≠ .non := fun e => by
  subst e
  rcases h with h | ⟨a, z, _⟩
  · cases h; exact n rfl
  · cases z
theorem od_isN : OpD K (fun x y H Q => y = .non ∧ Q (.bl (decide (x = .non))) H) fIsN := fun B F H σ γ x y d e Q q R rx ry hf k => by
  unfold fIsN at hf
  split at hf
  · rw [rx.non]; exact ⟨ry.non, vk R k (.bl _) hf⟩
  · rename_i n
    refine ⟨ry.non, ?_⟩
    rw [decide_eq_false (rx.ne_non fun z => n z)]
    exact vk R k (.bl _) hf
  · exact hf.elim
theorem od_notN : OpD K (fun x y H Q => y = .non ∧ Q (.bl (!decide (x = .non))) H) fNotN := fun B F H σ γ x y d e Q q R rx ry hf k => by
  unfold fNotN at hf
  split at hf
  · rw [rx.non]; exact ⟨ry.non, vk R k (.bl _) hf⟩
  · rename_i n
    refine ⟨ry.non, ?_⟩
    rw [decide_eq_false (rx.ne_non fun z => n z)]
    exact vk R k (.bl _) hf
  · exact hf.elim
def fAddS : D → D → (RS → Prop) → Prop
  | .str i, .str j, q => i.length + j.length ≤ 1000000 ∧ q (.val (.str (i ++ j)))
  | _, _, _ => False
theorem od_addS : OpD K (fun x y H Q => ∃ i j, x = .str i ∧ y = .str j ∧ i.length + j.length ≤ sizeLine ∧ Q (.str (i ++ j)) H) fAddS := fun B F H σ γ x y d e Q q R rx ry hf k => by
  unfold fAddS at hf
  split at hf
  · exact ⟨_, _, rx.str, ry.str, sz_le hf.1, vk R k (.str _) hf.2⟩
  · exact hf.elim
def fLtS : D → D → (RS → Prop) → Prop
  | .str i, .str j, q => q (.val (.bl (decide (i.cps.toList < j.cps.toList))))
  | _, _, _ => False
theorem od_ltS : OpD K (fun x y H Q => ∃ i j, x = .str i ∧ y = .str j ∧ Q (.bl (decide (i.cps.toList < j.cps.toList))) H) fLtS := fun B F H σ γ x y d e Q q R rx ry hf k => by
  unfold fLtS at hf
  split at hf
  · exact ⟨_, _, rx.str, ry.str, vk R k (.bl _) hf⟩
  · exact hf.elim
end

/-! ### lists and tuples -/
section
variable {K : PySem.W.Frag} {F H : Hp}
theorem rp_ints {K : KZ} : ∀ {vs : List V} {ns : List Int}, RpAll K F vs (ns.map D.int) → vs = ns.map V.int
  | _, [], .nil => rfl
  | _, n :: ns, .cons h t => by
    cases h
    rw [List.map_cons, rp_ints t]
theorem rp_bls {K : KZ} : ∀ {vs : List V} {ns : List Bool}, RpAll K F vs (ns.map D.bl) → vs = ns.map V.bl
  | _, [], .nil => rfl
  | _, n :: ns, .cons h t => by
    cases h
    rw [List.map_cons, rp_bls t]
theorem rp_strs {K : KZ} : ∀ {vs : List V} {ns : List Str}, RpAll K F vs (ns.map D.str) → vs = ns.map V.str
  | _, [], .nil => rfl
  | _, n :: ns, .cons h t => by
    cases h
    rw [List.map_cons, rp_strs t]
theorem ints_rp {K : KZ} : ∀ ns : List Int, RpAll K F (ns.map V.int) (ns.map D.int)
  | [] => .nil
  | n :: ns => .cons (.int n) (ints_rp ns)
theorem strs_rp {K : KZ} : ∀ ns : List Str, RpAll K F (ns.map V.str) (ns.map D.str)
  | [] => .nil
  | n :: ns => .cons (.str n) (strs_rp ns)
theorem bls_rp {K : KZ} : ∀ ns : List Bool, RpAll K F (ns.map V.bl) (ns.map D.bl)
  | [] => .nil
  | n :: ns => .cons (.bl n) (bls_rp ns)
theorem Rs.scr {K : KZ} {ns : List Int} {v : V} (e : Ex F H) (h : Rs K F H v (.scr ns)) : ∃ a, v = .ref a ∧ SqL K H a (ns.map V.int) := by
  rcases h with h | ⟨a, rfl, ⟨_, _, e, _⟩ | ⟨_, _, _, _, e, _⟩ | ⟨_, _, e, _⟩⟩
  · cases h with
    | scr h1 => exact ⟨_, rfl, ex_l e h1⟩
  all_goals cases e
theorem Rs.seq {K : KZ} {ds : List D} {v : V} {d : D} (e : Ex F H) (h : Rs K F H v d) (hd : d = .lst ds ∨ d = .tup ds ∨ (∃ ns, d = .scr ns ∧ ds = ns.map D.int)) : ∃ a vs, v = .ref a ∧ (SqL K H a vs ∨ SqT K H a vs) ∧ RpAll K F vs ds := by
  rcases hd with rfl | rfl | ⟨ns, rfl, rfl⟩
  · obtain ⟨a, vs, h1, h2, h3⟩ := h.lst e; exact ⟨a, vs, h1, .inl (Evl.sq_of h2), h3⟩
  · obtain ⟨a, vs, h1, h2, h3⟩ := h.tup e; exact ⟨a, vs, h1, .inr h2, h3⟩
  · obtain ⟨a, h1, h2⟩ := h.scr e; exact ⟨a, _, h1, .inl h2, ints_rp ns⟩
def fCat : D → D → (RS → Prop) → Prop
  | .lst xs, .lst ys, q => xs.length + ys.length ≤ 1000000 ∧ q (.new (.lst (xs ++ ys)))
  | _, _, _ => False
theorem od_cat : OpD K rCat fCat := fun B F H σ γ x y d e Q q R rx ry hf k => by
  unfold fCat at hf
  split at hf
  · obtain ⟨a, vs, rfl, h1, r1⟩ := rx.lst R.fh
    obtain ⟨b, ws, rfl, h2, r2⟩ := ry.lst R.fh
    refine ⟨a, b, vs, ws, rfl, rfl, h1, h2, sz_le (by rw [r1.length, r2.length]; exact hf.1), fun p hp => ?_⟩
    obtain ⟨R', ok⟩ := R.newL hp (RpAll.of (P_app r1.p r2.p))
    exact k _ F _ _ R' (Evl.Ex.refl F) ok hf.2
  · exact hf.elim
def fRep : D → D → (RS → Prop) → Prop
  | .lst xs, .int n, q => -1000000 ≤ n ∧ n ≤ 1000000 ∧ xs.length * n.toNat ≤ 1000000 ∧ q (.new (.lst (List.replicate n.toNat xs).flatten))
  | _, _, _ => False
theorem od_rep : OpD K rRep fRep := fun B F H σ γ x y d e Q q R rx ry hf k => by
  unfold fRep at hf
  split at hf
  · obtain ⟨a, vs, rfl, h1, r1⟩ := rx.lst R.fh
    obtain ⟨n1, n2, n3, hq⟩ := hf
    refine ⟨a, _, vs, rfl, ry.int, h1, by omega, by omega, sz_le (by rw [r1.length]; exact n3), fun p hp => ?_⟩
    obtain ⟨R', ok⟩ := R.newL hp (RpAll.of (P_rep r1.p _))
    exact k _ F _ _ R' (Evl.Ex.refl F) ok hq
  · exact hf.elim
theorem atI_p {G : V → D → Prop} {vs : List V} {ds : List D} {i : Int} {d : D} (h : Paired G vs ds) (e : atI ds i = some d) : ∃ v, atI vs i = some v ∧ G v d := by
  unfold atI at e ⊢
  rw [P_len h]
  cases hn : ixN ds.length i with
  | none => rw [hn] at e; cases e
  | some j =>
    rw [hn] at e
    exact P_get h e
def fIxL : D → D → (RS → Prop) → Prop
  | .lst xs, .int i, q => ∃ d, atI xs i = some d ∧ q (.val d)
  | .scr ns, .int i, q => ∃ n, atI ns i = some n ∧ q (.val (.int n))
  | _, _, _ => False
theorem atI_map {α β : Type} {f : α → β} {xs : List α} {i : Int} {x : α} (h : atI xs i = some x) : atI (xs.map f) i = some (f x) := by
  unfold atI at h ⊢
  rw [List.length_map]
  cases hn : ixN xs.length i with
  | none => rw [hn] at h; cases h
  | some j =>
    rw [hn] at h
    show (xs.map f)[j]? = _
    rw [List.getElem?_map, show xs[j]? = some x from h]; rfl
theorem od_ixL : OpD K (rIxL K) fIxL := fun B F H σ γ x y d e Q q R rx ry hf k => by
  unfold fIxL at hf
  split at hf
  · obtain ⟨a, vs, rfl, h1, r1⟩ := rx.lst R.fh
    obtain ⟨d, hd, hq⟩ := hf
    obtain ⟨v, hv, rv⟩ := atI_p r1.p hd
    exact ⟨a, vs, _, v, rfl, ry.int, Evl.sq_of h1, hv, vk R k rv hq⟩
  · obtain ⟨a, rfl, h1⟩ := rx.scr R.fh
    obtain ⟨n, hn, hq⟩ := hf
    exact ⟨a, _, _, .int n, rfl, ry.int, h1, atI_map hn, vk R k (.int n) hq⟩
  · exact hf.elim
def fIxT : D → D → (RS → Prop) → Prop
  | .tup xs, .int i, q => ∃ d, atI xs i = some d ∧ q (.val d)
  | _, _, _ => False
theorem od_ixT : OpD K (rIxT K) fIxT := fun B F H σ γ x y d e Q q R rx ry hf k => by
  unfold fIxT at hf
  split at hf
  · obtain ⟨a, vs, rfl, h1, r1⟩ := rx.tup R.fh
    obtain ⟨d, hd, hq⟩ := hf
    obtain ⟨v, hv, rv⟩ := atI_p r1.p hd
    exact ⟨a, vs, _, v, rfl, ry.int, h1, hv, vk R k rv hq⟩
  · exact hf.elim
def fIxS : D → D → (RS → Prop) → Prop
  | .str z, .int i, q => z.length ≤ 1000000 ∧ ∃ c, atI z.cps.toList i = some c ∧ q (.val (.str ⟨#[c]⟩))
  | _, _, _ => False
theorem od_ixS : OpD K rIxS fIxS := fun B F H σ γ x y d e Q q R rx ry hf k => by
  unfold fIxS at hf
  split at hf
  · obtain ⟨hz, c, hc, hq⟩ := hf
    exact ⟨_, _, c, rx.str, ry.int, sz_le hz, hc, vk R k (.str _) hq⟩
  · exact hf.elim

/-! ### built-in calls -/
def fLen : List D → (RS → Prop) → Prop
  | [.lst xs], q => q (.val (.int xs.length))
  | [.tup xs], q => q (.val (.int xs.length))
  | [.scr xs], q => q (.val (.int xs.length))
  | _, _ => False
theorem one_rs {P : V → D → Prop} {xs : List V} {d : D} (h : Paired P xs [d]) : ∃ x, xs = [x] ∧ P x d := by
  cases h with
  | cons r t => cases t; exact ⟨_, rfl, r⟩
theorem two_rs {P : V → D → Prop} {xs : List V} {d e : D} (h : Paired P xs [d, e]) : ∃ x y, xs = [x, y] ∧ P x d ∧ P y e := by
  cases h with
  | cons r t =>
    obtain ⟨y, rfl, ry⟩ := one_rs t
    exact ⟨_, _, rfl, r, ry⟩
theorem cd_len : CallD K (fun xs H Q => ∃ p ys, xs = [.ref p] ∧ (SqL K H p ys ∨ SqT K H p ys) ∧ Q (.int ys.length) H) fLen := fun B F H σ γ xs ds Q q R rx hf k => by
  unfold fLen at hf
  split at hf
  · obtain ⟨x, rfl, r⟩ := one_rs rx
    obtain ⟨a, vs, rfl, h1, r1⟩ := r.seq R.fh (.inl rfl)
    exact ⟨a, vs, rfl, h1, by rw [r1.length]; exact vk R k (.int _) hf⟩
  · obtain ⟨x, rfl, r⟩ := one_rs rx
    obtain ⟨a, vs, rfl, h1, r1⟩ := r.seq R.fh (.inr (.inl rfl))
    exact ⟨a, vs, rfl, h1, by rw [r1.length]; exact vk R k (.int _) hf⟩
  · obtain ⟨x, rfl, r⟩ := one_rs rx
    obtain ⟨a, vs, rfl, h1, r1⟩ := r.seq R.fh (.inr (.inr ⟨_, rfl, rfl⟩))
    refine ⟨a, vs, rfl, h1, ?_⟩
    have e := r1.length
    rw [List.length_map] at e
    rw [e]; exact vk R k (.int _) hf
  · exact hf.elim
def fLenS : List D → (RS → Prop) → Prop
  | [.str x], q => x.length ≤ 1000000 ∧ q (.val (.int x.length))
  | _, _ => False
theorem cd_lenS : CallD K (fun xs H Q => ∃ z, xs = [.str z] ∧ z.length ≤ sizeLine ∧ Q (.int z.length) H) fLenS := fun B F H σ γ xs ds Q q R rx hf k => by
  unfold fLenS at hf
  split at hf
  · obtain ⟨x, rfl, r⟩ := one_rs rx
    rw [r.str]
    exact ⟨_, rfl, sz_le hf.1, vk R k (.int _) hf.2⟩
  · exact hf.elim
def fInt : List D → (RS → Prop) → Prop
  | [.int i], q => q (.val (.int i))
  | [.bl b], q => q (.val (.int (if b then 1 else 0)))
  | _, _ => False
theorem cd_int : CallD K (fun xs H Q => (∃ i, xs = [.int i] ∧ Q (.int i) H) ∨ ∃ k, xs = [.bl k] ∧ Q (.int (if k then 1 else 0)) H) fInt := fun B F H σ γ xs ds Q q R rx hf k => by
  unfold fInt at hf
  split at hf
  · obtain ⟨x, rfl, r⟩ := one_rs rx
    rw [r.int]
    exact .inl ⟨_, rfl, vk R k (.int _) hf⟩
  · obtain ⟨x, rfl, r⟩ := one_rs rx
    rw [r.bl]
    exact .inr ⟨_, rfl, vk R k (.int _) hf⟩
  · exact hf.elim
def fAbs : List D → (RS → Prop) → Prop
  | [.int i], q => q (.val (.int (if i < 0 then -i else i)))
  | _, _ => False
theorem cd_abs : CallD K (fun xs H Q => ∃ i, xs = [.int i] ∧ Q (.int (if i < 0 then -i else i)) H) fAbs := fun B F H σ γ xs ds Q q R rx hf k => by
  unfold fAbs at hf
  split at hf
  · obtain ⟨x, rfl, r⟩ := one_rs rx
    rw [r.int]
    exact ⟨_, rfl, vk R k (.int _) hf⟩
  · exact hf.elim
def fI2 (g : Int → Int → Int) : List D → (RS → Prop) → Prop
  | [.int i, .int j], q => q (.val (.int (g i j)))
  | _, _ => False
theorem cd_I2 {g : Int → Int → Int} : CallD K (fun xs H Q => ∃ i j, xs = [.int i, .int j] ∧ Q (.int (g i j)) H) (fI2 g) := fun B F H σ γ xs ds Q q R rx hf k => by
  unfold fI2 at hf
  split at hf
  · obtain ⟨x, y, rfl, r, r'⟩ := two_rs rx
    rw [r.int, r'.int]
    exact ⟨_, _, rfl, vk R k (.int _) hf⟩
  · exact hf.elim
def fSum : List D → (RS → Prop) → Prop
  | [.lst ds], q => ∃ ns : List Int, ds = ns.map D.int ∧ q (.val (.int ns.sum))
  | _, _ => False
theorem cd_sum : CallD K (rSum K) fSum := fun B F H σ γ xs ds Q q R rx hf k => by
  unfold fSum at hf
  split at hf
  · obtain ⟨x, rfl, r⟩ := one_rs rx
    obtain ⟨ns, rfl, hq⟩ := hf
    obtain ⟨a, vs, rfl, h1, r1⟩ := r.lst R.fh
    rw [rp_ints r1] at h1
    exact ⟨a, ns, rfl, Evl.sq_of h1, vk R k (.int _) hq⟩
  · exact hf.elim
def fMin : List D → (RS → Prop) → Prop
  | [.lst ds], q => ∃ ns : List Int, ds = ns.map D.int ∧ 0 < ns.length ∧ ∀ m, m ∈ ns → (∀ y, y ∈ ns → m ≤ y) → q (.val (.int m))
  | _, _ => False
theorem cd_min : CallD K (rMin K) fMin := fun B F H σ γ xs ds Q q R rx hf k => by
  unfold fMin at hf
  split at hf
  · obtain ⟨x, rfl, r⟩ := one_rs rx
    obtain ⟨ns, rfl, hl, hq⟩ := hf
    obtain ⟨a, vs, rfl, h1, r1⟩ := r.lst R.fh
    rw [rp_ints r1] at h1
    exact ⟨a, ns, rfl, Evl.sq_of h1, hl, fun m h2 h3 => vk R k (.int _) (hq m h2 h3)⟩
  · exact hf.elim
def fMax : List D → (RS → Prop) → Prop
  | [.lst ds], q => ∃ ns : List Int, ds = ns.map D.int ∧ 0 < ns.length ∧ ∀ m, m ∈ ns → (∀ y, y ∈ ns → y ≤ m) → q (.val (.int m))
  | _, _ => False
theorem cd_max : CallD K (rMax K) fMax := fun B F H σ γ xs ds Q q R rx hf k => by
  unfold fMax at hf
  split at hf
  · obtain ⟨x, rfl, r⟩ := one_rs rx
    obtain ⟨ns, rfl, hl, hq⟩ := hf
    obtain ⟨a, vs, rfl, h1, r1⟩ := r.lst R.fh
    rw [rp_ints r1] at h1
    exact ⟨a, ns, rfl, Evl.sq_of h1, hl, fun m h2 h3 => vk R k (.int _) (hq m h2 h3)⟩
  · exact hf.elim
def fAll : List D → (RS → Prop) → Prop
  | [.lst ds], q => ∃ bs : List Bool, ds = bs.map D.bl ∧ q (.val (.bl (bs.all id)))
  | _, _ => False
theorem cd_all : CallD K (rAll K) fAll := fun B F H σ γ xs ds Q q R rx hf k => by
  unfold fAll at hf
  split at hf
  · obtain ⟨x, rfl, r⟩ := one_rs rx
    obtain ⟨ns, rfl, hq⟩ := hf
    obtain ⟨a, vs, rfl, h1, r1⟩ := r.lst R.fh
    rw [rp_bls r1] at h1
    exact ⟨a, ns, rfl, Evl.sq_of h1, vk R k (.bl _) hq⟩
  · exact hf.elim
def fAny : List D → (RS → Prop) → Prop
  | [.lst ds], q => ∃ bs : List Bool, ds = bs.map D.bl ∧ q (.val (.bl (bs.any id)))
  | _, _ => False
theorem cd_any : CallD K (rAny K) fAny := fun B F H σ γ xs ds Q q R rx hf k => by
  unfold fAny at hf
  split at hf
  · obtain ⟨x, rfl, r⟩ := one_rs rx
    obtain ⟨ns, rfl, hq⟩ := hf
    obtain ⟨a, vs, rfl, h1, r1⟩ := r.lst R.fh
    rw [rp_bls r1] at h1
    exact ⟨a, ns, rfl, Evl.sq_of h1, vk R k (.bl _) hq⟩
  · exact hf.elim
def fList : List D → (RS → Prop) → Prop
  | [.lst xs], q => q (.new (.lst xs))
  | [.tup xs], q => q (.new (.lst xs))
  | [.scr ns], q => q (.new (.lst (ns.map D.int)))
  | _, _ => False
theorem cd_list : CallD K (fun xs H Q => ∃ p ys, xs = [.ref p] ∧ (SqL K H p ys ∨ SqT K H p ys) ∧ ∀ l, H l = none → Q (.ref l) (upd H l (.lst ys))) fList := fun B F H σ γ xs ds Q q R rx hf k => by
  have key : ∀ {d : D} {ys : List D}, Paired (Rs (B.kz K) F H) xs [d] → (d = .lst ys ∨ d = .tup ys ∨ (∃ ns, d = .scr ns ∧ ys = ns.map D.int)) → q (.new (.lst ys)) → ∃ p ys, xs = [.ref p] ∧ (SqL K H p ys ∨ SqT K H p ys) ∧ ∀ l, H l = none → Q (.ref l) (upd H l (.lst ys)) := fun rx hd hq => by
    obtain ⟨x, rfl, r⟩ := one_rs rx
    obtain ⟨a, vs, rfl, h1, r1⟩ := r.seq R.fh hd
    refine ⟨a, vs, rfl, h1, fun l hl => ?_⟩
    obtain ⟨R', ok⟩ := R.newL hl r1
    exact k _ F _ _ R' (Evl.Ex.refl F) ok hq
  unfold fList at hf
  split at hf
  · exact key rx (.inl rfl) hf
  · exact key rx (.inr (.inl rfl)) hf
  · exact key rx (.inr (.inr ⟨_, rfl, rfl⟩)) hf
  · exact hf.elim
def fTuple : List D → (RS → Prop) → Prop
  | [.lst xs], q => q (.val (.tup xs))
  | [.tup xs], q => q (.val (.tup xs))
  | _, _ => False
/-- a tuple that is handed on is itself frozen -/
theorem Rs.tupF {K : KZ} {F H : Hp} {v : V} {ds : List D} (h : Rs K F H v (.tup ds)) : Rp K F v (.tup ds) := by
  rcases h with h | ⟨a, rfl, ⟨_, _, e, _⟩ | ⟨_, _, _, _, e, _⟩ | ⟨_, _, e, _⟩⟩
  · exact h
  all_goals cases e
theorem cd_tuple : CallD K (fun xs H Q => ∃ p ys, xs = [.ref p] ∧ ((SqL K H p ys ∧ ∀ l, H l = none → Q (.ref l) (upd H l (.tup ys))) ∨ (SqT K H p ys ∧ Q (.ref p) H))) fTuple := fun B F H σ γ xs ds Q q R rx hf k => by
  unfold fTuple at hf
  split at hf
  · obtain ⟨x, rfl, r⟩ := one_rs rx
    obtain ⟨a, vs, rfl, h1, r1⟩ := r.lst R.fh
    refine ⟨a, vs, rfl, .inl ⟨Evl.sq_of h1, fun l hl => ?_⟩⟩
    obtain ⟨R', ex, rp⟩ := R.newT hl r1
    exact k _ _ _ (.val _) R' ex rp hf
  · obtain ⟨x, rfl, r⟩ := one_rs rx
    have rf := r.tupF
    obtain ⟨a, vs, rfl, h1, r1⟩ := r.tup R.fh
    exact ⟨a, vs, rfl, .inr ⟨h1, vk R k rf hf⟩⟩
  · exact hf.elim
/-! isinstance -/
def D.cls : D → String
  | .non => "NoneType" | .bl _ => "bool" | .int _ => "int" | .str _ => "str" | .lst _ => "list" | .tup _ => "tuple" | .dct _ => "dict" | .scr _ => "list" | .ref _ => "" | .ty _ => "" | .obj _ _ => "" | .fr _ => ""
theorem kb_ii : kitB "int" "int" = some true := by decide +kernel
theorem kb_ib : kitB "int" "bool" = some false := by decide +kernel
theorem kb_il : kitB "int" "list" = some false := by decide +kernel
theorem kb_it : kitB "int" "tuple" = some false := by decide +kernel
theorem kb_is : kitB "int" "str" = some false := by decide +kernel
theorem kb_bi : kitB "bool" "int" = some true := by decide +kernel
theorem kb_bb : kitB "bool" "bool" = some true := by decide +kernel
theorem kb_li : kitB "list" "int" = some false := by decide +kernel
theorem kb_ll : kitB "list" "list" = some true := by decide +kernel
theorem kb_lt : kitB "list" "tuple" = some false := by decide +kernel
theorem kb_ti : kitB "tuple" "int" = some false := by decide +kernel
theorem kb_tt : kitB "tuple" "tuple" = some true := by decide +kernel
theorem kb_tl : kitB "tuple" "list" = some false := by decide +kernel
theorem kb_si : kitB "str" "int" = some false := by decide +kernel
theorem kb_sb : kitB "str" "bool" = some false := by decide +kernel
theorem kb_ss : kitB "str" "str" = some true := by decide +kernel
theorem kb_ni : kitB "NoneType" "int" = some false := by decide +kernel
theorem kb_nl : kitB "NoneType" "list" = some false := by decide +kernel
theorem kb_nt : kitB "NoneType" "tuple" = some false := by decide +kernel
def fIsi : List D → (RS → Prop) → Prop
  | [.int _, .ty n], q => ∃ r, kitB "int" n = some r ∧ q (.val (.bl r))
  | [.bl _, .ty n], q => ∃ r, kitB "bool" n = some r ∧ q (.val (.bl r))
  | [.str _, .ty n], q => ∃ r, kitB "str" n = some r ∧ q (.val (.bl r))
  | [.non, .ty n], q => ∃ r, kitB "NoneType" n = some r ∧ q (.val (.bl r))
  | [.lst _, .ty n], q => ∃ r, kitB "list" n = some r ∧ q (.val (.bl r))
  | [.tup _, .ty n], q => ∃ r, kitB "tuple" n = some r ∧ q (.val (.bl r))
  | [.dct _, .ty n], q => ∃ r, kitB "dict" n = some r ∧ q (.val (.bl r))
  | _, _ => False
theorem Rs.ty {K : KZ} {n : String} {v : V} (h : Rs K F H v (.ty n)) : v = .ty n := by
  rcases h with h | ⟨a, rfl, ⟨_, _, e, _⟩ | ⟨_, _, _, _, e, _⟩ | ⟨_, _, e, _⟩⟩
  · cases h; rfl
  all_goals cases e
theorem tyx_tup {a : Addr} {vs : List V} (h : SqT K H a vs) : TyX K H (.ref a) (.type "tuple") := by
  rcases h with (h | ⟨o, h⟩) | ⟨o, its, n, h1, h2, _⟩
  · exact .base (.tup h)
  · exact .fTuple h
  · exact .kTuple h1 h2
theorem Rs.dct {K : KZ} {kd : List (Key × D)} {v : V} (e : Ex F H) (h : Rs K F H v (.dct kd)) : ∃ a kv, v = .ref a ∧ H a = some (.dK kv) ∧ RpKs K F kv kd := by
  rcases h with h | ⟨a, rfl, ⟨vs, _, e, h1, h2⟩ | ⟨_, _, _, _, e, _⟩ | ⟨kv, kd', e1, h1, h2⟩⟩
  · cases h with
    | dct h1 h2 => exact ⟨_, _, rfl, e _ _ h1, h2⟩
  · cases e
  · cases e
  · cases e1; exact ⟨a, kv, rfl, h1, h2⟩
theorem cd_isi : CallD K (rIsi K) fIsi := fun B F H σ γ xs ds Q q R rx hf k => by
  have go : ∀ {x : V} {n a : String} {r : Bool}, TyX K H x (.type a) → kitB a n = some r → q (.val (.bl r)) → rIsi K [x, .ty n] H Q := fun t hi hq =>
    ⟨_, _, _, _, _, rfl, .ty _, t, kit_ty hi, vk R k (.bl _) hq⟩
  unfold fIsi at hf
  split at hf
  all_goals first
    | exact hf.elim
    | (obtain ⟨x, y, rfl, r, r'⟩ := two_rs rx; obtain ⟨b, hi, hq⟩ := hf; rw [r'.ty])
  · rw [r.int]; exact go (.base (.int _)) hi hq
  · rw [r.bl]; exact go (.base (.bl _)) hi hq
  · rw [r.str]; exact go (.base (.str _)) hi hq
  · rw [r.non]; exact go (.base .non) hi hq
  · obtain ⟨a, vs, rfl, h1, r1⟩ := r.lst R.fh; exact go (.base (.lst h1)) hi hq
  · obtain ⟨a, vs, rfl, h1, r1⟩ := r.tup R.fh; exact go (tyx_tup h1) hi hq
  · obtain ⟨a, vs, rfl, h1, r1⟩ := r.dct R.fh; exact go (.base (.dK h1)) hi hq
end
end DL

set_option Elab.async false
set_option linter.all false
set_option maxRecDepth 100000
set_option maxHeartbeats 2000000
namespace DL
open PySem PySem.Spec PyProof.Rows L2
open Evl (Ex ex_l ex_t)

/-! ### == at any depth -/
mutual
def D.py : D → PyData
  | .non => .none | .bl b => .bool b | .int i => .int i | .str x => .str x | .ref _ => .none | .ty _ => .none
  | .lst xs => .list (pyAll xs) | .tup xs => .tuple (pyAll xs) | .obj _ _ => .none | .dct _ => .none | .fr _ => .none | .scr ns => .list (ns.map PyData.int)
def pyAll : List D → List PyData
  | [] => []
  | x :: xs => x.py :: pyAll xs
end
mutual
def D.pure : D → Bool
  | .non => true | .bl _ => true | .int _ => true | .str _ => true | .ref _ => false | .ty _ => false
  | .lst xs => pureAll xs | .tup xs => pureAll xs | .obj _ _ => false | .dct _ => false | .fr _ => false | .scr _ => true
def pureAll : List D → Bool
  | [] => true
  | x :: xs => x.pure && pureAll xs
end
theorem pyAll_map {α : Type} (f : α → D) (g : α → PyData) (h : ∀ x, (f x).py = g x) : ∀ xs : List α, pyAll (xs.map f) = xs.map g
  | [] => rfl
  | x :: xs => by rw [List.map_cons, List.map_cons, pyAll, h, pyAll_map f g h xs]
theorem pureAll_map {α : Type} (f : α → D) (h : ∀ x, (f x).pure = true) : ∀ xs : List α, pureAll (xs.map f) = true
  | [] => rfl
  | x :: xs => by rw [List.map_cons, pureAll, h, pureAll_map f h xs]; rfl
def dOk (d : D) : Bool := d.pure && SeqAt.shaped d.py
def deq (d e : D) : Bool := PyData.eqv d.py e.py
section
variable {K : PySem.W.Frag} {F H : Hp}
theorem dp_ints : ∀ ns : List Int, DpAll K H (ns.map V.int) (ns.map PyData.int)
  | [] => .nil
  | n :: ns => .cons (.int n) (dp_ints ns)
mutual
theorem Rp.dp {K : KZ} (e : Ex F H) : ∀ {v : V} {d : D}, Rp K F v d → d.pure = true → Dp K H v d.py
  | _, _, .non, _ => .non
  | _, _, .bl b, _ => .bl b
  | _, _, .int i, _ => .int i
  | _, _, .str x, _ => .str x
  | _, _, .lst h a, p => .lst (Evl.sq_of (e _ _ h)) (RpAll.dp e a p)
  | _, _, .tup h a, p => .tup (ex_t e h) (RpAll.dp e a p)
  | _, _, .scr h, _ => .lst (ex_l e h) (dp_ints _)
theorem RpAll.dp {K : KZ} (e : Ex F H) : ∀ {v : List V} {d : List D}, RpAll K F v d → pureAll d = true → DpAll K H v (pyAll d)
  | _, _, .nil, _ => .nil
  | _, _, .cons h t, p => .cons (Rp.dp e h (Bool.and_eq_true_iff.mp p).1) (RpAll.dp e t (Bool.and_eq_true_iff.mp p).2)
end
theorem Rs.dp {K : KZ} {v : V} {d : D} (e : Ex F H) (h : Rs K F H v d) (p : d.pure = true) : Dp K H v d.py := by
  rcases h with h | ⟨a, rfl, ⟨vs, ds, rfl, h1, h2⟩ | ⟨_, _, _, _, rfl, _⟩ | ⟨_, _, rfl, _⟩⟩
  · exact h.dp e p
  · exact .lst (Evl.sq_of h1) (h2.dp e p)
  · cases p
  · cases p
def fEqD (d e : D) (q : RS → Prop) : Prop := dOk d = true ∧ dOk e = true ∧ q (.val (.bl (deq d e)))
def fNeD (d e : D) (q : RS → Prop) : Prop := dOk d = true ∧ dOk e = true ∧ q (.val (.bl (!deq d e)))
theorem od_eqD : OpD K (rEqD K) fEqD := fun B F H σ γ x y d e Q q R rx ry hf k => by
  obtain ⟨h1, h2, h3⟩ := hf
  obtain ⟨p1, s1⟩ := Bool.and_eq_true_iff.mp h1
  obtain ⟨p2, s2⟩ := Bool.and_eq_true_iff.mp h2
  exact ⟨_, _, rx.dp R.fh p1, ry.dp R.fh p2, s1, s2, vk R k (.bl _) h3⟩
theorem od_neD : OpD K (rNeD K) fNeD := fun B F H σ γ x y d e Q q R rx ry hf k => by
  obtain ⟨h1, h2, h3⟩ := hf
  obtain ⟨p1, s1⟩ := Bool.and_eq_true_iff.mp h1
  obtain ⟨p2, s2⟩ := Bool.and_eq_true_iff.mp h2
  exact ⟨_, _, rx.dp R.fh p1, ry.dp R.fh p2, s1, s2, vk R k (.bl _) h3⟩
end

/-! ### slices -/
def cut {α : Type} (xs : List α) (lo hi : Option Int) : List α := (xs.drop (HT.sIx xs.length 0 lo)).take (HT.sIx xs.length xs.length hi - HT.sIx xs.length 0 lo)
theorem cut_p {G : V → D → Prop} {vs : List V} {ds : List D} {lo hi : Option Int} (h : Paired G vs ds) : Paired G (cutV vs lo hi) (cut ds lo hi) := by
  unfold cutV cut
  rw [P_len h]
  exact P_take _ (P_drop _ h)
theorem cut_map {α β : Type} (f : α → β) (xs : List α) (lo hi : Option Int) : cut (xs.map f) lo hi = (cut xs lo hi).map f := by
  unfold cut
  rw [List.length_map, List.map_take, List.map_drop]
abbrev DO := Env → (Option Int → Env → Prop) → Prop
def SO (K : PySem.W.Frag) (to : TO) (dd : DO) : Prop := ∀ (B : Bs) (F H : Hp) (σ : L2.St) (γ : Env) (Q : Option Int → Hp → Prop) (q : Option Int → Env → Prop), Rep K B F H σ γ → dd γ q →
  (∀ b F' H' γ', Rep K B F' H' σ γ' → Ex F F' → q b γ' → Q b H') → to σ H Q
structure XO (X : Cx) (e : Option Expr) (to : TO) (dd : DO) : Prop where
  po : PO X e to
  so : SO X.K to dd
def dNo (γ : Env) (q : Option Int → Env → Prop) : Prop := q none γ
def dPart (de : DE) (γ : Env) (q : Option Int → Env → Prop) : Prop := de γ fun s γ1 => match s.data with
  | .int i => q (some i) γ1
  | _ => False
theorem xo_none {X : Cx} : XO X none tNoPart dNo := ⟨po_none, fun B F H σ γ Q q R hq k => k none F H γ R (Evl.Ex.refl F) hq⟩
theorem xo_some {X : Cx} {e : Expr} {te : TE} {de : DE} (h : XE X e te de) : XO X (some e) (tPart te) (dPart de) := ⟨po_some h.pe, fun B F H σ γ Q q R hq k => by
  refine h.se B F H σ γ _ _ R hq fun v F1 H1 γ1 s R1 e1 o1 h1 => ?_
  split at h1
  · rename_i i es
    have r := o1.rs R1
    rw [es] at r
    exact ⟨i, r.int, k _ F1 H1 γ1 R1 e1 h1⟩
  · exact h1.elim⟩
def dSl (f : D → Option Int → Option Int → (RS → Prop) → Prop) (de : DE) (dl dh : DO) (γ : Env) (q : RS → Env → Prop) : Prop := de γ fun s γ1 => dl γ1 fun lo γ2 => dh γ2 fun hi γ3 => s.ok γ3 ∧ f s.data lo hi fun r => q r γ3
def SlD (K : PySem.W.Frag) (r : V → Option Int → Option Int → Hp → VK → Prop) (f : D → Option Int → Option Int → (RS → Prop) → Prop) : Prop := ∀ (B : Bs) (F H : Hp) (σ : L2.St) (γ : Env) (x : V) (d : D) (lo hi : Option Int) (Q : VK) (q : RS → Prop), Rep K B F H σ γ → Rs (B.kz K) F H x d → f d lo hi q →
  (∀ v F' H' s, Rep K B F' H' σ γ → Ex F F' → RsOk K B F' H' σ γ v s → q s → Q v H') → r x lo hi H Q
theorem x_sl {X : Cx} {e : Expr} {lo hi : Option Expr} {p2 pos : Pos} {te : TE} {de : DE} {tl th : TO} {dl dh : DO} {r : V → Option Int → Option Int → Hp → VK → Prop} {f : D → Option Int → Option Int → (RS → Prop) → Prop} (hr : SlR X r) (hf : SlD X.K r f) (he : XE X e te de) (hl : XO X lo tl dl) (hh : XO X hi th dh) :
    XE X (.Subscript e (.Slice lo hi none p2) pos) (tSl r te tl th) (dSl f de dl dh) := ⟨pe_slice hr he.pe hl.po hh.po, fun B F H σ γ Q q R hq k => by
  refine he.se B F H σ γ _ _ R hq fun x F1 H1 γ1 s R1 e1 o1 h1 => ?_
  obtain ⟨F2, R2, e2, o2⟩ := o1.fz R1
  refine hl.so B F2 H1 σ γ1 _ _ R2 h1 fun a F3 H3 γ3 R3 e3 h3 => ?_
  refine hh.so B F3 H3 σ γ3 _ _ R3 h3 fun b F4 H4 γ4 R4 e4 ⟨h4, h5⟩ => ?_
  have ox := (o2.later (e3.trans e4) R4 (fz_ok s γ4 h4) (fz_idem s)).rs R4
  rw [RS.fz_data] at ox
  exact hf B F4 H4 σ γ4 x _ a b Q _ R4 ox h5 fun v F5 H5 u R5 e5 o5 h6 => k v F5 H5 γ4 u R5 ((((e1.trans e2).trans e3).trans e4).trans e5) o5 h6⟩
def fSlL : D → Option Int → Option Int → (RS → Prop) → Prop
  | .lst xs, lo, hi, q => q (.new (.lst (cut xs lo hi)))
  | .scr ns, lo, hi, q => q (.new (.lst ((cut ns lo hi).map D.int)))
  | _, _, _, _ => False
theorem sd_list {K : PySem.W.Frag} : SlD K (rSlL K) fSlL := fun B F H σ γ x d lo hi Q q R rx hf k => by
  unfold fSlL at hf
  split at hf
  · obtain ⟨a, vs, rfl, h1, r1⟩ := rx.lst R.fh
    refine ⟨a, vs, rfl, Evl.sq_of h1, fun p hp => ?_⟩
    obtain ⟨R', ok⟩ := R.newL hp (RpAll.of (cut_p r1.p))
    exact k _ F _ _ R' (Evl.Ex.refl F) ok hf
  · obtain ⟨a, rfl, h1⟩ := rx.scr R.fh
    refine ⟨a, _, rfl, h1, fun p hp => ?_⟩
    obtain ⟨R', ok⟩ := R.newL hp (RpAll.of (cut_p (ints_rp (K := B.kz K) (F := F) _).p))
    rw [cut_map] at ok
    exact k _ F _ _ R' (Evl.Ex.refl F) ok hf
  · exact hf.elim
def fSlT : D → Option Int → Option Int → (RS → Prop) → Prop
  | .tup xs, lo, hi, q => q (.val (.tup (cut xs lo hi)))
  | _, _, _, _ => False
def fRev : D → (RS → Prop) → Prop
  | .lst xs, q => q (.new (.lst xs.reverse))
  | _, _ => False
theorem x_revL {X : Cx} {e : Expr} {te : TE} {de : DE} {k : Nat} {p1 p2 p3 pos : Pos} (he : XE X e te de) : XE X (.Subscript e (.Slice none none (some (.UnaryOp .USub (.Constant (.int 1) k p1) p2)) p3) pos) (tRevL X.K te)
    (d1 fRev de) := ⟨pe_revL he.pe, fun B F H σ γ Q q R hq k => by
  refine he.se B F H σ γ _ _ R hq fun x F1 H1 γ1 s R1 e1 o1 h1 => ?_
  unfold fRev at h1
  split at h1
  · rename_i xs es
    obtain ⟨F2, R2, e2, o2⟩ := o1.fz R1
    have r := o2.rs R2
    rw [RS.fz_data, es] at r
    obtain ⟨a, vs, rfl, h2, r1⟩ := r.lst R2.fh
    refine ⟨a, vs, rfl, Evl.sq_of h2, fun p hp => ?_⟩
    obtain ⟨R', ok⟩ := R2.newL hp (RpAll.of (P_rev r1.p))
    exact k _ F2 _ γ1 _ R' (e1.trans e2) ok h1
  · exact h1.elim⟩

/-! ### displays -/
def allV : List RS → Prop
  | [] => True
  | .val _ :: r => allV r
  | _ :: _ => False
theorem allV_rp {K : PySem.W.Frag} {B : Bs} {F H : Hp} {σ : L2.St} {γ : Env} : ∀ {vs : List V} {rs : List RS}, Paired (RsOk K B F H σ γ) vs rs → allV rs → RpAll (B.kz K) F vs (rs.map RS.data)
  | _, _, .nil, _ => .nil
  | _, .val d :: _, .cons h t, a => .cons h (allV_rp t a)
def dLst (da : DA) (γ : Env) (q : RS → Env → Prop) : Prop := da γ fun rs γ1 => allV rs ∧ rs.length ≤ 1000000 ∧ q (.new (.lst (rs.map RS.data))) γ1
def dTup (da : DA) (γ : Env) (q : RS → Env → Prop) : Prop := da γ fun rs γ1 => allV rs ∧ rs.length ≤ 1000000 ∧ q (.val (.tup (rs.map RS.data))) γ1
section
variable {X : Cx} {es : List Expr} {ta : TA} {da : DA} {pos : Pos}
theorem x_lst (h : XA X es ta da) : XE X (.List es pos) (tLst ta) (dLst da) := ⟨pe_lst h.pa, fun B F H σ γ Q q R hq k => by
  refine h.sa B F H σ γ _ _ R hq fun vs F1 H1 γ1 rs R1 e1 o1 ⟨h1, h2, h3⟩ => ?_
  have ra := allV_rp o1 h1
  refine ⟨sz_le (by rw [P_len o1]; exact h2), fun p hp => ?_⟩
  obtain ⟨R', ok⟩ := R1.newL hp ra
  exact k _ F1 _ γ1 _ R' e1 ok h3⟩
theorem x_tup {x1} (h : XA X es ta da) : XE X (.Tuple es x1 pos) (tTup ta) (dTup da) := ⟨pe_tup h.pa, fun B F H σ γ Q q R hq k => by
  refine h.sa B F H σ γ _ _ R hq fun vs F1 H1 γ1 rs R1 e1 o1 ⟨h1, h2, h3⟩ => ?_
  have ra := allV_rp o1 h1
  refine ⟨sz_le (by rw [P_len o1]; exact h2), fun p hp => ?_⟩
  obtain ⟨R', ex, rp⟩ := R1.newT hp ra
  exact k _ _ _ γ1 (.val _) R' (e1.trans ex) rp h3⟩
end

/-! ### tests -/
def dB (de : DE) (γ : Env) (q : Bool → Env → Prop) : Prop := de γ fun s γ1 => match s.data with
  | .bl b => q b γ1
  | _ => False
def dAnd (t u : DT) (γ : Env) (q : Bool → Env → Prop) : Prop := t γ fun b γ1 => (b = true → u γ1 q) ∧ (b = false → q false γ1)
def dOr (t u : DT) (γ : Env) (q : Bool → Env → Prop) : Prop := t γ fun b γ1 => (b = true → q true γ1) ∧ (b = false → u γ1 q)
def dNot (t : DT) (γ : Env) (q : Bool → Env → Prop) : Prop := t γ fun b γ1 => q (!b) γ1
def dAndV (da db : DE) (γ : Env) (q : RS → Env → Prop) : Prop := da γ fun s γ1 => match s.data with
  | .bl b => (b = true → db γ1 q) ∧ (b = false → q (.val (.bl false)) γ1)
  | _ => False
def dOrV (da db : DE) (γ : Env) (q : RS → Env → Prop) : Prop := da γ fun s γ1 => match s.data with
  | .bl b => (b = true → q (.val (.bl true)) γ1) ∧ (b = false → db γ1 q)
  | _ => False
def dNotV (da : DE) (γ : Env) (q : RS → Env → Prop) : Prop := da γ fun s γ1 => match s.data with
  | .bl b => q (.val (.bl (!b))) γ1
  | _ => False
def dIfE (t : DT) (da db : DE) (γ : Env) (q : RS → Env → Prop) : Prop := t γ fun b γ1 => (b = true → da γ1 q) ∧ (b = false → db γ1 q)
def dTru (de : DE) (γ : Env) (q : Bool → Env → Prop) : Prop := de γ fun s γ1 => match s.data with
  | .lst xs => q (!xs.isEmpty) γ1
  | .tup xs => q (!xs.isEmpty) γ1
  | .int i => q (i != 0) γ1
  | .bl b => q b γ1
  | .non => q false γ1
  | .str x => x.length ≤ 1000000 ∧ q ((x.length : Int) != 0) γ1
  | _ => False
section
variable {K : PySem.W.Frag} {te : TE} {de : DE} {t u : TT} {dt du : DT}
theorem st_B (h : SE K te de) : ST K (tTest te) (dB de) := fun B F H σ γ Q q R hq k => by
  refine h B F H σ γ _ _ R hq fun v F1 H1 γ1 s R1 e1 o1 h1 => ?_
  split at h1
  · rename_i b es
    have r := o1.rs R1
    rw [es] at r
    exact ⟨b, r.bl, k _ F1 H1 γ1 R1 e1 h1⟩
  · exact h1.elim
theorem st_and (h1 : ST K t dt) (h2 : ST K u du) : ST K (tAnd t u) (dAnd dt du) := fun B F H σ γ Q q R hq k => by
  refine h1 B F H σ γ _ _ R hq fun b F1 H1 γ1 R1 e1 ⟨q1, q2⟩ => ?_
  cases b with
  | true =>
    show u σ H1 Q
    exact h2 B F1 H1 σ γ1 _ _ R1 (q1 rfl) fun c F2 H2 γ2 R2 e2 q3 => k c F2 H2 γ2 R2 (e1.trans e2) q3
  | false => exact k false F1 H1 γ1 R1 e1 (q2 rfl)
theorem st_or (h1 : ST K t dt) (h2 : ST K u du) : ST K (tOr t u) (dOr dt du) := fun B F H σ γ Q q R hq k => by
  refine h1 B F H σ γ _ _ R hq fun b F1 H1 γ1 R1 e1 ⟨q1, q2⟩ => ?_
  cases b with
  | false =>
    show u σ H1 Q
    exact h2 B F1 H1 σ γ1 _ _ R1 (q2 rfl) fun c F2 H2 γ2 R2 e2 q3 => k c F2 H2 γ2 R2 (e1.trans e2) q3
  | true => exact k true F1 H1 γ1 R1 e1 (q1 rfl)
theorem st_not (h1 : ST K t dt) : ST K (tNot t) (dNot dt) := fun B F H σ γ Q q R hq k =>
  h1 B F H σ γ _ _ R hq fun b F1 H1 γ1 R1 e1 q1 => k _ F1 H1 γ1 R1 e1 q1
theorem st_tru (h : SE K te de) : ST K (fun σ H Q => te σ H fun x H' => ∃ k, TruV K x H' k ∧ Q k H') (dTru de) := fun B F H σ γ Q q R hq k => by
  refine h B F H σ γ _ _ R hq fun v F1 H1 γ1 s R1 e1 o1 h1 => ?_
  have r := o1.rs R1
  split at h1
  · rename_i xs es
    rw [es] at r
    obtain ⟨a, vs, rfl, h2, r1⟩ := r.lst R1.fh
    refine ⟨_, .inl ⟨vs, Evl.sq_of h2, rfl⟩, ?_⟩
    have e : vs.isEmpty = xs.isEmpty := by
      have := r1.length
      cases vs <;> cases xs <;> first | rfl | (simp at this)
    rw [e]
    exact k _ F1 H1 γ1 R1 e1 h1
  · rename_i xs es
    rw [es] at r
    obtain ⟨a, vs, rfl, h2, r1⟩ := r.tup R1.fh
    refine ⟨_, .inr (.inl ⟨vs, h2, rfl⟩), ?_⟩
    have e : vs.isEmpty = xs.isEmpty := by
      have := r1.length
      cases vs <;> cases xs <;> first | rfl | (simp at this)
    rw [e]
    exact k _ F1 H1 γ1 R1 e1 h1
  · rename_i i es
    rw [es] at r
    rw [r.int]
    exact ⟨_, rfl, k _ F1 H1 γ1 R1 e1 h1⟩
  · rename_i i es
    rw [es] at r
    rw [r.bl]
    exact ⟨_, rfl, k _ F1 H1 γ1 R1 e1 h1⟩
  · rename_i es
    rw [es] at r
    rw [r.non]
    exact ⟨_, rfl, k _ F1 H1 γ1 R1 e1 h1⟩
  · rename_i i es
    rw [es] at r
    rw [r.str]
    exact ⟨_, ⟨sz_le h1.1, rfl⟩, k _ F1 H1 γ1 R1 e1 h1.2⟩
  · exact h1.elim
theorem se_and {ta tb : TE} {da db : DE} (h1 : SE K ta da) (h2 : SE K tb db) : SE K (tAndV ta tb) (dAndV da db) := fun B F H σ γ Q q R hq k => by
  refine h1 B F H σ γ _ _ R hq fun v F1 H1 γ1 s R1 e1 o1 q1 => ?_
  split at q1
  · rename_i b es
    have r := o1.rs R1
    rw [es] at r
    refine ⟨b, r.bl, ?_⟩
    cases b with
    | true =>
      show tb σ H1 Q
      exact h2 B F1 H1 σ γ1 _ _ R1 (q1.1 rfl) fun v F2 H2 γ2 s R2 e2 o2 q3 => k v F2 H2 γ2 s R2 (e1.trans e2) o2 q3
    | false => exact k _ F1 H1 γ1 (.val (.bl false)) R1 e1 (.bl _) (q1.2 rfl)
  · exact q1.elim
theorem se_or {ta tb : TE} {da db : DE} (h1 : SE K ta da) (h2 : SE K tb db) : SE K (tOrV ta tb) (dOrV da db) := fun B F H σ γ Q q R hq k => by
  refine h1 B F H σ γ _ _ R hq fun v F1 H1 γ1 s R1 e1 o1 q1 => ?_
  split at q1
  · rename_i b es
    have r := o1.rs R1
    rw [es] at r
    refine ⟨b, r.bl, ?_⟩
    cases b with
    | false =>
      show tb σ H1 Q
      exact h2 B F1 H1 σ γ1 _ _ R1 (q1.2 rfl) fun v F2 H2 γ2 s R2 e2 o2 q3 => k v F2 H2 γ2 s R2 (e1.trans e2) o2 q3
    | true => exact k _ F1 H1 γ1 (.val (.bl true)) R1 e1 (.bl _) (q1.1 rfl)
  · exact q1.elim
theorem se_not {ta : TE} {da : DE} (h1 : SE K ta da) : SE K (tNotV ta) (dNotV da) := fun B F H σ γ Q q R hq k => by
  refine h1 B F H σ γ _ _ R hq fun v F1 H1 γ1 s R1 e1 o1 q1 => ?_
  split at q1
  · rename_i b es
    have r := o1.rs R1
    rw [es] at r
    exact ⟨b, r.bl, k _ F1 H1 γ1 (.val (.bl (!b))) R1 e1 (.bl _) q1⟩
  · exact q1.elim
theorem se_if {ta tb : TE} {da db : DE} (h : ST K t dt) (h1 : SE K ta da) (h2 : SE K tb db) : SE K (tIf t ta tb) (dIfE dt da db) := fun B F H σ γ Q q R hq k => by
  refine h B F H σ γ _ _ R hq fun b F1 H1 γ1 R1 e1 q1 => ?_
  cases b with
  | true =>
    show ta σ H1 Q
    exact h1 B F1 H1 σ γ1 _ _ R1 (q1.1 rfl) fun v F2 H2 γ2 s R2 e2 o2 q3 => k v F2 H2 γ2 s R2 (e1.trans e2) o2 q3
  | false =>
    show tb σ H1 Q
    exact h2 B F1 H1 σ γ1 _ _ R1 (q1.2 rfl) fun v F2 H2 γ2 s R2 e2 o2 q3 => k v F2 H2 γ2 s R2 (e1.trans e2) o2 q3
/-- a op b op' c -/
def dChain (f g : D → D → (RS → Prop) → Prop) (da db dc : DE) (γ : Env) (q : RS → Env → Prop) : Prop := da γ fun s γ1 => db γ1 fun t γ2 => s.ok γ2 ∧ f s.data t.data fun r => match r with
  | .val (.bl b) => (b = true → dc γ2 fun u γ3 => t.ok γ3 ∧ g t.data u.data fun r' => q r' γ3) ∧ (b = false → q (.val (.bl false)) γ2)
  | _ => False
theorem se_chain {ta tb tc : TE} {da db dc : DE} {r r' : R2} {f g : D → D → (RS → Prop) → Prop} (hf : OpD K r f) (hg : OpD K r' g) (ha : SE K ta da) (hb : SE K tb db) (hc : SE K tc dc) : SE K (tChain r r' ta tb tc) (dChain f g da db dc) := fun B F H σ γ Q q R hq k => by
  refine ha B F H σ γ _ _ R hq fun x F1 H1 γ1 s R1 e1 o1 h1 => ?_
  obtain ⟨F2, R2, e2, o2⟩ := o1.fz R1
  refine hb B F2 H1 σ γ1 _ _ R2 h1 fun y F3 H3 γ3 t R3 e3 o3 ⟨h3, h4⟩ => ?_
  obtain ⟨F4, R4, e4, o4⟩ := o3.fz R3
  have ox := o2.later (e3.trans e4) R4 (fz_ok s γ3 h3) (fz_idem s)
  have rx := ox.rs R4
  have ry := o4.rs R4
  rw [RS.fz_data] at rx ry
  refine hf B F4 H3 σ γ3 x y _ _ _ _ R4 rx ry h4 fun v F5 H5 u R5 e5 o5 h5 => ?_
  split at h5
  · rename_i b
    have ev : v = .bl b := (o5.rs R5).bl
    refine ⟨b, ev, ?_⟩
    cases b with
    | true =>
      show tc σ H5 _
      refine hc B F5 H5 σ γ3 _ _ R5 (h5.1 rfl) fun z F6 H6 γ6 u R6 e6 o6 ⟨h6, h7⟩ => ?_
      obtain ⟨F7, R7, e7, o7⟩ := o6.fz R6
      have oy := (o4.later ((e5.trans e6).trans e7) R7 (fz_ok t γ6 h6) (fz_idem t)).rs R7
      have oz := o7.rs R7
      rw [RS.fz_data] at oy oz
      exact hg B F7 H6 σ γ6 y z _ _ Q _ R7 oy oz h7 fun v F8 H8 u R8 e8 o8 h8 => k v F8 H8 γ6 u R8 (((((((e1.trans e2).trans e3).trans e4).trans e5).trans e6).trans e7).trans e8) o8 h8
    | false => exact k _ F5 H5 γ3 (.val (.bl false)) R5 ((((e1.trans e2).trans e3).trans e4).trans e5) (.bl _) (h5.2 rfl)
  · exact h5.elim
end
section
variable {X : Cx} {pos : Pos} {a b c : Expr} {ta tb tc : TE} {da db dc : DE} {t u : TT} {dt du : DT} {rest : List Expr}
theorem t_cmp {op : CmpOp} {r : R2} {f : D → D → (RS → Prop) → Prop} (ho : OpR X (compareOp op) r) (hd : OpD X.K r f) (ha : XE X a ta da) (hb : XE X b tb db) (hm : behindInMarks op b = false := by first | exact nomark _ | rfl) : XT X (.Compare a [op] [b] pos) (tTest (tOp r ta tb)) (dB (d2 f da db)) :=
  ⟨pt_cmpR ho ha.pe hb.pe hm, st_B (se_op hd ha.se hb.se)⟩
theorem t_val {e : Expr} {te : TE} {de : DE} (h : XE X e te de) (he : ∀ whole, isTrue e X.env whole = (do let v ← whole; standAt e.pos; holding [v] (truthy v)) := by intro _; rfl) : XT X e (tB te) (dB de) := ⟨pt_val h.pe he, st_B h.se⟩
theorem t_tru {e : Expr} {te : TE} {de : DE} (h : XE X e te de) (he : ∀ whole, isTrue e X.env whole = (do let v ← whole; standAt e.pos; holding [v] (truthy v)) := by intro _; rfl) : XT X e (fun σ H Q => te σ H fun x H' => ∃ k, TruV X.K x H' k ∧ Q k H') (dTru de) := ⟨pt_truth h.pe he, st_tru h.se⟩
theorem w_and1 (h : XT X a t dt) : XW X (.BoolOp .And [a] pos) t dt := ⟨pw_and1 h.pt, h.st⟩
theorem w_or1 (h : XT X a t dt) : XW X (.BoolOp .Or [a] pos) t dt := ⟨pw_or1 h.pt, h.st⟩
theorem w_and (h : XT X a t dt) (h2 : XW X (.BoolOp .And (b :: rest) pos) u du) : XW X (.BoolOp .And (a :: b :: rest) pos) (tAnd t u) (dAnd dt du) := ⟨pw_and h.pt h2.pw, st_and h.st h2.st⟩
theorem w_or (h : XT X a t dt) (h2 : XW X (.BoolOp .Or (b :: rest) pos) u du) : XW X (.BoolOp .Or (a :: b :: rest) pos) (tOr t u) (dOr dt du) := ⟨pw_or h.pt h2.pw, st_or h.st h2.st⟩
theorem t_w {e : Expr} (h : XW X e t dt) : XT X e t dt := ⟨h.pw.pt, h.st⟩
theorem t_not (h : XT X a t dt) : XT X (.UnaryOp .Not a pos) (tNot t) (dNot dt) := ⟨pt_not h.pt, st_not h.st⟩
theorem t_chain {op op' : CmpOp} {r r' : R2} {f g : D → D → (RS → Prop) → Prop} (ho : OpR X (compareOp op) r) (ho' : OpR X (compareOp op') r') (hd : OpD X.K r f) (hd' : OpD X.K r' g) (ha : XE X a ta da) (hb : XE X b tb db) (hc : XE X c tc dc) (hm : lastMarks [op, op'] [b, c] = false := by with_unfolding_all rfl) :
    XT X (.Compare a [op, op'] [b, c] pos) (tTest (tChain r r' ta tb tc)) (dB (dChain f g da db dc)) := ⟨pt_chain ho ho' ha.pe hb.pe hc.pe hm, st_B (se_chain hd hd' ha.se hb.se hc.se)⟩
theorem x_chain {op op' : CmpOp} {r r' : R2} {f g : D → D → (RS → Prop) → Prop} (ho : OpR X (compareOp op) r) (ho' : OpR X (compareOp op') r') (hd : OpD X.K r f) (hd' : OpD X.K r' g) (ha : XE X a ta da) (hb : XE X b tb db) (hc : XE X c tc dc) (hm : lastMarks [op, op'] [b, c] = false := by with_unfolding_all rfl) :
    XE X (.Compare a [op, op'] [b, c] pos) (tChain r r' ta tb tc) (dChain f g da db dc) := ⟨pe_chain ho ho' ha.pe hb.pe hc.pe hm, se_chain hd hd' ha.se hb.se hc.se⟩
theorem x_one {op} (h : XE X a ta da) : XE X (.BoolOp op [a] pos) ta da := ⟨pe_one h.pe, h.se⟩
theorem x_and (h : XE X a ta da) (h2 : XE X (.BoolOp .And (b :: rest) pos) tb db) : XE X (.BoolOp .And (a :: b :: rest) pos) (tAndV ta tb) (dAndV da db) := ⟨pe_and h.pe h2.pe, se_and h.se h2.se⟩
theorem x_or (h : XE X a ta da) (h2 : XE X (.BoolOp .Or (b :: rest) pos) tb db) : XE X (.BoolOp .Or (a :: b :: rest) pos) (tOrV ta tb) (dOrV da db) := ⟨pe_or h.pe h2.pe, se_or h.se h2.se⟩
theorem x_not (h : XE X a ta da) : XE X (.UnaryOp .Not a pos) (tNotV ta) (dNotV da) := ⟨pe_not h.pe, se_not h.se⟩
theorem x_if (h : XT X c t dt) (h1 : XE X a ta da) (h2 : XE X b tb db) : XE X (.IfExp c a b pos) (tIf t ta tb) (dIfE dt da db) := ⟨pe_ifExp h.pt h1.pe h2.pe, se_if h.st h1.se h2.se⟩
end
end DL

set_option Elab.async false
set_option linter.all false
set_option maxRecDepth 100000
set_option maxHeartbeats 2000000
namespace DL
open PySem PySem.Spec PyProof.Rows L2
open Evl (Ex ex_l ex_t)

structure DEnds where
  nx : Env → Prop
  rt : RS → Env → Prop
  bk : Env → Prop := fun _ => False
  ct : Env → Prop := fun _ => False
abbrev DS := DEnds → Env → Prop
structure EndsOk (K : PySem.W.Frag) (B : Bs) (F0 : Hp) (E : Ends) (d : DEnds) : Prop where
  nx : ∀ F H σ γ, Rep K B F H σ γ → Ex F0 F → d.nx γ → E.nx σ H
  rt : ∀ F H σ γ v s, Rep K B F H σ γ → Ex F0 F → RsOk K B F H σ γ v s → d.rt s γ → E.rt v H
  bk : ∀ F H σ γ, Rep K B F H σ γ → Ex F0 F → d.bk γ → E.bk σ H
  ct : ∀ F H σ γ, Rep K B F H σ γ → Ex F0 F → d.ct γ → E.ct σ H
def SS (K : PySem.W.Frag) (ts : TS) (ds : DS) : Prop := ∀ (B : Bs) (F H : Hp) (σ : L2.St) (γ : Env) (E : Ends) (d : DEnds), Rep K B F H σ γ → ds d γ → EndsOk K B F E d → ts E σ H
structure XS (X : Cx) (st : Stmt) (ts : TS) (ds : DS) : Prop where
  ps : PS X st ts
  ss : SS X.K ts ds
structure XSs (X : Cx) (st : List Stmt) (ts : TS) (ds : DS) : Prop where
  ps : PSs X st ts
  ss : SS X.K ts ds
section
variable {K : PySem.W.Frag} {B : Bs} {F F' H : Hp} {σ : L2.St} {γ : Env} {E : Ends} {d : DEnds}
theorem EndsOk.mono (h : EndsOk K B F E d) (e : Ex F F') : EndsOk K B F' E d :=
  ⟨fun F2 H2 σ2 γ2 R x => h.nx F2 H2 σ2 γ2 R (e.trans x), fun F2 H2 σ2 γ2 v s R x => h.rt F2 H2 σ2 γ2 v s R (e.trans x), fun F2 H2 σ2 γ2 R x => h.bk F2 H2 σ2 γ2 R (e.trans x), fun F2 H2 σ2 γ2 R x => h.ct F2 H2 σ2 γ2 R (e.trans x)⟩
theorem get_set {i j : Nat} {v : V} {s : Option V} (h : (σ.set i (some v))[j]? = some s) : (j = i ∧ s = some v) ∨ (j ≠ i ∧ σ[j]? = some s) := by
  by_cases e : i = j
  · subst e
    by_cases hl : i < σ.length
    · rw [List.getElem?_set_self hl] at h; exact .inl ⟨rfl, (Option.some.inj h).symm⟩
    · rw [List.getElem?_eq_none (by rw [List.length_set]; omega)] at h; cases h
  · rw [List.getElem?_set_ne e] at h; exact .inr ⟨fun z => e z.symm, h⟩
theorem Rep.setVal (R : Rep K B F H σ γ) (i : Nat) {v : V} {x : D} (r : Rp (B.kz K) F v x) : Rep K B F H (σ.set i (some v)) (put γ i (.val x)) := by
  have key : ∀ {j : Nat} {p : Option Nat} {c : OC} {a : Addr}, (put γ i (.val x))[j]? = some (.own p c) → (σ.set i (some v))[j]? = some (some (.ref a)) → γ[j]? = some (.own p c) ∧ σ[j]? = some (some (.ref a)) := fun h h2 => by
    rcases get_put h with ⟨_, e⟩ | ⟨n, e⟩
    · cases e
    · rcases get_set h2 with ⟨z, _⟩ | ⟨_, e2⟩
      · exact absurd z n
      · exact ⟨e, e2⟩
  refine ⟨R.fh, by rw [put_len, List.length_set]; exact R.len, fun j s u hs hg => ?_, fun i j a p c q c' h1 h2 h3 h4 => R.nd i j a p c q c' (key h1 h3).1 (key h2 h4).1 (key h1 h3).2 (key h2 h4).2, R.b1, R.b2, R.b3,
    fun j a p c h1 h2 => R.b4 j a p c (key h1 h2).1 (key h1 h2).2, fun j a p c h1 h2 => R.b5 j a p c (key h1 h2).1 (key h1 h2).2, R.bN, R.bd⟩
  rcases get_put hg with ⟨rfl, rfl⟩ | ⟨n, e⟩
  · rcases get_set hs with ⟨_, rfl⟩ | ⟨z, _⟩
    · exact ⟨v, rfl, r⟩
    · exact absurd rfl z
  · rcases get_set hs with ⟨z, _⟩ | ⟨_, e2⟩
    · exact absurd z n
    · exact R.sl j s u e2 e
theorem Rep.setNew (R : Rep K B F H σ γ) (i : Nat) {a : Addr} {c : OC} (N : RNew K B F H σ γ a c) : Rep K B F H (σ.set i (some (.ref a))) (put γ i (.own none c)) := by
  have key : ∀ {j : Nat} {p : Option Nat} {c' : OC} {b : Addr}, (put γ i (.own none c))[j]? = some (.own p c') → (σ.set i (some (.ref a)))[j]? = some (some (.ref b)) → (j = i ∧ p = none ∧ b = a) ∨ (j ≠ i ∧ γ[j]? = some (.own p c') ∧ σ[j]? = some (some (.ref b))) := fun h h2 => by
    rcases get_put h with ⟨z, e⟩ | ⟨n, e⟩
    · rcases get_set h2 with ⟨_, e2⟩ | ⟨z2, _⟩
      · injection e with e1 _
        injection e2 with e2
        injection e2 with e2
        exact .inl ⟨z, e1, e2⟩
      · exact absurd z z2
    · rcases get_set h2 with ⟨z, _⟩ | ⟨_, e2⟩
      · exact absurd z n
      · exact .inr ⟨n, e, e2⟩
  refine ⟨R.fh, by rw [put_len, List.length_set]; exact R.len, fun j s u hs hg => ?_, fun i' j' b p c1 q c2 h1 h2 h3 h4 => ?_, R.b1, R.b2, R.b3, fun j b p c1 h1 h2 => ?_, fun j b p c1 h1 h2 => ?_, R.bN, R.bd⟩
  · rcases get_put hg with ⟨rfl, rfl⟩ | ⟨n, e⟩
    · rcases get_set hs with ⟨_, rfl⟩ | ⟨z, _⟩
      · exact ⟨a, rfl, N.fa, N.ok⟩
      · exact absurd rfl z
    · rcases get_set hs with ⟨z, _⟩ | ⟨_, e2⟩
      · exact absurd z n
      · exact R.sl j s u e2 e
  · rcases key h1 h3 with ⟨z1, _, z2⟩ | ⟨n1, y1, y2⟩
    · rcases key h2 h4 with ⟨z3, _, _⟩ | ⟨_, y3, y4⟩
      · rw [z1, z3]
      · rw [z2] at y4
        exact absurd y4 (N.na j' q c2 y3)
    · rcases key h2 h4 with ⟨_, _, z4⟩ | ⟨_, y3, y4⟩
      · rw [z4] at y2
        exact absurd y2 (N.na i' p c1 y1)
      · exact R.nd i' j' b p c1 q c2 y1 y3 y2 y4
  · rcases key h1 h2 with ⟨_, rfl, rfl⟩ | ⟨_, y1, y2⟩
    · exact ⟨fun k z => (by cases z), fun _ => N.bn⟩
    · exact R.b4 j b p c1 y1 y2
  · rcases key h1 h2 with ⟨_, _, rfl⟩ | ⟨_, y1, y2⟩
    · exact N.bm
    · exact R.b5 j b p c1 y1 y2
end

/-! ### blocks and small statements -/
def dNext (d : DEnds) (γ : Env) : Prop := d.nx γ
def dSeq (s t : DS) (d : DEnds) (γ : Env) : Prop := s { d with nx := t d } γ
def dDrop (de : DE) (d : DEnds) (γ : Env) : Prop := de γ fun _ γ1 => d.nx γ1
def dRet (de : DE) (d : DEnds) (γ : Env) : Prop := de γ d.rt
def dRetN (d : DEnds) (γ : Env) : Prop := d.rt (.val .non) γ
def dBreak (d : DEnds) (γ : Env) : Prop := d.bk γ
def dCont (d : DEnds) (γ : Env) : Prop := d.ct γ
def dIf (t : DT) (a b : DS) (d : DEnds) (γ : Env) : Prop := t γ fun c γ1 => (c = true → a d γ1) ∧ (c = false → b d γ1)
def dAsg (i : Nat) (de : DE) (d : DEnds) (γ : Env) : Prop := de γ fun s γ1 => match s with
  | .val x => d.nx (put γ1 i (.val x))
  | .new c => d.nx (put γ1 i (.own none c))
  | .own _ _ => False
/-- targets -/
abbrev DG := D → Env → (Env → Prop) → Prop
abbrev DGs := List D → Env → (Env → Prop) → Prop
/-- outside of ix the slots stay -/
def Off (ix : List Nat) (σ σ' : L2.St) : Prop := σ'.length = σ.length ∧ ∀ j, j ∉ ix → σ'[j]? = σ[j]?
def SG (K : PySem.W.Frag) (g : TG) (dg : DG) (ix : List Nat) : Prop := ∀ (B : Bs) (F H : Hp) (σ : L2.St) (γ : Env) (v : V) (x : D) (Q : L2.St → Hp → Prop) (q : Env → Prop), Rep K B F H σ γ → Rp (B.kz K) F v x → dg x γ q →
  (∀ σ' γ', Rep K B F H σ' γ' → Off ix σ σ' → q γ' → Q σ' H) → g v σ H Q
def SGs (K : PySem.W.Frag) (g : TGs) (dg : DGs) (ix : List Nat) : Prop := ∀ (B : Bs) (F H : Hp) (σ : L2.St) (γ : Env) (vs : List V) (xs : List D) (Q : L2.St → Hp → Prop) (q : Env → Prop), Rep K B F H σ γ → RpAll (B.kz K) F vs xs → dg xs γ q →
  (∀ σ' γ', Rep K B F H σ' γ' → Off ix σ σ' → q γ' → Q σ' H) → g vs σ H Q
structure XG (X : Cx) (tg : Expr) (g : TG) (dg : DG) (ix : List Nat) : Prop where
  pg : PG X tg g
  sg : SG X.K g dg ix
structure XGs (X : Cx) (tg : List Expr) (g : TGs) (dg : DGs) (ix : List Nat) : Prop where
  pg : PGs X tg g
  sg : SGs X.K g dg ix
def gN (i : Nat) (x : D) (γ : Env) (q : Env → Prop) : Prop := q (put γ i (.val x))
def gsNil (xs : List D) (γ : Env) (q : Env → Prop) : Prop := xs = [] ∧ q γ
def gsCons (g : DG) (r : DGs) (xs : List D) (γ : Env) (q : Env → Prop) : Prop := match xs with
  | x :: ys => g x γ fun γ1 => r ys γ1 q
  | [] => False
def gT (n : Nat) (gs : DGs) (x : D) (γ : Env) (q : Env → Prop) : Prop := match x with
  | .tup xs => xs.length = n ∧ gs xs γ q
  | _ => False
def dAsgG (de : DE) (g : DG) (d : DEnds) (γ : Env) : Prop := de γ fun s γ1 => match s with
  | .own _ _ => False
  | s => g s.data γ1 d.nx
section
variable {X : Cx} {st : Stmt} {rest : List Stmt} {t u : TS} {ds du : DS} {e : Expr} {te : TE} {de : DE} {pos : Pos}
theorem ss_nil : XSs X [] tNext dNext := ⟨pss_nil, fun B F H σ γ E d R h k => k.nx F H σ γ R (Evl.Ex.refl F) h⟩
theorem ss_cons (h1 : XS X st t ds) (h2 : XSs X rest u du) : XSs X (st :: rest) (tSeq t u) (dSeq ds du) := ⟨pss_cons h1.ps h2.ps, fun B F H σ γ E d R h k =>
  h1.ss B F H σ γ { E with nx := u E } { d with nx := du d } R h ⟨fun F1 H1 σ1 γ1 R1 e1 q => h2.ss B F1 H1 σ1 γ1 E d R1 q (k.mono e1), k.rt, k.bk, k.ct⟩⟩
theorem ss_one (h1 : XS X st t ds) : XSs X [st] t ds := ⟨pss_one h1.ps, h1.ss⟩
theorem s_break : XS X (.Break pos) tBreak dBreak := ⟨ps_break, fun B F H σ γ E d R h k => k.bk F H σ γ R (Evl.Ex.refl F) h⟩
theorem s_cont : XS X (.Continue pos) tCont dCont := ⟨ps_continue, fun B F H σ γ E d R h k => k.ct F H σ γ R (Evl.Ex.refl F) h⟩
theorem s_pass : XS X (.Pass pos) tNext dNext := ⟨ps_pass, fun B F H σ γ E d R h k => k.nx F H σ γ R (Evl.Ex.refl F) h⟩
theorem s_expr (he : XE X e te de) (hs : swapsWith e none pos.line X.env = pure false := by rfl) : XS X (.Expr e pos) (tDrop te) (dDrop de) := ⟨ps_expr he.pe hs, fun B F H σ γ E d R h k =>
  he.se B F H σ γ _ _ R h fun v F1 H1 γ1 s R1 e1 _ q => k.nx F1 H1 σ γ1 R1 e1 q⟩
theorem s_ret (he : XE X e te de) : XS X (.Return (some e) pos) (tRet te) (dRet de) := ⟨ps_ret he.pe, fun B F H σ γ E d R h k =>
  he.se B F H σ γ _ _ R h fun v F1 H1 γ1 s R1 e1 o1 q => k.rt F1 H1 σ γ1 v s R1 e1 o1 q⟩
theorem s_retN : XS X (.Return none pos) tRetN dRetN := ⟨ps_retN, fun B F H σ γ E d R h k => k.rt F H σ γ _ (.val .non) R (Evl.Ex.refl F) .non h⟩
theorem s_if {c : Expr} {a b : List Stmt} {tc : TT} {dc : DT} (hc : XT X c tc dc) (ha : XSs X a t ds) (hb : XSs X b u du) : XS X (.If c a b pos) (tIfS tc t u) (dIf dc ds du) := ⟨ps_if hc.pt ha.ps hb.ps, fun B F H σ γ E d R h k => by
  refine hc.st B F H σ γ _ _ R h fun b F1 H1 γ1 R1 e1 q => ?_
  cases b with
  | true => exact ha.ss B F1 H1 σ γ1 E d R1 (q.1 rfl) (k.mono e1)
  | false => exact hb.ss B F1 H1 σ γ1 E d R1 (q.2 rfl) (k.mono e1)⟩
theorem sa_name {K : PySem.W.Frag} {i : Nat} (h : SE K te de) : SS K (tAsg te (gName i)) (dAsg i de) := fun B F H σ γ E d R hq k => by
  refine h B F H σ γ _ _ R hq fun v F1 H1 γ1 s R1 e1 o1 q => ?_
  cases s with
  | val x => exact k.nx F1 H1 _ _ (R1.setVal i o1) e1 q
  | new c =>
    obtain ⟨a, rfl, N⟩ := o1
    exact k.nx F1 H1 _ _ (R1.setNew i N) e1 q
  | own j c => exact q.elim
theorem s_set (i : Nat) {x : Str} {pos' : Pos} (hN : X.N.Nodup) (he : XE X e te de) (hi : X.N[i]? = some x := by rfl) (hx : Loc X.env.scope x := by first | exact Or.inl rfl | exact Or.inr rfl) (hs : swapsWith e (some (.Name x pos')) pos.line X.env = pure false := by rfl)
    (hf : X.fn x = true ∨ X.env.scope.names.lookup x = some .local := by first | exact .inl rfl | exact .inr rfl) : XS X (.Assign [.Name x pos'] e pos) (tAsg te (gName i)) (dAsg i de) := ⟨ps_set hN hi hx he.pe hs hf, sa_name he.se⟩
theorem g_name (i : Nat) {x : Str} (hN : X.N.Nodup) (hi : X.N[i]? = some x := by rfl) (hx : Loc X.env.scope x := by first | exact Or.inl rfl | exact Or.inr rfl) (hf : X.fn x = true ∨ X.env.scope.names.lookup x = some .local := by first | exact .inl rfl | exact .inr rfl) : XG X (.Name x pos) (gName i) (gN i) [i] :=
  ⟨pg_name hN hi hx hf, fun B F H σ γ v x Q q R r h k => k _ _ (R.setVal i r) ⟨by rw [List.length_set], fun j hj => List.getElem?_set_ne fun e => hj (by rw [e]; exact List.mem_singleton.mpr rfl)⟩ h⟩
theorem gs_nil : XGs X [] gNil gsNil [] := ⟨pgs_nil, fun B F H σ γ vs xs Q q R r h k => by
  obtain ⟨rfl, h⟩ := h
  cases r
  exact ⟨rfl, k σ γ R ⟨rfl, fun _ _ => rfl⟩ h⟩⟩
theorem gs_cons {es : List Expr} {g : TG} {gs : TGs} {dg : DG} {dgs : DGs} {i1 i2 : List Nat} (h1 : XG X e g dg i1) (h2 : XGs X es gs dgs i2) (hs : (assignEach (e :: es) X.env).map (·.2) = assign e X.env :: (assignEach es X.env).map (·.2) := by rfl) : XGs X (e :: es) (gCons g gs) (gsCons dg dgs) (i1 ++ i2) := ⟨pgs_cons h1.pg h2.pg hs, fun B F H σ γ vs xs Q q R r h k => by
  cases r with
  | nil => exact h.elim
  | cons r t => exact ⟨_, _, rfl, h1.sg B F H σ γ _ _ _ _ R r h fun σ' γ' R' o' h' => h2.sg B F H σ' γ' _ _ Q q R' t h' fun σ2 γ2 R2 o2 h2 => k σ2 γ2 R2 ⟨o2.1.trans o'.1, fun j hj => (o2.2 j fun z => hj (List.mem_append_right _ z)).trans (o'.2 j fun z => hj (List.mem_append_left _ z))⟩ h2⟩⟩
theorem g_tup {es : List Expr} {k n : Nat} {gs : TGs} {dgs : DGs} {ix : List Nat} (hc : X.calm = true) (h : XGs X es gs dgs ix) (hn : (assignEach es X.env).length = n := by rfl) (hst : (assignEach es X.env).findIdx? (·.1) = none := by rfl) : XG X (.Tuple es k pos) (gTup X.K n gs) (gT n dgs) ix := ⟨pg_tup hc h.pg hn hst, fun B F H σ γ v x Q q R r hq k => by
  cases r with
  | tup h1 h2 => exact ⟨_, _, rfl, ex_t R.fh h1, by rw [h2.length]; exact hq.1, h.sg B F H σ γ _ _ Q q R h2 hq.2 k⟩
  | _ => exact hq.elim⟩
theorem s_asgG {tg : Expr} {g : TG} {dg : DG} {ix : List Nat} (he : XE X e te de) (hg : XG X tg g dg ix) (hs : swapsWithSole [tg] e pos.line X.env = pure false := by rfl) (hw : swappedStores [tg] e X.env = pure none := by rfl)
    (h1 : (assignEach [tg] X.env).map (·.2) = [assign tg X.env] := by rfl) : XS X (.Assign [tg] e pos) (tAsg te g) (dAsgG de dg) := ⟨ps_asg he.pe hg.pg hs hw h1, fun B F H σ γ E d R hq k => by
  refine he.se B F H σ γ _ _ R hq fun v F1 H1 γ1 s R1 e1 o1 q => ?_
  obtain ⟨F2, R2, e2, o2⟩ := o1.fz R1
  cases s with
  | own j c => exact q.elim
  | val x => exact hg.sg B F2 H1 σ γ1 v x _ d.nx R2 o2 q fun σ' γ' R' _ h' => k.nx F2 H1 σ' γ' R' (e1.trans e2) h'
  | new c => exact hg.sg B F2 H1 σ γ1 v _ _ d.nx R2 o2 q fun σ' γ' R' _ h' => k.nx F2 H1 σ' γ' R' (e1.trans e2) h'⟩
/-- x op= e on numbers -/
def dAug (i : Nat) (f : Int → Int → Int) (de : DE) (d : DEnds) (γ : Env) : Prop := match look γ i with
  | .val (.int a) => de γ fun s γ1 => match s.data with
    | .int b => d.nx (put γ1 i (.val (.int (f a b))))
    | _ => False
  | _ => False
theorem s_aug (i : Nat) {x : Str} {op : Operator} {f : Int → Int → Int} {pos' : Pos} (hN : X.N.Nodup) (he : XE X e te de) (ho : PIp X op (ipI f)) (hi : X.N[i]? = some x := by rfl) (hx : Loc X.env.scope x := by first | exact Or.inl rfl | exact Or.inr rfl)
    (hf : X.fn x = true ∨ X.env.scope.names.lookup x = some .local := by first | exact .inl rfl | exact .inr rfl) : XS X (.AugAssign (.Name x pos') op e pos) (tAug i te (ipI f)) (dAug i f de) := ⟨ps_aug hN hi hx he.pe ho hf, fun B F H σ γ E d R hq k => by
  unfold dAug at hq
  split at hq
  · rename_i a hl
    obtain ⟨v, hs, r⟩ := R.val hl
    cases r
    refine ⟨_, hs, he.se B F H σ γ _ _ R hq fun v F1 H1 γ1 s R1 e1 o1 q => ?_⟩
    split at q
    · rename_i b es
      have r := o1.rs R1
      rw [es] at r
      exact ⟨_, _, rfl, r.int, k.nx F1 H1 _ _ (R1.setVal i (.int _)) e1 q⟩
    · exact q.elim
  · exact hq.elim⟩
end

/-! ### things that change -/
section
variable {K : PySem.W.Frag} {B : Bs} {F H : Hp} {σ : L2.St} {γ : Env}
/-- the list in slot j is written anew -/
theorem Rep.write (R : Rep K B F H σ γ) {j : Nat} {p : Option Nat} {ds ds' : List D} {a : Addr} {vs vs' : List V} (hl : look γ j = .own p (.lst ds)) (hs : σ[j]? = some (some (.ref a))) (ha : H a = some (.lst vs)) (r : RpAll (B.kz K) F vs' ds') :
    Rep K B F (upd H a (.lst vs')) σ (put γ j (.own p (.lst ds'))) := by
  obtain ⟨a', hs', hg, fa, ok⟩ := R.own hl
  obtain rfl : a = a' := by rw [hs] at hs'; cases hs'; rfl
  have ne_own : ∀ {b x : Addr}, H b = some (.own x) → b ≠ a := fun h e => by
    subst e
    rw [ha] at h; cases h
  have key : ∀ {i : Nat} {q : Option Nat} {c : OC}, (put γ j (.own p (.lst ds')))[i]? = some (.own q c) → ∃ c0, γ[i]? = some (.own q c0) ∧ ((i = j ∧ c = .lst ds') ∨ (i ≠ j ∧ c0 = c)) := fun h => by
    rcases get_put h with ⟨rfl, e⟩ | ⟨n, e⟩
    · injection e with e1 e2
      subst e1; subst e2
      exact ⟨_, hg, .inl ⟨rfl, rfl⟩⟩
    · exact ⟨_, e, .inr ⟨n, rfl⟩⟩
  refine ⟨fun b o e => ?_, by rw [put_len]; exact R.len, fun i s t h1 h2 => ?_, fun i i' b q c q' c' h1 h2 h3 h4 => ?_, fun b o e => ?_, R.b2, R.b3, fun i b q c h1 h2 => ?_, fun i b q c h1 h2 => ?_, fun b o e => ?_, fun b o e => ?_⟩
  · have n : b ≠ a := fun z => by subst z; rw [fa] at e; cases e
    rw [upd_ne n]; exact R.fh b o e
  · rcases get_put h2 with ⟨rfl, rfl⟩ | ⟨n, e⟩
    · rw [hs] at h1; cases h1
      exact ⟨a, rfl, fa, vs', upd_same, r⟩
    · have q := R.sl i s t h1 e
      cases t with
      | no => trivial
      | val d => exact q
      | own q' c =>
        obtain ⟨b, e', f, ok'⟩ := q
        subst e'
        have nb : b ≠ a := fun z => by subst z; exact n (R.nd i j b q' c p (.lst ds) e hg h1 hs)
        exact ⟨b, rfl, f, ok'.heap (upd_ne nb) fun dx hd => upd_ne (ne_own hd)⟩
  · obtain ⟨_, y1, _⟩ := key h1
    obtain ⟨_, y2, _⟩ := key h2
    exact R.nd i i' b q _ q' _ y1 y2 h3 h4
  · obtain ⟨x1, o', x2⟩ := R.b1 b o e
    by_cases hb : b = a
    · subst hb
      rw [upd_same]
      refine ⟨fun n => ?_, _, rfl⟩
      rcases R.b5 j b p _ hg hs with z | z
      · exact absurd z n
      · rw [e] at z; cases z
    · rw [upd_ne hb]; exact ⟨x1, o', x2⟩
  · obtain ⟨_, y1, _⟩ := key h1
    exact R.b4 i b q _ y1 h2
  · obtain ⟨_, y1, _⟩ := key h1
    exact R.b5 i b q _ y1 h2
  · obtain ⟨o', x2⟩ := R.bN b o e
    by_cases hb : b = a
    · subst hb; exact ⟨_, upd_same⟩
    · rw [upd_ne hb]; exact ⟨o', x2⟩
  · obtain ⟨o', x2, kn⟩ := R.bd b o e
    by_cases hb : b = a
    · subst hb
      rw [ha] at x2
      cases x2
      exact ⟨_, upd_same, kn.trans ⟨_, rfl⟩⟩
    · rw [upd_ne hb]; exact ⟨o', x2, kn⟩
/-- what a method does to the list in slot j: by its content and the arguments, the new content and the answer -/
def MutD (K : PySem.W.Frag) (r : V → List V → Hp → VK → Prop) (f : List D → List D → (List D → D → Prop) → Prop) : Prop := ∀ (z : Addr → Prop) (F H : Hp) (a : Addr) (vs : List V) (ds : List D) (xs : List V) (as : List D) (Q : VK) (q : List D → D → Prop), H a = some (.lst vs) → RpAll ⟨K, z⟩ F vs ds → RpAll ⟨K, z⟩ F xs as → f ds as q →
  (∀ v d vs' ds', RpAll ⟨K, z⟩ F vs' ds' → Rp ⟨K, z⟩ F v d → q ds' d → Q v (upd H a (.lst vs'))) → r (.ref a) xs H Q
def isL : Sx → Prop
  | .own _ (.lst _) => True
  | _ => False
def dMut (j : Nat) (f : List D → List D → (List D → D → Prop) → Prop) (da : DA) (γ : Env) (q : RS → Env → Prop) : Prop := isL (look γ j) ∧ da γ fun rs γ1 => allV rs ∧ match look γ1 j with
  | .own p (.lst ds) => f ds (rs.map RS.data) fun ds' d => q (.val d) (put γ1 j (.own p (.lst ds')))
  | _ => False
theorem se_mut {ta : TA} {da : DA} {r : V → List V → Hp → VK → Prop} {f : List D → List D → (List D → D → Prop) → Prop} {j : Nat} (hm : MutD K r f) (h : SA K ta da) : SE K (tBM K "list" r (tVar j) ta) (dMut j f da) := fun B F H σ γ Q q R ⟨h0, hq⟩ k => by
  obtain ⟨p, ds, hl⟩ : ∃ p ds, look γ j = .own p (.lst ds) := by
    revert h0
    cases look γ j with
    | no => exact fun z => z.elim
    | val d => exact fun z => z.elim
    | own p c => cases c with
      | lst ds => exact fun _ => ⟨p, ds, rfl⟩
      | ins C fs => exact fun z => z.elim
      | dct kd => exact fun z => z.elim
  obtain ⟨a, hs, hg, fa, vs, ha, ra⟩ := R.own hl
  refine ⟨_, hs, Or.inl ⟨rfl, vs, Evl.sq_of ha⟩, h B F H σ γ _ _ R hq fun xs F1 H1 γ1 rs R1 e1 o1 ⟨h1, h2⟩ => ?_⟩
  split at h2
  · rename_i p1 ds1 hl1
    obtain ⟨a1, hs1, hg1, fa1, vs1, ha1, ra1⟩ := R1.own hl1
    rw [hs] at hs1; cases hs1
    exact hm B.z F1 H1 a vs1 ds1 xs _ Q _ ha1 ra1 (allV_rp o1 h1) h2 fun v d vs' ds' r1 r2 h3 => k v F1 _ _ (.val d) (R1.write hl1 hs ha1 r1) e1 r2 h3
  · exact h2.elim
theorem se_mut0 {r : V → List V → Hp → VK → Prop} {f : List D → List D → (List D → D → Prop) → Prop} {j : Nat} (hm : MutD K r f) : SE K (tBM0 K "list" r (tVar j)) (dMut j f dNil) := fun B F H σ γ Q q R ⟨h0, _, h2⟩ k => by
  split at h2
  · rename_i p ds hl
    obtain ⟨a, hs, hg, fa, vs, ha, ra⟩ := R.own hl
    exact ⟨_, hs, Or.inl ⟨rfl, vs, Evl.sq_of ha⟩, hm B.z F H a vs ds [] [] Q _ ha ra .nil h2 fun v d vs' ds' r1 r2 h3 => k v F _ _ (.val d) (R.write hl hs ha r1) (Evl.Ex.refl F) r2 h3⟩
  · exact h2.elim
def mApp (ds as : List D) (q : List D → D → Prop) : Prop := match as with
  | [x] => ds.length < 1000000 ∧ q (ds ++ [x]) .non
  | _ => False
theorem md_append : MutD K rAppend mApp := fun z F H a vs ds xs as Q q ha ra rx hf k => by
  unfold mApp at hf
  split at hf
  · obtain ⟨x, rfl, r⟩ := one_rs rx.p
    exact ⟨a, vs, x, rfl, rfl, ha, Nat.lt_of_lt_of_le (by rw [ra.length]; exact hf.1) (by decide), k _ _ _ _ (RpAll.of (P_app ra.p (.cons r .nil))) .non hf.2⟩
  · exact hf.elim
def mPopAt (ds as : List D) (q : List D → D → Prop) : Prop := match as with
  | [.int i] => -1000000 ≤ i ∧ i ≤ 1000000 ∧ ∃ k d, seqIndex? i ds.length = some k ∧ ds[k]? = some d ∧ q (ds.eraseIdx k) d
  | _ => False
theorem md_popAt : MutD K rPopAt mPopAt := fun z F H a vs ds xs as Q q ha ra rx hf k => by
  unfold mPopAt at hf
  split at hf
  · obtain ⟨x, rfl, r⟩ := one_rs rx.p
    cases r
    obtain ⟨i1, i2, j, d, h1, h2, h3⟩ := hf
    obtain ⟨v, hv, rv⟩ := P_get ra.p h2
    exact ⟨a, vs, _, j, v, rfl, rfl, ha, by omega, by omega, by rw [ra.length]; exact h1, hv, k _ _ _ _ (RpAll.of (P_erase j ra.p)) rv h3⟩
  · exact hf.elim
def mPop (ds as : List D) (q : List D → D → Prop) : Prop := match as with
  | [] => ∃ d, ds[ds.length - 1]? = some d ∧ q ds.dropLast d
  | _ => False
theorem md_pop : MutD K rPop mPop := fun z F H a vs ds xs as Q q ha ra rx hf k => by
  unfold mPop at hf
  split at hf
  · cases rx
    obtain ⟨d, h2, h3⟩ := hf
    obtain ⟨v, hv, rv⟩ := P_get ra.p h2
    exact ⟨a, vs, v, rfl, rfl, ha, by rw [ra.length]; exact hv, k _ _ _ _ (RpAll.of (P_dropLast ra.p)) rv h3⟩
  · exact hf.elim
end
section
variable {X : Cx} {e : Expr} {es : List Expr} {ta : TA} {da : DA} {cpos apos pos : Pos} {x : Str}
theorem x_mut {j : Nat} {r : V → List V → Hp → VK → Prop} {f : List D → List D → (List D → D → Prop) → Prop} {c : Expr} (pe : PA X es ta → PE X c (tBM X.K "list" r (tVar j) ta)) (hd : MutD X.K r f) (h : XA X es ta da) : XE X c (tBM X.K "list" r (tVar j) ta) (dMut j f da) := ⟨pe h.pa, se_mut hd h.sa⟩
theorem x_mut0 {j : Nat} {r : V → List V → Hp → VK → Prop} {f : List D → List D → (List D → D → Prop) → Prop} {c : Expr} (pe : PE X c (tBM0 X.K "list" r (tVar j))) (hd : MutD X.K r f) : XE X c (tBM0 X.K "list" r (tVar j)) (dMut j f dNil) := ⟨pe, se_mut0 hd⟩
/-- xs[i] = e -/
def RS.kept : RS → Prop
  | .own _ _ => False
  | _ => True
def dSetI (j : Nat) (de di : DE) (d : DEnds) (γ : Env) : Prop := de γ fun s γ1 => s.kept ∧ isL (look γ1 j) ∧ di γ1 fun t γ2 => match look γ2 j, t.data with
  | .own p (.lst ds), .int i => ∃ k, ixN ds.length i = some k ∧ d.nx (put γ2 j (.own p (.lst (ds.set k s.data))))
  | _, _ => False
theorem ss_setI {K : PySem.W.Frag} {te ti : TE} {de di : DE} {j : Nat} (he : SE K te de) (hi : SE K ti di) : SS K (tAsg te (gSub (tVar j) ti rSetL)) (dSetI j de di) := fun B F H σ γ E d R hq k => by
  refine he B F H σ γ _ _ R hq fun v F1 H1 γ1 s R1 e1 o1 ⟨hk, h0, q⟩ => ?_
  obtain ⟨F2, R2, e2, o2⟩ := o1.fz R1
  have rv : Rp (B.kz K) F2 v s.data := by
    cases s with
    | val x => exact o2
    | new c => exact o2
    | own j c => exact hk.elim
  obtain ⟨p, ds, hl⟩ : ∃ p ds, look γ1 j = .own p (.lst ds) := by
    revert h0
    cases look γ1 j with
    | no => exact fun z => z.elim
    | val d => exact fun z => z.elim
    | own p c => cases c with
      | lst ds => exact fun _ => ⟨p, ds, rfl⟩
      | ins C fs => exact fun z => z.elim
      | dct kd => exact fun z => z.elim
  obtain ⟨a, hs, hg, fa, vs, ha, ra⟩ := R2.own hl
  refine ⟨_, hs, hi B F2 H1 σ γ1 _ _ R2 q fun v3 F3 H3 γ3 t R3 e3 o3 q3 => ?_⟩
  split at q3
  · rename_i p1 ds1 i hl1 es
    obtain ⟨a1, hs1, hg1, fa1, vs1, ha1, ra1⟩ := R3.own hl1
    rw [hs] at hs1; cases hs1
    obtain ⟨m, hm, q4⟩ := q3
    have rt := o3.rs R3
    rw [es] at rt
    exact ⟨a, vs1, i, m, rfl, rt.int, ha1, by rw [ra1.length]; exact hm, k.nx F3 _ _ _ (R3.write hl1 hs ha1 (RpAll.of (P_set (Rp.mono e3 rv) m ra1.p))) ((e1.trans e2).trans e3) q4⟩
  · exact q3.elim
theorem s_setI (j : Nat) {ei : Expr} {te ti : TE} {de di : DE} {p3 : Pos} {o : Str} (he : XE X e te de) (hi : XE X ei ti di)
    (hN : X.N[j]? = some o := by rfl) (hv : Vis X.env.scope o := by first | exact Or.inl rfl | exact Or.inr (Or.inl rfl) | exact Or.inr (Or.inr rfl)) (hd : (o == ("__debug__" : Str)) = false := by decide) (hcd : (o == ("__classdict__" : Str)) = false := by decide)
    (ha : ∀ v, assign (.Subscript (.Name o apos) ei p3) X.env v = (do
      let ov ← holding [v] (eval (.Name o apos) X.env)
      let iv ← holding [v, ov] (eval ei X.env)
      standAt p3
      holding [v, ov, iv] (setItem ov iv v)
      release [v, ov, iv] []) := by intro _; rfl)
    (hs : swapsWithSole [.Subscript (.Name o apos) ei p3] e pos.line X.env = pure false := by rfl) (hw : swappedStores [.Subscript (.Name o apos) ei p3] e X.env = pure none := by rfl)
    (h1 : (assignEach [.Subscript (.Name o apos) ei p3] X.env).map (·.2) = [assign (.Subscript (.Name o apos) ei p3) X.env] := by rfl) :
    XS X (.Assign [.Subscript (.Name o apos) ei p3] e pos) (tAsg te (gSub (tVar j) ti rSetL)) (dSetI j de di) :=
  ⟨ps_asg he.pe (pg_sub (pe_var hN hv hd hcd) hi.pe set_list ha) hs hw h1, ss_setI he.se hi.se⟩
end
end DL

set_option Elab.async false
set_option linter.all false
set_option maxRecDepth 100000
set_option maxHeartbeats 2000000
namespace DL
open PySem PySem.Spec PyProof.Rows L2
open Evl (Ex ex_l ex_t)

/-! ### while -/
def dWhile (dt : DT) (db : DS) (d : DEnds) (γ : Env) : Prop := ∃ I : Nat → Env → Prop, (∃ m, I m γ) ∧ ∀ m γ2, I m γ2 → dt γ2 fun b γ3 =>
  (b = true → db { nx := fun γ4 => ∃ m', m' < m ∧ I m' γ4, ct := fun γ4 => ∃ m', m' < m ∧ I m' γ4, bk := d.nx, rt := d.rt } γ3) ∧ (b = false → d.nx γ3)
theorem s_while {X : Cx} {c : Expr} {body : List Stmt} {pos : Pos} {tc : TT} {dc : DT} {tb : TS} {db : DS} (hp : PassesOwn (model X.prog X.w) X.A X.env X.xe) (hc : XT X c tc dc) (hb : XSs X body tb db) : XS X (.While c body [] pos) (tWhile tc tb) (dWhile dc db) := ⟨ps_while hp hc.pt hb.ps, fun B F H σ γ E d R ⟨I, ⟨m0, i0⟩, hI⟩ k => by
  refine ⟨fun m σ' H' => ∃ F' γ', Rep X.K B F' H' σ' γ' ∧ Ex F F' ∧ I m γ', ⟨m0, F, γ, R, Evl.Ex.refl F, i0⟩, fun m σ' H' ⟨F1, γ1, R1, e1, i1⟩ => ?_⟩
  refine hc.st B F1 H' σ' γ1 _ _ R1 (hI m γ1 i1) fun b F2 H2 γ2 R2 e2 q => ?_
  cases b with
  | true =>
    refine ⟨fun σ3 H3 => ∃ m', m' < m ∧ ∃ F' γ', Rep X.K B F' H3 σ3 γ' ∧ Ex F F' ∧ I m' γ', fun σ3 H3 h => h, ?_⟩
    refine hb.ss B F2 H2 σ' γ2 _ _ R2 (q.1 rfl) ⟨fun F3 H3 σ3 γ3 R3 e3 ⟨m', hm, i3⟩ => ⟨m', hm, F3, γ3, R3, (e1.trans e2).trans e3, i3⟩, (k.mono (e1.trans e2)).rt, fun F3 H3 σ3 γ3 R3 e3 h => k.nx F3 H3 σ3 γ3 R3 ((e1.trans e2).trans e3) h,
      fun F3 H3 σ3 γ3 R3 e3 ⟨m', hm, i3⟩ => ⟨m', hm, F3, γ3, R3, (e1.trans e2).trans e3, i3⟩⟩
  | false => exact k.nx F2 H2 σ' γ2 R2 (e1.trans e2) (q.2 rfl)⟩

/-! ### what is walked -/
abbrev DI := Env → (Nat → (Nat → D → Prop) → Env → Prop) → Prop
theorem Rp.zz {K : PySem.W.Frag} {B : Bs} {z : Addr → Prop} {F : Hp} {v : V} {d : D} (hz : B.z = z) (h : Rp ⟨K, z⟩ F v d) : Rp (B.kz K) F v d := by
  unfold Bs.kz
  rw [hz]
  exact h
structure JOk (K : PySem.W.Frag) (z : Addr → Prop) (F0 : Hp) (J : It) (n : Nat) (y : Nat → D → Prop) : Prop where
  go : ∀ (B : Bs) (F H : Hp) (σ : L2.St) (γ : Env) (i : Nat), Rep K B F H σ γ → Ex F0 F → i < n → J.go i H
  yl : ∀ (B : Bs) (F H : Hp) (σ : L2.St) (γ : Env) (i : Nat) (x : V) (H' : Hp), Rep K B F H σ γ → Ex F0 F → i < n → J.yld i H x H' → B.z = z → ∃ F' d, Rep K B F' H' σ γ ∧ Ex F F' ∧ Rp (B.kz K) F' x d ∧ y i d
  st : ∀ (B : Bs) (F H : Hp) (σ : L2.St) (γ : Env) (i : Nat), Rep K B F H σ γ → Ex F0 F → n ≤ i → J.stop i H
def SI (K : PySem.W.Frag) (wi : TI) (di : DI) : Prop := ∀ (B : Bs) (F H : Hp) (σ : L2.St) (γ : Env) (R : It → Hp → Prop) (r : Nat → (Nat → D → Prop) → Env → Prop), Rep K B F H σ γ → di γ r →
  (∀ J F' H' γ' n y, Rep K B F' H' σ γ' → Ex F F' → JOk K B.z F' J n y → r n y γ' → R J H') → wi σ H R
structure XI (X : Cx) (tg iter : Expr) (wi : TI) (di : DI) : Prop where
  pi : PI X tg iter wi
  si : SI X.K wi di
/-- for: I, what holds between the turns -/
def dFor (di : DI) (dg : DG) (db : DS) (d : DEnds) (γ : Env) : Prop := di γ fun n y γ1 => ∃ I : Nat → Env → Prop, I 0 γ1 ∧
  (∀ i γ2, i < n → I i γ2 → ∀ x, y i x → dg x γ2 fun γ3 => db { nx := I (i + 1), ct := I (i + 1), bk := d.nx, rt := d.rt } γ3) ∧ ∀ γ2, I n γ2 → d.nx γ2
theorem s_for {X : Cx} {tg iter : Expr} {body : List Stmt} {pos : Pos} {wi : TI} {di : DI} {g : TG} {dg : DG} {tb : TS} {db : DS} {ix : List Nat} (hp : PassesOwn (model X.prog X.w) X.A X.env X.xe) (hc : X.calm = true) (hi : XI X tg iter wi di) (hg : XG X tg g dg ix) (hb : XSs X body tb db)
    (hs : ∀ x, foldedSetIterable iter X.env x = pure x := by intro _; rfl) : XS X (.For tg iter body [] pos) (tFor wi g tb) (dFor di dg db) := ⟨ps_for hp hc hi.pi hg.pg hb.ps hs, fun B F H σ γ E d R h k => by
  refine hi.si B F H σ γ _ _ R h fun J F1 H1 γ1 n y R1 e1 jo ⟨I, i0, it, ie⟩ => ?_
  refine ⟨fun i m σ' H' => m = n - i ∧ i ≤ n ∧ ∃ F' γ', Rep X.K B F' H' σ' γ' ∧ Ex F1 F' ∧ I i γ', ⟨n, by omega, by omega, F1, γ1, R1, Evl.Ex.refl F1, i0⟩, fun i m σ' H' ⟨hm, hn, F2, γ2, R2, e2, i2⟩ => ?_⟩
  by_cases hlt : i < n
  · refine .inr ⟨jo.go B F2 H' σ' γ2 i R2 e2 hlt, fun σ3 H3 => ∃ F' γ', Rep X.K B F' H3 σ3 γ' ∧ Ex F1 F' ∧ I (i + 1) γ', fun σ3 H3 q => ⟨n - (i + 1), by omega, rfl, by omega, q⟩, fun x H3 hy => ?_⟩
    obtain ⟨F3, dd, R3, e3, rx, yx⟩ := jo.yl B F2 H' σ' γ2 i x H3 R2 e2 hlt hy rfl
    refine hg.sg B F3 H3 σ' γ2 x dd _ _ R3 rx (it i γ2 hlt i2 dd yx) fun σ4 γ4 R4 _ h4 => ?_
    exact hb.ss B F3 H3 σ4 γ4 _ _ R4 h4 ⟨fun F5 H5 σ5 γ5 R5 e5 i5 => ⟨F5, γ5, R5, (e2.trans e3).trans e5, i5⟩, (k.mono ((e1.trans e2).trans e3)).rt, fun F5 H5 σ5 γ5 R5 e5 q => k.nx F5 H5 σ5 γ5 R5 (((e1.trans e2).trans e3).trans e5) q,
      fun F5 H5 σ5 γ5 R5 e5 i5 => ⟨F5, γ5, R5, (e2.trans e3).trans e5, i5⟩⟩
  · obtain rfl : i = n := by omega
    exact .inl ⟨jo.st B F2 H' σ' γ2 i R2 e2 (Nat.le_refl _), k.nx F2 H' σ' γ2 R2 (e1.trans e2) (ie γ2 i2)⟩⟩

/-! ### lists, tuples, ranges, zip, enumerate, reversed -/
section
variable {K : PySem.W.Frag}
theorem sq_inj_lst {F H : Hp} {a : Addr} {vs : List V} (e : Ex F H) (h : F a = some (.lst vs)) : SqL K H a vs := Evl.sq_of (e _ _ h)
def dIL (de : DE) (γ : Env) (r : Nat → (Nat → D → Prop) → Env → Prop) : Prop := de γ fun s γ1 => s.kept ∧ match s.data with
  | .lst ds => r ds.length (fun i d => ds[i]? = some d) γ1
  | .scr ns => r ns.length (fun i d => ∃ n, ns[i]? = some n ∧ d = .int n) γ1
  | _ => False
theorem RsOk.kp {B : Bs} {F H : Hp} {σ : L2.St} {γ : Env} {v : V} {s : RS} (h : RsOk K B F H σ γ v s.fz) (hk : s.kept) : Rp (B.kz K) F v s.data := by
  cases s with
  | val d => exact h
  | new c => exact h
  | own j c => exact hk.elim
theorem jo_list {F0 : Hp} {a : Addr} {vs : List V} {ds : List D} (h : SqL K F0 a vs) {z : Addr → Prop} (r : RpAll ⟨K, z⟩ F0 vs ds) : JOk K z F0 (Itl K a) ds.length (fun i d => ds[i]? = some d) where
  go := fun B F H σ γ i R e hi => by
    obtain ⟨x, hx⟩ : ∃ x, vs[i]? = some x := ⟨vs[i]'(by rw [r.length]; exact hi), List.getElem?_eq_getElem _⟩
    exact ⟨vs, x, ex_l (e.trans R.fh) h, hx⟩
  yl := fun B F H σ γ i x H' R e hi ⟨hH, hy⟩ hz => by
    subst hH
    have hv := hy vs (ex_l (e.trans R.fh) h)
    obtain ⟨d, hd, rd⟩ := P_getL r.p hv
    exact ⟨F, d, R, Evl.Ex.refl F, (rd.mono e).zz hz, hd⟩
  st := fun B F H σ γ i R e hi => ⟨vs, ex_l (e.trans R.fh) h, by rw [r.length]; exact hi⟩
theorem si_list {te : TE} {de : DE} (he : SE K te de) : SI K (iList K te) (dIL de) := fun B F H σ γ W r R hq k => by
  refine he B F H σ γ _ _ R hq fun x F1 H1 γ1 s R1 e1 o1 ⟨hk, h1⟩ => ?_
  obtain ⟨F2, R2, e2, o2⟩ := o1.fz R1
  have rp := o2.kp hk
  split at h1
  · rename_i ds es
    rw [es] at rp
    cases rp with
    | lst ha ra => exact ⟨_, rfl, ⟨_, Evl.sq_of (R2.fh _ _ ha)⟩, k _ F2 H1 γ1 _ _ R2 (e1.trans e2) (jo_list (Evl.sq_of ha) ra) h1⟩
  · rename_i ns es
    rw [es] at rp
    cases rp with
    | scr ha =>
      refine ⟨_, rfl, ⟨_, ex_l R2.fh ha⟩, k _ F2 H1 γ1 _ _ R2 (e1.trans e2) ?_ h1⟩
      have j := jo_list (z := B.z) ha (ints_rp ns)
      rw [List.length_map] at j
      refine ⟨j.go, fun B F H σ γ i x H' R e hi hy hz => ?_, j.st⟩
      obtain ⟨F', d, q1, q2, q3, q4⟩ := j.yl B F H σ γ i x H' R e hi hy hz
      rw [List.getElem?_map] at q4
      cases hn : ns[i]? with
      | none => rw [hn] at q4; cases q4
      | some n => rw [hn] at q4; exact ⟨F', d, q1, q2, q3, n, rfl, (Option.some.inj q4).symm⟩
  · exact h1.elim
def dIT (de : DE) (γ : Env) (r : Nat → (Nat → D → Prop) → Env → Prop) : Prop := de γ fun s γ1 => s.kept ∧ match s.data with
  | .tup ds => r ds.length (fun i d => ds[i]? = some d) γ1
  | _ => False
theorem jo_tup {F0 : Hp} {a : Addr} {vs : List V} {ds : List D} (h : SqT K F0 a vs) {z : Addr → Prop} (r : RpAll ⟨K, z⟩ F0 vs ds) : JOk K z F0 (Itt K a) ds.length (fun i d => ds[i]? = some d) where
  go := fun B F H σ γ i R e hi => by
    obtain ⟨x, hx⟩ : ∃ x, vs[i]? = some x := ⟨vs[i]'(by rw [r.length]; exact hi), List.getElem?_eq_getElem _⟩
    exact ⟨vs, x, ex_t (e.trans R.fh) h, hx⟩
  yl := fun B F H σ γ i x H' R e hi ⟨hH, hy⟩ hz => by
    subst hH
    have hv := hy vs (ex_t (e.trans R.fh) h)
    obtain ⟨d, hd, rd⟩ := P_getL r.p hv
    exact ⟨F, d, R, Evl.Ex.refl F, (rd.mono e).zz hz, hd⟩
  st := fun B F H σ γ i R e hi => ⟨vs, ex_t (e.trans R.fh) h, by rw [r.length]; exact hi⟩
theorem si_tup {te : TE} {de : DE} (he : SE K te de) : SI K (iTup K te) (dIT de) := fun B F H σ γ W r R hq k => by
  refine he B F H σ γ _ _ R hq fun x F1 H1 γ1 s R1 e1 o1 ⟨hk, h1⟩ => ?_
  obtain ⟨F2, R2, e2, o2⟩ := o1.fz R1
  have rp := o2.kp hk
  split at h1
  · rename_i ds es
    rw [es] at rp
    cases rp with
    | tup ha ra => exact ⟨_, rfl, ⟨_, ex_t R2.fh ha⟩, k _ F2 H1 γ1 _ _ R2 (e1.trans e2) (jo_tup ha ra) h1⟩
  · exact h1.elim
theorem jo_range {F0 : Hp} {lo : Int} {n : Nat} {z : Addr → Prop} : JOk K z F0 (Itr lo n) n (fun i d => d = .int (lo + i)) where
  go := fun B F H σ γ i R e hi => hi
  yl := fun B F H σ γ i x H' R e hi ⟨hH, hy⟩ hz => by
    subst hH; subst hy
    exact ⟨F, _, R, Evl.Ex.refl F, .int _, rfl⟩
  st := fun B F H σ γ i R e hi => hi
theorem ints1 {B : Bs} {F H : Hp} {σ : L2.St} {γ : Env} (R : Rep K B F H σ γ) {vs : List V} {rs : List RS} {a : Int} (o : Paired (RsOk K B F H σ γ) vs rs) (h : rs.map RS.data = [.int a]) : vs = [.int a] := by
  have q := rs_all R o
  rw [h] at q
  obtain ⟨x, rfl, r⟩ := one_rs q
  rw [r.int]
def dIR1 (da : DA) (γ : Env) (r : Nat → (Nat → D → Prop) → Env → Prop) : Prop := da γ fun rs γ1 => match rs.map RS.data with
  | [.int n] => -1000000000000 ≤ n ∧ n ≤ 1000000000000 ∧ r n.toNat (fun i d => d = .int i) γ1
  | _ => False
theorem si_range1 {ta : TA} {da : DA} (h : SA K ta da) : SI K (iRng1 ta) (dIR1 da) := fun B F H σ γ W r R hq k => by
  refine h B F H σ γ _ _ R hq fun vs F1 H1 γ1 rs R1 e1 o1 h1 => ?_
  split at h1
  · rename_i n es
    obtain ⟨h0, h2, h3⟩ := h1
    refine ⟨n, ints1 R1 o1 es, by omega, by omega, k _ F1 H1 γ1 _ _ R1 e1 ⟨(jo_range (z := B.z)).go, fun B F H σ γ i x H' R e hi hy hz => ?_, (jo_range (z := B.z)).st⟩ h3⟩
    obtain ⟨F', d, q1, q2, q3, q4⟩ := (jo_range (z := _)).yl B F H σ γ i x H' R e hi hy hz
    exact ⟨F', d, q1, q2, q3, by rw [q4, Int.zero_add]⟩
  · exact h1.elim
theorem ints2 {B : Bs} {F H : Hp} {σ : L2.St} {γ : Env} (R : Rep K B F H σ γ) {vs : List V} {rs : List RS} {a b : Int} (o : Paired (RsOk K B F H σ γ) vs rs) (h : rs.map RS.data = [.int a, .int b]) : vs = [.int a, .int b] := by
  have q := rs_all R o
  rw [h] at q
  obtain ⟨x, y, rfl, r, r'⟩ := two_rs q
  rw [r.int, r'.int]
def dIR2 (da : DA) (γ : Env) (r : Nat → (Nat → D → Prop) → Env → Prop) : Prop := da γ fun rs γ1 => match rs.map RS.data with
  | [.int m, .int n] => -1000000000000 ≤ m ∧ m ≤ 1000000000000 ∧ -1000000000000 ≤ n ∧ n ≤ 1000000000000 ∧ r (n - m).toNat (fun i d => d = .int (m + i)) γ1
  | _ => False
theorem si_range2 {ta : TA} {da : DA} (h : SA K ta da) : SI K (iRng2 ta) (dIR2 da) := fun B F H σ γ W r R hq k => by
  refine h B F H σ γ _ _ R hq fun vs F1 H1 γ1 rs R1 e1 o1 h1 => ?_
  split at h1
  · rename_i m n es
    obtain ⟨h0, h2, h3, h4, h5⟩ := h1
    exact ⟨m, n, ints2 R1 o1 es, ⟨by omega, by omega, by omega, by omega⟩, k _ F1 H1 γ1 _ _ R1 e1 jo_range h5⟩
  · exact h1.elim
/-- range(lo, hi, c), c a written step of 1 to 1000 -/
def dIR3 (da : DA) (γ : Env) (r : Nat → (Nat → D → Prop) → Env → Prop) : Prop := da γ fun rs γ1 => match rs.map RS.data with
  | [.int m, .int n, .int c] => -1000000000000 ≤ m ∧ m ≤ 1000000000000 ∧ -1000000000000 ≤ n ∧ n ≤ 1000000000000 ∧ ∃ t, RgC m n c t ∧ r t (fun i d => d = .int (m + i * c)) γ1
  | _ => False
theorem ints3 {B : Bs} {F H : Hp} {σ : L2.St} {γ : Env} (R : Rep K B F H σ γ) {vs : List V} {rs : List RS} {a b c : Int} (o : Paired (RsOk K B F H σ γ) vs rs) (h : rs.map RS.data = [.int a, .int b, .int c]) : vs = [.int a, .int b, .int c] := by
  have q := rs_all R o
  rw [h] at q
  cases q with
  | cons r t =>
    obtain ⟨x, y, rfl, r', r''⟩ := two_rs t
    rw [r.int, r'.int, r''.int]
theorem jo_rangeC {F0 : Hp} {lo c : Int} {n : Nat} {z : Addr → Prop} : JOk K z F0 (Itc lo c n) n (fun i d => d = .int (lo + i * c)) where
  go := fun B F H σ γ i R e hi => hi
  yl := fun B F H σ γ i x H' R e hi ⟨hH, hy⟩ hz => by
    subst hH; subst hy
    exact ⟨F, _, R, Evl.Ex.refl F, .int _, rfl⟩
  st := fun B F H σ γ i R e hi => hi
theorem si_range3 {ta : TA} {da : DA} (h : SA K ta da) : SI K (iRng3 ta) (dIR3 da) := fun B F H σ γ W r R hq k => by
  refine h B F H σ γ _ _ R hq fun vs F1 H1 γ1 rs R1 e1 o1 h1 => ?_
  split at h1
  · rename_i m n c es
    obtain ⟨_, _, _, _, t, h4, h5⟩ := h1
    exact ⟨m, n, c, t, ints3 R1 o1 es, h4, k _ F1 H1 γ1 _ _ R1 e1 jo_rangeC h5⟩
  · exact h1.elim
theorem lst_of {B : Bs} {F H : Hp} {σ : L2.St} {γ : Env} {v : V} {r : RS} (o : RsOk K B F H σ γ v r) (hv : allV [r]) {ds : List D} (h : r.data = .lst ds) : ∃ a vs, v = .ref a ∧ F a = some (.lst vs) ∧ RpAll (B.kz K) F vs ds := by
  cases r with
  | val d =>
    have o' : Rp (B.kz K) F v d := o
    have h' : d = .lst ds := h
    rw [h'] at o'
    cases o' with
    | lst ha ra => exact ⟨_, _, rfl, ha, ra⟩
  | own j c => exact hv.elim
  | new c => exact hv.elim
def dIZ (da : DA) (γ : Env) (r : Nat → (Nat → D → Prop) → Env → Prop) : Prop := da γ fun rs γ1 => allV rs ∧ match rs.map RS.data with
  | [.lst xs, .lst ys] => r (min xs.length ys.length) (fun i d => ∃ x y, xs[i]? = some x ∧ ys[i]? = some y ∧ d = .tup [x, y]) γ1
  | _ => False
theorem si_zip {ta : TA} {da : DA} (h : SA K ta da) : SI K (iZip K ta) (dIZ da) := fun B F H σ γ W r R hq k => by
  refine h B F H σ γ _ _ R hq fun vs F1 H1 γ1 rs R1 e1 o1 ⟨hv, h1⟩ => ?_
  split at h1
  · rename_i xs ys es
    have ra := allV_rp o1 hv
    rw [es] at ra
    cases ra with
    | cons r1 t => cases t with
      | cons r2 t => cases t with
        | nil =>
          cases r1 with
          | @lst a va _ ha ra => cases r2 with
            | @lst b vb _ hb rb =>
              refine ⟨_, _, _, _, rfl, Evl.sq_of (R1.fh _ _ ha), Evl.sq_of (R1.fh _ _ hb), k _ F1 H1 γ1 _ _ R1 e1 ⟨fun B F H σ γ i R e hi => ?_, fun B F H σ γ i x H' R e hi ⟨T, x1, x2, hx, hT, hH, f1, f2⟩ hz => ?_, fun B F H σ γ i R e hi => ?_⟩ h1⟩
              · have l1 : i < va.length := by rw [ra.length]; omega
                have l2 : i < vb.length := by rw [rb.length]; omega
                exact ⟨_, _, _, _, sq_inj_lst (e.trans R.fh) ha, sq_inj_lst (e.trans R.fh) hb, List.getElem?_eq_getElem l1, List.getElem?_eq_getElem l2⟩
              · subst hx; subst hH
                obtain ⟨d1, q1, s1⟩ := P_getL ra.p (f1 va (sq_inj_lst (e.trans R.fh) ha))
                obtain ⟨d2, q2, s2⟩ := P_getL rb.p (f2 vb (sq_inj_lst (e.trans R.fh) hb))
                obtain ⟨R', ex, rp⟩ := R.newT hT (.cons ((s1.mono e).zz hz) (.cons ((s2.mono e).zz hz) .nil))
                exact ⟨_, _, R', ex, rp, d1, d2, q1, q2, rfl⟩
              · refine ⟨_, _, sq_inj_lst (e.trans R.fh) ha, sq_inj_lst (e.trans R.fh) hb, ?_⟩
                rw [ra.length, rb.length]
                omega
  · exact h1.elim
def dIE (da : DA) (γ : Env) (r : Nat → (Nat → D → Prop) → Env → Prop) : Prop := da γ fun rs γ1 => allV rs ∧ match rs.map RS.data with
  | [.lst xs] => r xs.length (fun i d => ∃ x, xs[i]? = some x ∧ d = .tup [.int i, x]) γ1
  | _ => False
theorem si_enum {ta : TA} {da : DA} (h : SA K ta da) : SI K (iEnum K ta) (dIE da) := fun B F H σ γ W r R hq k => by
  refine h B F H σ γ _ _ R hq fun vs F1 H1 γ1 rs R1 e1 o1 ⟨hv, h1⟩ => ?_
  split at h1
  · rename_i xs es
    have ra := allV_rp o1 hv
    rw [es] at ra
    cases ra with
    | cons r1 t => cases t with
      | nil =>
        cases r1 with
        | @lst a va _ ha ra =>
          refine ⟨_, _, rfl, Evl.sq_of (R1.fh _ _ ha), k _ F1 H1 γ1 _ _ R1 e1 ⟨fun B F H σ γ i R e hi => ?_, fun B F H σ γ i x H' R e hi ⟨T, x1, hx, hT, hH, f1⟩ hz => ?_, fun B F H σ γ i R e hi => ?_⟩ h1⟩
          · have l1 : i < va.length := by rw [ra.length]; omega
            exact ⟨_, _, sq_inj_lst (e.trans R.fh) ha, List.getElem?_eq_getElem l1⟩
          · subst hx; subst hH
            obtain ⟨d1, q1, s1⟩ := P_getL ra.p (f1 va (sq_inj_lst (e.trans R.fh) ha))
            obtain ⟨R', ex, rp⟩ := R.newT hT (.cons (.int (i : Nat)) (.cons ((s1.mono e).zz hz) .nil))
            exact ⟨_, _, R', ex, rp, d1, q1, rfl⟩
          · exact ⟨_, sq_inj_lst (e.trans R.fh) ha, by rw [ra.length]; omega⟩
  · exact h1.elim
def dIV (da : DA) (γ : Env) (r : Nat → (Nat → D → Prop) → Env → Prop) : Prop := da γ fun rs γ1 => allV rs ∧ match rs.map RS.data with
  | [.lst xs] => r xs.length (fun i d => xs[xs.length - 1 - i]? = some d) γ1
  | _ => False
theorem si_rev {ta : TA} {da : DA} (h : SA K ta da) : SI K (iRev K ta) (dIV da) := fun B F H σ γ W r R hq k => by
  refine h B F H σ γ _ _ R hq fun vs F1 H1 γ1 rs R1 e1 o1 ⟨hv, h1⟩ => ?_
  split at h1
  · rename_i xs es
    have ra := allV_rp o1 hv
    rw [es] at ra
    cases ra with
    | cons r1 t => cases t with
      | nil =>
        cases r1 with
        | @lst a va _ ha ra =>
          have le := ra.length
          refine ⟨_, _, rfl, Evl.sq_of (R1.fh _ _ ha), k _ F1 H1 γ1 xs.length _ R1 e1 ⟨fun B F H σ γ i R e hi => ?_, fun B F H σ γ i x H' R e hi ⟨hH, f1⟩ hz => ?_, fun B F H σ γ i R e hi => ?_⟩ h1⟩
          · have l1 : va.length - 1 - i < va.length := by omega
            exact ⟨by omega, _, _, sq_inj_lst (e.trans R.fh) ha, List.getElem?_eq_getElem l1⟩
          · subst hH
            obtain ⟨d1, q1, s1⟩ := P_getL ra.p (f1 va (sq_inj_lst (e.trans R.fh) ha))
            rw [le] at q1
            exact ⟨F, d1, R, Evl.Ex.refl F, (s1.mono e).zz hz, q1⟩
          · show va.length ≤ i
            omega
  · exact h1.elim
end
section
variable {X : Cx} {tg : Expr} {a b c e : Expr} {te : TE} {de : DE} {ta : TA} {da : DA} {p pos : Pos}
theorem i_list (h : XE X e te de) : XI X tg e (iList X.K te) (dIL de) := ⟨pi_list h.pe, si_list h.se⟩
theorem i_tup (h : XE X e te de) : XI X tg e (iTup X.K te) (dIT de) := ⟨pi_tup h.pe, si_tup h.se⟩
theorem i_r1 (hm : X.mg "range" = none) (h : XA X [a] ta da) (hg : Gl X "range" := by rfl) (hs : starEach [a] X.env = [(false, eval a X.env)] := by rfl) : XI X tg (.Call (.Name "range" p) [a] [] pos) (iRng1 ta) (dIR1 da) := ⟨pi_range1 hg hm h.pa hs, si_range1 h.sa⟩
theorem i_r2 (hm : X.mg "range" = none) (h : XA X [a, b] ta da) (hg : Gl X "range" := by rfl) (hs : starEach [a, b] X.env = [(false, eval a X.env), (false, eval b X.env)] := by rfl) (hs2 : starEach [b] X.env = [(false, eval b X.env)] := by rfl) : XI X tg (.Call (.Name "range" p) [a, b] [] pos) (iRng2 ta) (dIR2 da) := ⟨pi_range2 hg hm h.pa hs hs2, si_range2 h.sa⟩
theorem i_r3 (hm : X.mg "range" = none) (h : XA X [a, b, c] ta da) (hg : Gl X "range" := by rfl) (hs : starEach [a, b, c] X.env = (false, eval a X.env) :: starEach [b, c] X.env := by rfl) (hpl : (backTo pos (starEach [b, c] X.env)).any (·.1) = false := by rfl) : XI X tg (.Call (.Name "range" p) [a, b, c] [] pos) (iRng3 ta) (dIR3 da) := ⟨pi_range3 hg hm h.pa hs hpl, si_range3 h.sa⟩
theorem i_zip {elts : List Expr} {kk : Nat} {tpos : Pos} (hm : X.mg "zip" = none) (h : XA X [a, b] ta da) (hg : Gl X "zip" := by rfl) (hs : starEach [a, b] X.env = (false, eval a X.env) :: starEach [b] X.env := by rfl) (hpl : (backTo pos (starEach [b] X.env)).any (·.1) = false := by rfl) : XI X (.Tuple elts kk tpos) (.Call (.Name "zip" p) [a, b] [] pos) (iZip X.K ta) (dIZ da) := ⟨pi_zip hg hm h.pa hs hpl, si_zip h.sa⟩
theorem i_enum {elts : List Expr} {kk : Nat} {tpos : Pos} (hm : X.mg "enumerate" = none) (h : XA X [a] ta da) (hg : Gl X "enumerate" := by rfl) (hs : starEach [a] X.env = [(false, eval a X.env)] := by rfl) : XI X (.Tuple elts kk tpos) (.Call (.Name "enumerate" p) [a] [] pos) (iEnum X.K ta) (dIE da) := ⟨pi_enum hg hm h.pa hs, si_enum h.sa⟩
theorem i_rev (hm : X.mg "reversed" = none) (h : XA X [a] ta da) (hg : Gl X "reversed" := by rfl) (hs : starEach [a] X.env = [(false, eval a X.env)] := by rfl) : XI X tg (.Call (.Name "reversed" p) [a] [] pos) (iRev X.K ta) (dIV da) := ⟨pi_reversed hg hm h.pa hs, si_rev h.sa⟩
end
end DL

set_option Elab.async false
set_option linter.all false
set_option maxRecDepth 100000
set_option maxHeartbeats 2000000
namespace DL
open PySem PySem.Spec PyProof.Rows L2
open Evl (Ex ex_l ex_t)

/-! ### another base -/
def ownsOf (σ : L2.St) (γ : Env) (H : Hp) : List Addr := (List.range σ.length).flatMap fun (i : Nat) => match (σ[i]? : Option (Option V)), (γ[i]? : Option Sx) with
  | some (some (V.ref a)), some (Sx.own _ _) => a :: (match H a with | some (.ins _ dx _) => [dx] | _ => [])
  | _, _ => []
theorem mem_owns {σ : L2.St} {γ : Env} {H : Hp} {b : Addr} : b ∈ ownsOf σ γ H ↔ ∃ (i : Nat) (a : Addr) (p : Option Nat) (c : OC), σ[i]? = some (some (.ref a)) ∧ γ[i]? = some (.own p c) ∧ (b = a ∨ ∃ C fs, H a = some (.ins C b fs)) := by
  unfold ownsOf
  rw [List.mem_flatMap]
  constructor
  · rintro ⟨i, hi, h⟩
    split at h
    · rename_i a p c hs hg
      rcases List.mem_cons.mp h with e | h
      · exact ⟨i, a, p, c, hs, hg, .inl e⟩
      · split at h
        · rename_i C dx fs hh
          have e : b = dx := List.mem_singleton.mp h
          subst e
          exact ⟨i, a, p, c, hs, hg, .inr ⟨C, fs, hh⟩⟩
        · cases h
    · cases h
  · rintro ⟨i, a, p, c, hs, hg, h⟩
    refine ⟨i, List.mem_range.mpr (List.getElem?_eq_some_iff.mp hs).1, ?_⟩
    rw [hs, hg]
    rcases h with rfl | ⟨C, fs, hh⟩
    · exact List.mem_cons_self
    · refine List.mem_cons_of_mem _ ?_
      rw [hh]
      exact List.mem_singleton.mpr rfl
def Bs.re (B : Bs) (F H : Hp) (σ : L2.St) (γ : Env) : Bs := { B with F := F, H := H, m := ownsOf σ γ H }
section
variable {K : PySem.W.Frag} {B : Bs} {F F' H H' : Hp} {σ σ' : L2.St} {γ γ' : Env}
theorem Rep.re (R : Rep K B F H σ γ) : Rep K (B.re F H σ γ) F H σ γ := by
  refine ⟨R.fh, R.len, fun i s t hs hg => ?_, R.nd, fun b o e => ⟨fun _ => e, o, e⟩, Evl.Ex.refl F, fun b o _ _ => rfl, R.b4, fun i a p c hg hs => .inl ((mem_owns (σ := σ) (γ := γ) (H := H)).mpr ⟨i, a, p, c, hs, hg, .inl rfl⟩), R.bN, fun a o e => ⟨o, e, .refl o⟩⟩
  have q := R.sl i s t hs hg
  cases t with
  | no => trivial
  | val d => exact q
  | own p c =>
    obtain ⟨a, e, f, ok⟩ := q
    subst e
    refine ⟨a, rfl, f, ?_⟩
    cases c with
    | lst ds => exact ok
    | dct kd => exact ok
    | ins C fs =>
      obtain ⟨dx, fv, h1, h2, h3, h4, h5, h6⟩ := ok
      exact ⟨dx, fv, h1, h2, h3, h4, .inl (mem_owns.mpr ⟨i, a, p, _, hs, hg, .inr ⟨C, fv, h1⟩⟩), h6⟩
/-- what is owned may change, or is new -/
theorem Rep.owns (R : Rep K B F H σ γ) {b : Addr} (h : b ∈ ownsOf σ γ H) : b ∈ B.m ∨ B.H b = none := by
  obtain ⟨i, a, p, c, hs, hg, h⟩ := mem_owns.mp h
  rcases h with rfl | ⟨C, fs, hh⟩
  · exact R.b5 i b p c hg hs
  · obtain ⟨_, ok⟩ := R.ownObj hg hs
    cases c with
    | lst ds => obtain ⟨vs, h1, _⟩ := ok; rw [hh] at h1; cases h1
    | dct ds => obtain ⟨vs, h1, _⟩ := ok; rw [hh] at h1; cases h1
    | ins C fs =>
      obtain ⟨dx, fv, h1, h2, h3, h4, h5, h6⟩ := ok
      rw [hh] at h1
      injection h1 with h1
      injection h1 with _ e _
      rw [e]; exact h5
/-- from a base taken at (F, H): m1 what may have changed since, all of it changeable here or new -/
theorem Rep.comp (R : Rep K B F H σ γ) {B1 : Bs} (hF : B1.F = F) (hH : B1.H = H) (hN : B1.N = B.N) (hz : B1.z = B.z) (hm : ∀ b ∈ B1.m, b ∈ B.m ∨ B.H b = none) (R' : Rep K B1 F' H' σ' γ')
    (h4 : ∀ (i : Nat) a p c, γ'[i]? = some (.own p c) → σ'[i]? = some (some (.ref a)) → (∀ k, p = some k → B.pa k = some a) ∧ (p = none → B.N a = none)) : Rep K B F' H' σ' γ' := by
  have out : ∀ b o, B.H b = some o → b ∉ B.m → b ∉ B1.m := fun b o e n z => by
    rcases hm b z with q | q
    · exact n q
    · rw [e] at q; cases q
  have new : ∀ b, B1.H b = none → B.H b = none := fun b e => by
    cases q : B.H b with
    | none => rfl
    | some o => obtain ⟨_, o', e'⟩ := R.b1 b o q; rw [hH, e'] at e; cases e
  have up : ∀ b, b ∈ B1.m ∨ B1.H b = none → b ∈ B.m ∨ B.H b = none := fun b h => h.elim (hm b) fun e => .inr (new b e)
  refine ⟨R'.fh, R'.len, fun i s t hs hg => ?_, R'.nd, fun b o e => ?_, ?_, fun b o e n => ?_, h4, fun i a p c hg hs => up a (R'.b5 i a p c hg hs), fun b o e => R'.bN b o (by rw [hN]; exact e), fun a o e => let ⟨o1, h1, k1⟩ := R.bd a o e; let ⟨o2, h2, k2⟩ := R'.bd a o1 (by rw [hH]; exact h1); ⟨o2, h2, k1.trans k2⟩⟩
  · have q := R'.sl i s t hs hg
    cases t with
    | no => trivial
    | val d => obtain ⟨v, e, r⟩ := q; exact ⟨v, e, Rp.zz hz.symm r⟩
    | own p c => obtain ⟨a, e, f, ok⟩ := q; exact ⟨a, e, f, ok.base hN.symm hz.symm fun dx _ h => up dx h⟩
  · obtain ⟨x1, o1, x2⟩ := R.b1 b o e
    refine ⟨fun n => ?_, ?_⟩
    · exact (R'.b1 b o (by rw [hH]; exact x1 n)).1 (out b o e n)
    · exact (R'.b1 b o1 (by rw [hH]; exact x2)).2
  · exact R.b2.trans (by have := R'.b2; rw [hF] at this; exact this)
  · have x1 := (R.b1 b o e).1 n
    have x2 := R'.b3 b o (by rw [hH]; exact x1) (out b o e n)
    rw [x2, hF]
    exact R.b3 b o e n
theorem Rep.back (R : Rep K B F H σ γ) (R' : Rep K (B.re F H σ γ) F' H' σ' γ') : Rep K B F' H' σ' γ' := R.comp (B1 := B.re F H σ γ) rfl rfl rfl rfl (fun b h => R.owns h) R' R'.b4
/-- a list that nobody here owns is written -/
theorem Rep.poke (R : Rep K B F H σ γ) {a : Addr} {o o' : HO} (ha : H a = some o) (ho : ∀ x, o ≠ .own x) (fa : F a = none) (bm : a ∈ B.m ∨ B.H a = none) (na : ∀ (i : Nat) p c, γ[i]? = some (.own p c) → σ[i]? ≠ some (some (.ref a))) (hi : Kin o o') : Rep K B F (upd H a o') σ γ := by
  refine ⟨fun b x e => ?_, R.len, fun i s t hs hg => ?_, R.nd, fun b x e => ?_, R.b2, R.b3, R.b4, R.b5, fun b x e => ?_, fun b x e => ?_⟩
  · have n : b ≠ a := fun z => by subst z; rw [fa] at e; cases e
    rw [upd_ne n]; exact R.fh b x e
  · have q := R.sl i s t hs hg
    cases t with
    | no => trivial
    | val d => exact q
    | own q' c =>
      obtain ⟨b, e', f, ok'⟩ := q
      subst e'
      have nb : b ≠ a := fun z => by subst z; exact na i q' c hg hs
      exact ⟨b, rfl, f, ok'.heap (upd_ne nb) fun dx hd => upd_ne fun z => by subst z; rw [ha] at hd; exact ho b (Option.some.inj hd)⟩
  · obtain ⟨x1, o1, x2⟩ := R.b1 b x e
    by_cases hb : b = a
    · subst hb
      rw [upd_same]
      refine ⟨fun n => ?_, _, rfl⟩
      rcases bm with z | z
      · exact absurd z n
      · rw [e] at z; cases z
    · rw [upd_ne hb]; exact ⟨x1, o1, x2⟩
  · obtain ⟨o1, x2⟩ := R.bN b x e
    by_cases hb : b = a
    · subst hb; exact ⟨_, upd_same⟩
    · rw [upd_ne hb]; exact ⟨o1, x2⟩
  · obtain ⟨o1, x2, kn⟩ := R.bd b x e
    by_cases hb : b = a
    · subst hb
      rw [ha] at x2
      cases x2
      exact ⟨_, upd_same, kn.trans hi⟩
    · rw [upd_ne hb]; exact ⟨o1, x2, kn⟩
end

/-! ### comprehensions -/
def wipeG (γ : Env) : List Nat → Env
  | [] => γ
  | v :: vs => put (wipeG γ vs) v .no
def keepV : Sx → Sx
  | .val d => .val d
  | _ => .no
def restore (γ1 γ : Env) : List Nat → Env
  | [] => γ
  | v :: vs => put (restore γ1 γ vs) v (keepV (look γ1 v))
theorem wipe_get (σ : L2.St) (j : Nat) : ∀ vs : List Nat, (wipe σ vs)[j]? = if j ∈ vs ∧ j < σ.length then some none else σ[j]?
  | [] => by simp [wipe]
  | v :: vs => by
    unfold wipe
    by_cases e : v = j
    · subst e
      by_cases hl : v < σ.length
      · rw [List.getElem?_set_self (by rw [wipe_length]; exact hl), if_pos ⟨List.mem_cons_self, hl⟩]
      · rw [List.getElem?_eq_none (by rw [List.length_set, wipe_length]; omega), if_neg fun z => hl z.2, List.getElem?_eq_none (by omega)]
    · rw [List.getElem?_set_ne e, wipe_get σ j vs]
      have : (j ∈ v :: vs) ↔ j ∈ vs := by
        constructor
        · intro h
          rcases List.mem_cons.mp h with z | z
          · exact absurd z.symm e
          · exact z
        · exact List.mem_cons_of_mem _
      simp only [this]
theorem wipe_off {σ σ' : L2.St} {ix vs : List Nat} (h : Off ix (wipe σ vs) σ') (hs : ∀ i ∈ ix, i ∈ vs) : wipe σ' vs = wipe σ vs := by
  refine List.ext_getElem? fun j => ?_
  have hl : σ'.length = σ.length := h.1.trans (wipe_length σ vs)
  rw [wipe_get, wipe_get, hl]
  by_cases hj : j ∈ vs
  · by_cases h2 : j < σ.length
    · rw [if_pos ⟨hj, h2⟩, if_pos ⟨hj, h2⟩]
    · rw [if_neg fun z => h2 z.2, if_neg fun z => h2 z.2, List.getElem?_eq_none (by omega), List.getElem?_eq_none (by omega)]
  · rw [if_neg fun z => hj z.1, if_neg fun z => hj z.1, h.2 j fun z => hj (hs j z), wipe_get, if_neg fun z => hj z.1]
section
variable {K : PySem.W.Frag} {B : Bs} {F F1 H : Hp} {σ : L2.St} {γ γ1 : Env}
theorem Rep.wipe (R : Rep K B F H σ γ) : ∀ vs : List Nat, Rep K B F H (L2.wipe σ vs) (wipeG γ vs)
  | [] => R
  | v :: vs => by
    have R1 := R.wipe vs
    have R2 : Rep K B F H (L2.wipe σ vs) (put (wipeG γ vs) v .no) := R1.told (fun _ _ => trivial) (fun _ _ z => by cases z)
    have key : ∀ {j : Nat} {p : Option Nat} {c : OC} {s : Option V}, (put (wipeG γ vs) v .no)[j]? = some (.own p c) → ((L2.wipe σ vs).set v none)[j]? = some s → (L2.wipe σ vs)[j]? = some s := fun h1 h2 => by
      rcases get_put h1 with ⟨_, e⟩ | ⟨n, _⟩
      · cases e
      · rw [List.getElem?_set_ne (fun z => n z.symm)] at h2; exact h2
    unfold L2.wipe wipeG
    refine ⟨R2.fh, by rw [List.length_set]; exact R2.len, fun j s t hs hg => ?_, fun i j a p c q c' h1 h2 h3 h4 => R2.nd i j a p c q c' h1 h2 (key h1 h3) (key h2 h4), R2.b1, R2.b2, R2.b3, fun j a p c h1 h2 => R2.b4 j a p c h1 (key h1 h2), fun j a p c h1 h2 => R2.b5 j a p c h1 (key h1 h2), R2.bN, R2.bd⟩
    by_cases e : v = j
    · subst e
      rcases get_put hg with ⟨_, e⟩ | ⟨n, _⟩
      · rw [e]; trivial
      · exact absurd rfl n
    · rw [List.getElem?_set_ne e] at hs
      exact R2.sl j s t hs hg
theorem restore_get {γ1 γ : Env} {j : Nat} {s : Sx} : ∀ {vs : List Nat}, (restore γ1 γ vs)[j]? = some s → (j ∈ vs ∧ s = keepV (look γ1 j)) ∨ (j ∉ vs ∧ γ[j]? = some s)
  | [], h => .inr ⟨(fun z => by cases z), h⟩
  | v :: vs, h => by
    unfold restore at h
    rcases get_put h with ⟨rfl, e⟩ | ⟨n, e⟩
    · exact .inl ⟨List.mem_cons_self, e⟩
    · rcases restore_get e with ⟨a, b⟩ | ⟨a, b⟩
      · exact .inl ⟨List.mem_cons_of_mem _ a, b⟩
      · exact .inr ⟨fun z => (List.mem_cons.mp z).elim n a, b⟩
theorem restore_len {γ1 γ : Env} : ∀ vs : List Nat, (restore γ1 γ vs).length = γ.length
  | [] => rfl
  | v :: vs => by unfold restore; rw [put_len, restore_len vs]
theorem Rep.rest {H0 : Hp} {B0 : Bs} (R0 : Rep K B0 F1 H0 σ γ1) {vs : List Nat} (R : Rep K B F H (L2.wipe σ vs) γ) (e : Ex F1 F) (hz : B.z = B0.z) : Rep K B F H σ (restore γ1 γ vs) := by
  have key : ∀ {j : Nat} {p : Option Nat} {c : OC} {s : Option V}, (restore γ1 γ vs)[j]? = some (.own p c) → σ[j]? = some s → γ[j]? = some (.own p c) ∧ (L2.wipe σ vs)[j]? = some s := fun {j p c s} h1 h2 => by
    rcases restore_get h1 with ⟨_, z⟩ | ⟨n, z⟩
    · unfold keepV at z
      split at z <;> cases z
    · exact ⟨z, by rw [wipe_get, if_neg fun q => n q.1]; exact h2⟩
  refine ⟨R.fh, by rw [restore_len, ← R.len, wipe_length], fun j s t hs hg => ?_, fun i j a p c q c' h1 h2 h3 h4 => R.nd i j a p c q c' (key h1 h3).1 (key h2 h4).1 (key h1 h3).2 (key h2 h4).2, R.b1, R.b2, R.b3, fun j a p c h1 h2 => R.b4 j a p c (key h1 h2).1 (key h1 h2).2, fun j a p c h1 h2 => R.b5 j a p c (key h1 h2).1 (key h1 h2).2, R.bN, R.bd⟩
  rcases restore_get hg with ⟨_, z⟩ | ⟨n, z⟩
  · unfold keepV at z
    split at z
    · rename_i d hl
      subst z
      obtain ⟨v, h1, r⟩ := R0.val hl
      rw [hs] at h1
      cases h1
      exact ⟨v, rfl, (r.mono e).zz hz⟩
    · subst z; trivial
  · exact R.sl j s t (by rw [wipe_get, if_neg fun q => n q.1]; exact hs) z
end
/-- [elt for target in iter if ..]: I by the turn, what is made so far and the names -/
def dLc (di : DI) (dg : DG) (dt : DT) (de : DE) (vs : List Nat) (γ : Env) (q : RS → Env → Prop) : Prop := di γ fun n y γ1 => n ≤ 1000000 ∧ ∃ I : Nat → List D → Env → Prop, I 0 [] (wipeG γ1 vs) ∧
  (∀ i acc γ2, i < n → I i acc γ2 → ∀ x, y i x → dg x γ2 fun γ3 => dt γ3 fun b γ4 => (b = true → de γ4 fun s γ5 => s.kept ∧ I (i + 1) (acc ++ [s.data]) (wipeG γ5 vs)) ∧ (b = false → I (i + 1) acc (wipeG γ4 vs))) ∧
  ∀ acc γ2, I n acc γ2 → q (.new (.lst acc)) (restore γ1 γ2 vs)
theorem se_lc {K : PySem.W.Frag} {wi : TI} {di : DI} {g : TG} {dg : DG} {tt : TT} {dt : DT} {te : TE} {de : DE} {vs ix : List Nat} (hi : SI K wi di) (hg : SG K g dg ix) (ht : ST K tt dt) (he : SE K te de) (hs : ∀ i ∈ ix, i ∈ vs) : SE K (tLc wi g tt te vs) (dLc di dg dt de vs) := fun B F H σ γ Q q R hq k => by
  refine hi B F H σ γ _ _ R hq fun J F1 H1 γ1 n y R1 e1 jo ⟨hn, I, i0, it, ie⟩ => ?_
  intro L hL
  obtain ⟨f1, f2, f3, f4⟩ := R1.fresh hL
  -- the state between two turns
  refine ⟨fun i m H' => m = n - i ∧ i ≤ n ∧ ∃ F' γ' acc va, Rep K B F' H' (wipe σ vs) γ' ∧ Ex F1 F' ∧ H' L = some (.lst va) ∧ F' L = none ∧ RpAll (B.kz K) F' va acc ∧ acc.length ≤ i ∧ (∀ (j : Nat) p c, γ'[j]? = some (.own p c) → (wipe σ vs)[j]? ≠ some (some (.ref L))) ∧ I i acc γ',
    ⟨n, by omega, by omega, F1, _, [], [], (R1.alloc _ hL).wipe vs, Evl.Ex.refl F1, upd_same, f1, .nil, Nat.le_refl _, fun j p c hg hs => ?_, i0⟩, fun i m H' ⟨hm, hin, F2, γ2, acc, va, R2, e2, hL2, fL2, ra, la, na, i2⟩ => ?_⟩
  · obtain ⟨fa, ok⟩ := ((R1.alloc (.lst []) hL).wipe vs).ownObj hg hs
    have R1w := R1.wipe vs
    obtain ⟨_, ok'⟩ := R1w.ownObj hg hs
    obtain ⟨o, ho, _⟩ := ok'.obj
    rw [hL] at ho; cases ho
  · by_cases hlt : i < n
    · refine .inr ⟨jo.go B F2 H' _ γ2 i R2 e2 hlt, fun H3 => ∃ F' γ' acc va, Rep K B F' H3 (wipe σ vs) γ' ∧ Ex F1 F' ∧ H3 L = some (.lst va) ∧ F' L = none ∧ RpAll (B.kz K) F' va acc ∧ acc.length ≤ i + 1 ∧ (∀ (j : Nat) p c, γ'[j]? = some (.own p c) → (wipe σ vs)[j]? ≠ some (some (.ref L))) ∧ I (i + 1) acc γ',
        fun H3 h => ⟨n - (i + 1), by omega, rfl, by omega, h⟩, fun x H3 hy => ?_⟩
      -- the iterator's turn keeps L: it is taken over a base at this state
      have R2r := R2.re
      have nL : L ∉ ownsOf (wipe σ vs) γ2 H' := fun z => by
        obtain ⟨j, a, p, c, h1, h2, h3⟩ := mem_owns.mp z
        rcases h3 with rfl | ⟨C, fs, h3⟩
        · exact na j p c h2 h1
        · obtain ⟨_, ok⟩ := R2.ownObj h2 h1
          cases c with
          | lst ds => obtain ⟨_, q1, _⟩ := ok; rw [h3] at q1; cases q1
          | dct ds => obtain ⟨_, q1, _⟩ := ok; rw [h3] at q1; cases q1
          | ins C' fs' =>
            obtain ⟨dx, fv, q1, q2, _⟩ := ok
            rw [h3] at q1
            injection q1 with q1
            injection q1 with _ q1 _
            rw [← q1, hL2] at q2; cases q2
      have keepL : ∀ {F' H' σ' γ'}, Rep K (B.re F2 H' (wipe σ vs) γ2) F' H' σ' γ' → True := fun _ => trivial
      obtain ⟨F3, dd, R3, e3, rx, yx⟩ := jo.yl _ F2 H' _ γ2 i x H3 R2r e2 hlt hy rfl
      refine hg _ F3 H3 _ γ2 x dd _ _ R3 rx (it i acc γ2 hlt i2 dd yx) fun σ4 γ4 R4 o4 h4 => ?_
      have w4 : wipe σ4 vs = wipe σ vs := wipe_off o4 hs
      refine ⟨w4, ht _ F3 H3 σ4 γ4 _ _ R4 h4 fun b F5 H5 γ5 R5 e5 h5 => ?_⟩
      have atL : ∀ {F' H'' σ' γ'}, Rep K (B.re F2 H' (wipe σ vs) γ2) F' H'' σ' γ' → H'' L = some (.lst va) ∧ F' L = none ∧ ∀ (j : Nat) p c, γ'[j]? = some (.own p c) → σ'[j]? ≠ some (some (.ref L)) := fun R' => by
        refine ⟨(R'.b1 L _ hL2).1 nL, (R'.b3 L _ hL2 nL).trans fL2, fun j p c h1 h2 => ?_⟩
        rcases R'.b5 j L p c h1 h2 with z | z
        · exact nL z
        · have z' : H' L = none := z
          rw [hL2] at z'; cases z'
      have fin : ∀ {F' H'' γ' acc' va'}, Rep K B F' H'' σ4 γ' → Ex F1 F' → H'' L = some (.lst va') → F' L = none → RpAll (B.kz K) F' va' acc' → acc'.length ≤ i + 1 → (∀ (j : Nat) p c, γ'[j]? = some (.own p c) → σ4[j]? ≠ some (some (.ref L))) → I (i + 1) acc' (wipeG γ' vs) →
          ∃ F' γ' acc va, Rep K B F' H'' (wipe σ vs) γ' ∧ Ex F1 F' ∧ H'' L = some (.lst va) ∧ F' L = none ∧ RpAll (B.kz K) F' va acc ∧ acc.length ≤ i + 1 ∧ (∀ (j : Nat) p c, γ'[j]? = some (.own p c) → (wipe σ vs)[j]? ≠ some (some (.ref L))) ∧ I (i + 1) acc γ' := fun {F' H'' γ' acc' va'} a1 a2 a3 a4 a5 a6 a7 a8 => by
        refine ⟨F', wipeG γ' vs, acc', va', by rw [← w4]; exact a1.wipe vs, a2, a3, a4, a5, a6, fun j p c h1 h2 => ?_, a8⟩
        rw [← w4, wipe_get] at h2
        have h1' : γ'[j]? = some (.own p c) := by
          have go : ∀ vs : List Nat, (wipeG γ' vs)[j]? = some (.own p c) → γ'[j]? = some (.own p c) := fun vs => by
            induction vs with
            | nil => exact fun h => h
            | cons v vs ih =>
              intro h
              unfold wipeG at h
              rcases get_put h with ⟨_, e⟩ | ⟨_, e⟩
              · cases e
              · exact ih e
          exact go vs h1
        split at h2
        · cases h2
        · exact a7 j p c h1' h2
      cases b with
      | true =>
        show te σ4 H5 _
        refine he _ F5 H5 σ4 γ5 _ _ R5 (h5.1 rfl) fun v F6 H6 γ6 s R6 e6 o6 ⟨hk, h7⟩ => ?_
        obtain ⟨F7, R7, e7, o7⟩ := o6.fz R6
        have rv := o7.kp hk
        obtain ⟨g1, g2, g3⟩ := atL R7
        have ex : Ex F2 F7 := ((e3.trans e5).trans e6).trans e7
        refine ⟨va, g1, Nat.lt_of_lt_of_le (show va.length < 1000001 by rw [ra.length]; omega) (by decide), ?_⟩
        have R8 : Rep K B F7 H6 σ4 γ6 := R2.back R7
        exact fin (R8.poke (o' := .lst (va ++ [v])) g1 (fun x z => by cases z) g2 (.inr f2) g3 ⟨_, rfl⟩) (e2.trans ex) upd_same g2 (RpAll.of (P_app (ra.mono ex).p (.cons rv .nil))) (by rw [List.length_append, List.length_singleton]; omega) g3 h7
      | false =>
        obtain ⟨g1, g2, g3⟩ := atL R5
        have ex : Ex F2 F5 := e3.trans e5
        exact fin (R2.back R5) (e2.trans ex) g1 g2 (ra.mono ex) (by omega) g3 (h5.2 rfl)
    · obtain rfl : i = n := by omega
      refine .inl ⟨jo.st B F2 H' _ γ2 i R2 e2 (Nat.le_refl _), ?_⟩
      have R3 : Rep K B F2 H' σ (restore γ1 γ2 vs) := Rep.rest R1 R2 e2 rfl
      refine k _ F2 H' _ (.new (.lst acc)) R3 (e1.trans e2) ⟨L, rfl, fL2, ⟨va, hL2, ra⟩, f3, .inr f2, fun j p c h1 h2 => ?_⟩ (ie acc γ2 i2)
      rcases restore_get h1 with ⟨_, z⟩ | ⟨nj, z⟩
      · unfold keepV at z
        split at z <;> cases z
      · exact na j p c z (by rw [wipe_get, if_neg fun q => nj q.1]; exact h2)
structure XTs (X : Cx) (ifs : List Expr) (tt : TT) (dt : DT) : Prop where
  pt : PTs X ifs tt
  st : ST X.K tt dt
def dYes (γ : Env) (q : Bool → Env → Prop) : Prop := q true γ
theorem ts_nil {X : Cx} : XTs X [] tYes dYes := ⟨pts_nil, fun B F H σ γ Q q R hq k => k true F H γ R (Evl.Ex.refl F) hq⟩
theorem ts_one {X : Cx} {c : Expr} {tt : TT} {dt : DT} (h : XT X c tt dt) : XTs X [c] tt dt := ⟨pts_one h.pt, h.st⟩
section
variable {X : Cx} {elt tg iter : Expr} {ifs : List Expr} {scope : Scope} {pos : Pos} {wi : TI} {di : DI} {g : TG} {dg : DG} {tt : TT} {dt : DT} {te : TE} {de : DE} {ix : List Nat}
theorem x_lc (own : List (Str × Nat)) (hc : X.calm = true) (hN : X.N.Nodup) (hi : XI X tg iter wi di) (ok : BlkOk X.N X.env.scope scope own)
    (hg : ∀ (s : Shared) (H : Hp) (C : Addr) (cl : List (Str × Addr)) (fp : List Addr), XG (X.blk s H scope (compEnvC scope cl C X.env) fp) tg g dg ix) (ht : ∀ (s : Shared) (H : Hp) (C : Addr) (cl : List (Str × Addr)) (fp : List Addr), XTs (X.blk s H scope (compEnvC scope cl C X.env) fp) ifs tt dt)
    (he : ∀ (s : Shared) (H : Hp) (C : Addr) (cl : List (Str × Addr)) (fp : List Addr), XE (X.blk s H scope (compEnvC scope cl C X.env) fp) elt te de) (hix : ∀ i ∈ ix, i ∈ own.map (·.2)) (hs : ∀ x, foldedSetIterable iter X.env x = pure x := by intro _; rfl) :
    XE X (.ListComp elt [⟨tg, iter, ifs, 0⟩] scope pos) (tLc wi g tt te (own.map (·.2))) (dLc di dg dt de (own.map (·.2))) :=
  ⟨pe_lc hc hN hi.pi ok (fun s H C cl fp => (hg s H C cl fp).pg) (fun s H C cl fp => (ht s H C cl fp).pt) (fun s H C cl fp => (he s H C cl fp).pe) hs,
    se_lc hi.si (hg X.s_0 X.H_0 0 [] []).sg (ht X.s_0 X.H_0 0 [] []).st (he X.s_0 X.H_0 0 [] []).se hix⟩
end
end DL

set_option Elab.async false
set_option linter.all false
set_option maxRecDepth 100000
set_option maxHeartbeats 2000000
namespace DL
open PySem PySem.Spec PyProof.Rows L2
open Evl (Ex ex_l ex_t)
section
variable {X : Cx} {elt tg iter : Expr} {ifs : List Expr} {scope : Scope} {pos spos : Pos} {wi : TI} {di : DI} {g : TG} {dg : DG} {tt : TT} {dt : DT} {te : TE} {de : DE} {ix : List Nat}
/-- name = [..] on one line -/
theorem s_setLc (i : Nat) (own : List (Str × Nat)) {y : Str} {py : Pos} (hc : X.calm = true) (hN : X.N.Nodup) (hi : XI X tg iter wi di) (ok : BlkOk X.N X.env.scope scope own)
    (hg : ∀ (s : Shared) (H : Hp) (C : Addr) (cl : List (Str × Addr)) (fp : List Addr), XG (X.blk s H scope (compEnvC scope cl C X.env) fp) tg g dg ix) (ht : ∀ (s : Shared) (H : Hp) (C : Addr) (cl : List (Str × Addr)) (fp : List Addr), XTs (X.blk s H scope (compEnvC scope cl C X.env) fp) ifs tt dt)
    (he : ∀ (s : Shared) (H : Hp) (C : Addr) (cl : List (Str × Addr)) (fp : List Addr), XE (X.blk s H scope (compEnvC scope cl C X.env) fp) elt te de) (hix : ∀ i ∈ ix, i ∈ own.map (·.2)) (hsw : swapsWith (.ListComp elt [⟨tg, iter, ifs, 0⟩] scope pos) (some (.Name y py)) spos.line X.env = pure true)
    (hy : X.N[i]? = some y := by rfl) (hyl : X.env.scope.names.lookup y = some .local := by rfl) (hs : ∀ x, foldedSetIterable iter X.env x = pure x := by intro _; rfl) :
    XS X (.Assign [.Name y py] (.ListComp elt [⟨tg, iter, ifs, 0⟩] scope pos) spos) (tAsg (tLc wi g tt te (own.map (·.2))) (gName i)) (dAsg i (dLc di dg dt de (own.map (·.2)))) :=
  ⟨ps_setLc hc hN hy hyl hsw hi.pi ok (fun s H C cl fp => (hg s H C cl fp).pg) (fun s H C cl fp => (ht s H C cl fp).pt) (fun s H C cl fp => (he s H C cl fp).pe) hs,
    sa_name (se_lc hi.si (hg X.s_0 X.H_0 0 [] []).sg (ht X.s_0 X.H_0 0 [] []).st (he X.s_0 X.H_0 0 [] []).se hix)⟩
end

/-! ### promises in data -/
abbrev FS := List Sx → (RS → List Sx → Prop) → Prop
abbrev ZN (H : Hp) := {z : Addr → Prop // ∀ a, z a → ∃ o, H a = some o}
theorem Rep.znp {K : PySem.W.Frag} {B : Bs} {F H : Hp} {σ : L2.St} {γ : Env} (R : Rep K B F H σ γ) : ∀ a, B.z a → ∃ o, H a = some o := fun a h => let ⟨o, e⟩ := B.zn a h; R.bN a o e
abbrev Rep.zn {K : PySem.W.Frag} {B : Bs} {F H : Hp} {σ : L2.St} {γ : Env} (R : Rep K B F H σ γ) : ZN H := ⟨B.z, R.znp⟩
def entry (F H : Hp) (m : List Addr) (z : ZN H) (vs : List V) : Bs := ⟨H, fun k => match (vs[k]? : Option V) with | some (.ref a) => some a | _ => none, F, H, m, z.1, z.2⟩
def spOf (K : PySem.W.Frag) (n : Nat) (fs : FS) : Sp := fun vs H Q _ => vs.length = n ∧ ∃ F m, ∃ z : ZN H, ∃ as p, Rep K (entry F H m z vs) F H (vs.map some) as ∧ fs as p ∧
  ∀ r as' v F' H', p r as' → Rep K (entry F H m z vs) F' H' (vs.map some) as' → RsOk K (entry F H m z vs) F' H' (vs.map some) as' v r → r.kept → Q v H'
/-- what the parameters' things are at the end -/
def Outs : List Sx → Env → List Sx → Prop
  | [], _, zs => zs = []
  | .own p _ :: as, s :: γ, zs => ∃ c' r, s = .own p c' ∧ zs = .own p c' :: r ∧ Outs as γ r
  | t :: as, _ :: γ, zs => ∃ r, zs = t :: r ∧ Outs as γ r
  | _ :: _, [], _ => False
/-- the same, with what follows -/
def OutP : List Sx → Env → (List Sx → Prop) → Prop
  | [], _, k => k []
  | .own p _ :: as, .own p' c' :: γ, k => p' = p ∧ OutP as γ fun r => k (.own p c' :: r)
  | .val d :: as, _ :: γ, k => OutP as γ fun r => k (.val d :: r)
  | .no :: as, _ :: γ, k => OutP as γ fun r => k (.no :: r)
  | _, _, _ => False
theorem outP : ∀ {as : List Sx} {γ : Env} {k : List Sx → Prop}, OutP as γ k → ∃ as', Outs as γ as' ∧ k as'
  | [], _, _, h => ⟨[], rfl, h⟩
  | .own p _ :: as, .own p' c' :: γ, k, h => by
    obtain ⟨rfl, h⟩ := h
    obtain ⟨r, h1, h2⟩ := outP h
    exact ⟨_, ⟨c', r, rfl, rfl, h1⟩, h2⟩
  | .val d :: as, s :: γ, k, h => by
    obtain ⟨r, h1, h2⟩ := outP (as := as) (γ := γ) (k := fun r => k (.val d :: r)) (by unfold OutP at h; exact h)
    exact ⟨_, ⟨r, rfl, h1⟩, h2⟩
  | .no :: as, s :: γ, k, h => by
    obtain ⟨r, h1, h2⟩ := outP (as := as) (γ := γ) (k := fun r => k (.no :: r)) (by unfold OutP at h; exact h)
    exact ⟨_, ⟨r, rfl, h1⟩, h2⟩
def startG (n : Nat) (as : List Sx) : Env := as ++ List.replicate (n - as.length) .no
def endsOf (as : List Sx) (p : RS → List Sx → Prop) : DEnds := { nx := fun γ => OutP as γ fun zs => p (.val .non) zs, rt := fun r γ => r.kept ∧ OutP as γ fun zs => p r zs }
theorem endsOf_nx {as : List Sx} {p : RS → List Sx → Prop} {γ : Env} : (endsOf as p).nx γ = OutP as γ fun zs => p (.val .non) zs := rfl
theorem endsOf_rt {as : List Sx} {p : RS → List Sx → Prop} {r : RS} {γ : Env} : (endsOf as p).rt r γ = (r.kept ∧ OutP as γ fun zs => p r zs) := rfl
theorem endsOf_bk {as : List Sx} {p : RS → List Sx → Prop} {γ : Env} : (endsOf as p).bk γ = False := rfl
theorem outs_get : ∀ {as : List Sx} {γ : Env} {zs : List Sx}, Outs as γ zs → zs.length = as.length ∧ ∀ (i : Nat) z, zs[i]? = some z → (∃ p c c', as[i]? = some (.own p c) ∧ γ[i]? = some (.own p c') ∧ z = .own p c') ∨ (as[i]? = some z ∧ ∀ p c, z ≠ .own p c)
  | [], γ, zs, h => by
    have h' : zs = [] := h
    subst h'
    exact ⟨rfl, fun i z e => by simp at e⟩
  | .own p c :: as, s :: γ, zs, h => by
    obtain ⟨c', r, rfl, rfl, h⟩ := h
    obtain ⟨l, g⟩ := outs_get h
    refine ⟨by rw [List.length_cons, List.length_cons, l], fun i z e => ?_⟩
    cases i with
    | zero => simp at e; subst e; exact .inl ⟨p, c, c', rfl, rfl, rfl⟩
    | succ i => simpa using g i z (by simpa using e)
  | .val d :: as, s :: γ, zs, h => by
    obtain ⟨r, rfl, h⟩ := h
    obtain ⟨l, g⟩ := outs_get h
    refine ⟨by rw [List.length_cons, List.length_cons, l], fun i z e => ?_⟩
    cases i with
    | zero => simp at e; subst e; exact .inr ⟨rfl, fun p c z => by cases z⟩
    | succ i => simpa using g i z (by simpa using e)
  | .no :: as, s :: γ, zs, h => by
    obtain ⟨r, rfl, h⟩ := h
    obtain ⟨l, g⟩ := outs_get h
    refine ⟨by rw [List.length_cons, List.length_cons, l], fun i z e => ?_⟩
    cases i with
    | zero => simp at e; subst e; exact .inr ⟨rfl, fun p c z => by cases z⟩
    | succ i => simpa using g i z (by simpa using e)
section
variable {K : PySem.W.Frag} {F F' H H' : Hp} {m : List Addr} {z : ZN H} {vs : List V} {as zs : List Sx} {σ' : L2.St} {γ' : Env}
theorem start_get {N : List Str} {i : Nat} {s : Option V} {t : Sx} {n : Nat} (h1 : (start N vs)[i]? = some s) (h2 : (startG n as)[i]? = some t) (hl : vs.length = as.length) : ((vs.map some)[i]? = some s ∧ as[i]? = some t) ∨ t = .no := by
  unfold L2.start at h1
  unfold startG at h2
  by_cases hi : i < as.length
  · rw [List.getElem?_append_left (by rw [List.length_map]; omega)] at h1
    rw [List.getElem?_append_left hi] at h2
    exact .inl ⟨h1, h2⟩
  · rw [List.getElem?_append_right (by omega)] at h2
    exact .inr (List.eq_of_mem_replicate (List.mem_of_getElem? h2))
/-- at a def's start -/
theorem Rep.start {B : Bs} {N : List Str} (R : Rep K B F H (vs.map some) as) (hN : vs.length ≤ N.length) : Rep K B F H (start N vs) (startG N.length as) := by
  have hl : vs.length = as.length := by have := R.len; rw [List.length_map] at this; exact this
  have key : ∀ {i : Nat} {p : Option Nat} {c : OC} {s : Option V}, (startG N.length as)[i]? = some (.own p c) → (L2.start N vs)[i]? = some s → as[i]? = some (.own p c) ∧ (vs.map some)[i]? = some s := fun h1 h2 => by
    rcases start_get h2 h1 hl with ⟨a, b⟩ | z
    · exact ⟨b, a⟩
    · cases z
  refine ⟨R.fh, ?_, fun i s t hs hg => ?_, fun i j a p c q c' h1 h2 h3 h4 => R.nd i j a p c q c' (key h1 h3).1 (key h2 h4).1 (key h1 h3).2 (key h2 h4).2, R.b1, R.b2, R.b3, fun j a p c h1 h2 => R.b4 j a p c (key h1 h2).1 (key h1 h2).2, fun j a p c h1 h2 => R.b5 j a p c (key h1 h2).1 (key h1 h2).2, R.bN, R.bd⟩
  · unfold L2.start startG
    rw [List.length_append, List.length_append, List.length_map, List.length_replicate, List.length_replicate, hl]
  · rcases start_get hs hg hl with ⟨a, b⟩ | z
    · exact R.sl i s t a b
    · subst z; trivial
/-- at its end -/
theorem Rep.outs (R0 : Rep K (entry F H m z vs) F H (vs.map some) as) (R : Rep K (entry F H m z vs) F' H' σ' γ') (h : Outs as γ' zs) : Rep K (entry F H m z vs) F' H' (vs.map some) zs := by
  obtain ⟨hl, hz⟩ := outs_get h
  have own : ∀ {i : Nat} {p : Option Nat} {c : OC} {a : Addr}, zs[i]? = some (.own p c) → (vs.map some)[i]? = some (some (.ref a)) → ∃ c0, as[i]? = some (.own p c0) ∧ γ'[i]? = some (.own p c) ∧ σ'[i]? = some (some (.ref a)) := fun {i p c a} h1 h2 => by
    rcases hz i _ h1 with ⟨p', c0, c', e1, e2, e3⟩ | ⟨_, n⟩
    · injection e3 with e3 e4
      subst e3; subst e4
      obtain ⟨b, e5, _⟩ : ∃ b, σ'[i]? = some (some (.ref b)) ∧ True := by
        obtain ⟨l1, _⟩ := List.getElem?_eq_some_iff.mp e2
        have l2 : i < σ'.length := by rw [R.len]; exact l1
        obtain ⟨b, e, _⟩ := R.sl i _ _ (List.getElem?_eq_getElem l2) e2
        exact ⟨b, by rw [List.getElem?_eq_getElem l2, e], trivial⟩
      obtain ⟨q1, q2⟩ := R.b4 i b p c e2 e5
      obtain ⟨q3, q4⟩ := R0.b4 i a p c0 e1 h2
      refine ⟨c0, e1, e2, ?_⟩
      cases p with
      | none =>
        obtain ⟨_, ok⟩ := R0.ownObj e1 h2
        obtain ⟨o, ho, _⟩ := ok.obj
        have z : H a = none := q4 rfl
        rw [z] at ho; cases ho
      | some k =>
        have z1 := q1 k rfl
        have z2 := q3 k rfl
        rw [z2] at z1
        cases z1
        exact e5
    · exact absurd rfl (n p c)
  refine ⟨R.fh, by rw [hl]; exact R0.len, fun i s t hs hg => ?_, fun i j a p c q c' h1 h2 h3 h4 => ?_, R.b1, R.b2, R.b3, fun i a p c h1 h2 => ?_, fun i a p c h1 h2 => ?_, R.bN, R.bd⟩
  · cases t with
    | no => trivial
    | val d =>
      rcases hz i _ hg with ⟨_, _, _, _, _, z⟩ | ⟨e, _⟩
      · cases z
      · obtain ⟨v, e1, r⟩ := R0.sl i s _ hs e
        exact ⟨v, e1, r.mono R.b2⟩
    | own p c =>
      obtain ⟨v, hv, e0⟩ : ∃ v, vs[i]? = some v ∧ s = some v := by
        rw [List.getElem?_map] at hs
        cases q : vs[i]? with
        | none => rw [q] at hs; cases hs
        | some v => rw [q] at hs; exact ⟨v, rfl, (Option.some.inj hs).symm⟩
      subst e0
      rcases hz i _ hg with ⟨p', c0, c', e1, e2, e3⟩ | ⟨_, n⟩
      · injection e3 with e3 e4
        subst e3; subst e4
        obtain ⟨a, ea, _⟩ := R0.sl i _ _ hs e1
        cases ea
        obtain ⟨_, _, q2, q3⟩ := own hg hs
        obtain ⟨a', ea', f, ok⟩ := R.sl i _ _ q3 q2
        cases ea'
        exact ⟨a, rfl, f, ok⟩
      · exact absurd rfl (n p c)
  · obtain ⟨_, q1, q2, q3⟩ := own h1 h3
    obtain ⟨_, q4, q5, q6⟩ := own h2 h4
    exact R0.nd i j a p _ q _ q1 q4 h3 h4
  · obtain ⟨_, q1, q2, q3⟩ := own h1 h2
    exact R.b4 i a p c q2 q3
  · obtain ⟨_, q1, q2, q3⟩ := own h1 h2
    exact R.b5 i a p c q2 q3
end
section
variable {P : Program} {w : World} {K : PySem.W.Frag} {mg : Str → Option Value} {base : Heap}
/-- THE RULE for a def: its body as a term of rules, and what it does on data -/
theorem fn_ok {x qual : Str} {st : Stmt} {f : Addr} {fd : FuncData} {N ps : List Str} {k n : Nat} {fs : FS} {ds : DS} (F : Fun K x qual st f fd) (S : FnScope N ps (defScope st)) (hn : ps.length = n) (hN : n ≤ N.length)
    (body : ∀ (cdv : Value) (A : Around) (outer : List PySem.Env) (s : Shared) (H : Hp) (E : XK), Room k (A.deeper (envOfC qual (defScope st) s.heap.objs.size f cdv)) → ∃ ts, XSs (cxOf CX0 P w K mg base N qual (defScope st) f cdv A outer s H E).nox (defBody st) ts ds)
    (h : ∀ as p, as.length = n → fs as p → ds (endsOf as p) (startG N.length as)) : FnOk P w K mg base CX0 (k + 1) f fd ps (spOf K n fs) := by
  refine F.ok S (fun vs H Q E h => h.1.trans hn.symm) fun cdv A outer s H vs Q E hr hsp => ?_
  obtain ⟨ts, b⟩ := body cdv A outer s H E hr
  refine ⟨ts, b.ps, ?_⟩
  obtain ⟨hl, F0, m, z, as, p, R0, hf, hq⟩ := hsp
  have ha : as.length = n := by have := R0.len; rw [List.length_map] at this; omega
  refine b.ss (entry F0 H m z vs) F0 H _ _ _ (endsOf as p) (R0.start (by rw [hl]; exact hN)) (h as p ha hf) ⟨fun F' H' σ' γ' R' _ h1 => ?_, fun F' H' σ' γ' v r R' _ o ⟨hk, h1⟩ => ?_, fun _ _ _ _ _ _ z => z, fun _ _ _ _ _ _ z => z⟩
  · obtain ⟨zs, ho, hp⟩ := outP h1
    exact hq (.val .non) zs .non F' H' hp (R0.outs R' ho) .non trivial
  · obtain ⟨zs, ho, hp⟩ := outP h1
    have R2 := R0.outs R' ho
    refine hq r zs v F' H' hp R2 ?_ hk
    cases r with
    | val d => exact o
    | own j c => exact hk.elim
    | new c =>
      obtain ⟨a, rfl, N⟩ := o
      refine ⟨a, rfl, N.fa, N.ok, N.bn, N.bm, fun i p' c' h1 h2 => ?_⟩
      obtain ⟨_, ok⟩ := R2.ownObj h1 h2
      have e1 : H a = none := N.bn
      obtain ⟨_, h3⟩ := outs_get ho
      rcases h3 i _ h1 with ⟨p2, c0, c2, e2, _, _⟩ | ⟨_, n2⟩
      · obtain ⟨_, ok2⟩ := R0.ownObj e2 h2
        obtain ⟨o, ho, _⟩ := ok2.obj
        rw [e1] at ho; cases ho
      · exact n2 p' c' rfl
end

/-! ### calls -/
def noNew : List RS → Prop
  | [] => True
  | .new _ :: _ => False
  | _ :: r => noNew r
def ownIx : List RS → List Nat
  | [] => []
  | .own j _ :: r => j :: ownIx r
  | _ :: r => ownIx r
def argsOf : Nat → List RS → List Sx
  | _, [] => []
  | k, .val d :: r => .val d :: argsOf (k + 1) r
  | k, .own _ c :: r => .own (some k) c :: argsOf (k + 1) r
  | k, .new _ :: r => .no :: argsOf (k + 1) r
def putC (γ : Env) (j : Nat) (t : Sx) : Env := match look γ j, t with
  | .own p _, .own _ c => put γ j (.own p c)
  | _, _ => put γ j .no
def upds : Env → List RS → List Sx → Env
  | γ, .own j _ :: r, t :: as => upds (putC γ j t) r as
  | γ, .own j _ :: r, [] => upds (put γ j .no) r []
  | γ, _ :: r, _ :: as => upds γ r as
  | γ, _ :: r, [] => upds γ r []
  | γ, [], _ => γ
theorem putC_len {γ : Env} {j : Nat} {t : Sx} : (putC γ j t).length = γ.length := by
  unfold putC
  split <;> rw [put_len]
theorem put_ne {γ : Env} {i j : Nat} {t : Sx} (h : i ≠ j) : (put γ j t)[i]? = γ[i]? := by rw [put_set, List.getElem?_set_ne (Ne.symm h)]
theorem putC_ne {γ : Env} {i j : Nat} {t : Sx} (h : i ≠ j) : (putC γ j t)[i]? = γ[i]? := by
  unfold putC
  split <;> rw [put_ne h]
theorem upds_len : ∀ {rs : List RS} {as : List Sx} {γ : Env}, (upds γ rs as).length = γ.length
  | [], _, _ => rfl
  | .own j _ :: r, t :: as, γ => by unfold upds; rw [upds_len, putC_len]
  | .own j _ :: r, [], γ => by unfold upds; rw [upds_len, put_len]
  | .val d :: r, _ :: as, γ => by unfold upds; exact upds_len
  | .val d :: r, [], γ => by unfold upds; exact upds_len
  | .new d :: r, _ :: as, γ => by unfold upds; exact upds_len
  | .new d :: r, [], γ => by unfold upds; exact upds_len
theorem upds_off : ∀ {rs : List RS} {as : List Sx} {γ : Env} {i : Nat}, i ∉ ownIx rs → (upds γ rs as)[i]? = γ[i]?
  | [], _, _, _, _ => rfl
  | .own j _ :: r, t :: as, γ, i, h => by
    unfold upds
    rw [upds_off (fun z => h (List.mem_cons_of_mem _ z)), putC_ne fun z => h (by rw [z]; exact List.mem_cons_self)]
  | .own j _ :: r, [], γ, i, h => by
    unfold upds
    rw [upds_off (fun z => h (List.mem_cons_of_mem _ z)), put_ne fun z => h (by rw [z]; exact List.mem_cons_self)]
  | .val d :: r, _ :: as, γ, i, h => by unfold upds; exact upds_off h
  | .val d :: r, [], γ, i, h => by unfold upds; exact upds_off h
  | .new d :: r, _ :: as, γ, i, h => by unfold upds; exact upds_off h
  | .new d :: r, [], γ, i, h => by unfold upds; exact upds_off h
theorem mem_ownIx : ∀ {rs : List RS} {k : Nat} {j : Nat} {c : OC}, rs[k]? = some (.own j c) → j ∈ ownIx rs
  | [], _, _, _, h => by simp at h
  | .own j' _ :: r, 0, j, c, h => by simp at h; rw [h.1]; exact List.mem_cons_self
  | .own j' _ :: r, k + 1, j, c, h => List.mem_cons_of_mem _ (mem_ownIx (k := k) (by simpa using h))
  | .val d :: r, 0, j, c, h => by simp at h
  | .val d :: r, k + 1, j, c, h => by
    show j ∈ ownIx r
    exact mem_ownIx (k := k) (by simpa using h)
  | .new d :: r, 0, j, c, h => by simp at h
  | .new d :: r, k + 1, j, c, h => by
    show j ∈ ownIx r
    exact mem_ownIx (k := k) (by simpa using h)
theorem ownIx_mem : ∀ {rs : List RS} {j : Nat}, j ∈ ownIx rs → ∃ (k : Nat) (c : OC), rs[k]? = some (RS.own j c)
  | [], _, h => by cases h
  | .own j' c :: r, j, h => by
    rcases List.mem_cons.mp h with e | h
    · exact ⟨0, c, by rw [e]; rfl⟩
    · obtain ⟨k, c', e⟩ := ownIx_mem h
      exact ⟨k + 1, c', by simpa using e⟩
  | .val d :: r, j, h => by
    obtain ⟨k, c', e⟩ := ownIx_mem (rs := r) h
    exact ⟨k + 1, c', by simpa using e⟩
  | .new d :: r, j, h => by
    obtain ⟨k, c', e⟩ := ownIx_mem (rs := r) h
    exact ⟨k + 1, c', by simpa using e⟩
theorem upds_at : ∀ {rs : List RS} {as : List Sx} {γ : Env} {k j : Nat} {c0 c1 : OC} {p : Option Nat}, (ownIx rs).Nodup → rs[k]? = some (.own j c0) → γ[j]? = some (.own p c1) →
    (upds γ rs as)[j]? = some .no ∨ ∃ p' c, as[k]? = some (.own p' c) ∧ (upds γ rs as)[j]? = some (.own p c)
  | [], _, _, _, _, _, _, _, _, h, _ => by simp at h
  | .own j' c' :: r, t :: as, γ, 0, j, c0, c1, p, nd, h, hg => by
    obtain ⟨rfl, rfl⟩ : j' = j ∧ c' = c0 := by simpa using h
    have nj : j' ∉ ownIx r := (List.nodup_cons.mp nd).1
    have lt : j' < γ.length := (List.getElem?_eq_some_iff.mp hg).1
    unfold upds
    rw [upds_off nj]
    unfold putC
    rw [look_of hg]
    cases t with
    | own p' c => exact .inr ⟨p', c, rfl, (show (put γ j' (.own p c))[j']? = some (.own p c) by rw [put_set]; exact List.getElem?_set_self lt)⟩
    | no => exact .inl (show (put γ j' .no)[j']? = some .no by rw [put_set]; exact List.getElem?_set_self lt)
    | val d => exact .inl (show (put γ j' .no)[j']? = some .no by rw [put_set]; exact List.getElem?_set_self lt)
  | .own j' c' :: r, [], γ, 0, j, c0, c1, p, nd, h, hg => by
    obtain ⟨rfl, rfl⟩ : j' = j ∧ c' = c0 := by simpa using h
    have nj : j' ∉ ownIx r := (List.nodup_cons.mp nd).1
    have lt : j' < γ.length := (List.getElem?_eq_some_iff.mp hg).1
    unfold upds
    rw [upds_off nj]
    exact .inl (by rw [put_set]; exact List.getElem?_set_self lt)
  | .own j' c' :: r, t :: as, γ, k + 1, j, c0, c1, p, nd, h, hg => by
    have hr : r[k]? = some (.own j c0) := by simpa using h
    have ne : j ≠ j' := fun e => (List.nodup_cons.mp nd).1 (by rw [← e]; exact mem_ownIx hr)
    unfold upds
    simpa using upds_at (List.nodup_cons.mp nd).2 hr (by rw [putC_ne ne]; exact hg)
  | .own j' c' :: r, [], γ, k + 1, j, c0, c1, p, nd, h, hg => by
    have hr : r[k]? = some (.own j c0) := by simpa using h
    have ne : j ≠ j' := fun e => (List.nodup_cons.mp nd).1 (by rw [← e]; exact mem_ownIx hr)
    unfold upds
    simpa using upds_at (as := []) (List.nodup_cons.mp nd).2 hr (by rw [put_ne ne]; exact hg)
  | .val d :: r, _, _, 0, _, _, _, _, _, h, _ => by simp at h
  | .new d :: r, _, _, 0, _, _, _, _, _, h, _ => by simp at h
  | .val d :: r, t :: as, γ, k + 1, j, c0, c1, p, nd, h, hg => by
    have hr : r[k]? = some (.own j c0) := by simpa using h
    unfold upds; simpa using upds_at (rs := r) (as := as) (k := k) (show (ownIx r).Nodup from nd) hr hg
  | .val d :: r, [], γ, k + 1, j, c0, c1, p, nd, h, hg => by
    have hr : r[k]? = some (.own j c0) := by simpa using h
    unfold upds; simpa using upds_at (rs := r) (as := []) (k := k) (show (ownIx r).Nodup from nd) hr hg
  | .new d :: r, t :: as, γ, k + 1, j, c0, c1, p, nd, h, hg => by
    have hr : r[k]? = some (.own j c0) := by simpa using h
    unfold upds; simpa using upds_at (rs := r) (as := as) (k := k) (show (ownIx r).Nodup from nd) hr hg
  | .new d :: r, [], γ, k + 1, j, c0, c1, p, nd, h, hg => by
    have hr : r[k]? = some (.own j c0) := by simpa using h
    unfold upds; simpa using upds_at (rs := r) (as := []) (k := k) (show (ownIx r).Nodup from nd) hr hg
theorem args_get : ∀ {rs : List RS} {b i : Nat} {t : Sx}, (argsOf b rs)[i]? = some t → (∃ d, rs[i]? = some (.val d) ∧ t = .val d) ∨ (∃ j c, rs[i]? = some (.own j c) ∧ t = .own (some (b + i)) c) ∨ t = .no
  | [], _, _, _, h => by simp [argsOf] at h
  | .val d :: r, b, 0, t, h => by simp [argsOf] at h; exact .inl ⟨d, rfl, h.symm⟩
  | .own j c :: r, b, 0, t, h => by simp [argsOf] at h; exact .inr (.inl ⟨j, c, rfl, h.symm⟩)
  | .new c :: r, b, 0, t, h => by simp [argsOf] at h; exact .inr (.inr h.symm)
  | .val d :: r, b, i + 1, t, h => by
    have := args_get (rs := r) (b := b + 1) (i := i) (t := t) (by simpa [argsOf] using h)
    rw [show b + 1 + i = b + (i + 1) by omega] at this
    simpa using this
  | .own j c :: r, b, i + 1, t, h => by
    have := args_get (rs := r) (b := b + 1) (i := i) (t := t) (by simpa [argsOf] using h)
    rw [show b + 1 + i = b + (i + 1) by omega] at this
    simpa using this
  | .new c :: r, b, i + 1, t, h => by
    have := args_get (rs := r) (b := b + 1) (i := i) (t := t) (by simpa [argsOf] using h)
    rw [show b + 1 + i = b + (i + 1) by omega] at this
    simpa using this
theorem args_len : ∀ {rs : List RS} {b : Nat}, (argsOf b rs).length = rs.length
  | [], _ => rfl
  | .val d :: r, b => by simp [argsOf, args_len]
  | .own j c :: r, b => by simp [argsOf, args_len]
  | .new c :: r, b => by simp [argsOf, args_len]
end DL

set_option Elab.async false
set_option linter.all false
set_option maxRecDepth 100000
set_option maxHeartbeats 2000000
namespace DL
open PySem PySem.Spec PyProof.Rows L2
open Evl (Ex ex_l ex_t)
section
variable {K : PySem.W.Frag} {B : Bs} {F F' H H' : Hp} {σ : L2.St} {γ : Env}
/-- a callee's arguments, as its parameters find them -/
theorem Rep.args (R : Rep K B F H σ γ) {vs dvs : List V} {rs : List RS} {dds : List D} (o : Paired (RsOk K B F H σ γ) vs rs) (od : Paired (fun v d => ∀ z F, Rp ⟨K, z⟩ F v d) dvs dds) (nd : (ownIx rs).Nodup) :
    ∃ m, (∀ b, b ∈ m → ∃ (i : Nat) (j : Nat) (c : OC) (a : Addr), rs[i]? = some (.own j c) ∧ σ[j]? = some (some (.ref a)) ∧ (b = a ∨ ∃ C fs, H a = some (.ins C b fs))) ∧
      Rep K (entry F H m R.zn (vs ++ dvs)) F H ((vs ++ dvs).map some) (argsOf 0 rs ++ dds.map Sx.val) := by
  have hlen : ((vs ++ dvs).map some).length = (argsOf 0 rs ++ dds.map Sx.val).length := by
    rw [List.length_map, List.length_append, List.length_append, args_len, List.length_map, P_len o, P_len od]
  -- an owned argument
  have own : ∀ {i : Nat} {p : Option Nat} {c : OC} {a : Addr}, (argsOf 0 rs ++ dds.map Sx.val)[i]? = some (.own p c) → ((vs ++ dvs).map some)[i]? = some (some (.ref a)) → ∃ j, rs[i]? = some (.own j c) ∧ p = some i ∧ σ[j]? = some (some (.ref a)) ∧ (∃ q, γ[j]? = some (.own q c)) ∧ (vs ++ dvs)[i]? = some (.ref a) := fun {i p c a} h1 h2 => by
    by_cases hi : i < (argsOf 0 rs).length
    · rw [List.getElem?_append_left hi] at h1
      rcases args_get h1 with ⟨d, _, z⟩ | ⟨j, c', e, z⟩ | z
      · cases z
      · injection z with z1 z2
        subst z2
        rw [Nat.zero_add] at z1
        obtain ⟨v, hv, q1, q2⟩ := P_get o e
        have h3 : (vs ++ dvs)[i]? = some v := by rw [List.getElem?_append_left (List.getElem?_eq_some_iff.mp hv).1]; exact hv
        rw [List.getElem?_map, h3] at h2
        have e2 : v = .ref a := by simpa using h2
        subst e2
        exact ⟨j, e, z1, q1, q2, h3⟩
      · cases z
    · rw [List.getElem?_append_right (by omega), List.getElem?_map] at h1
      cases q : dds[i - (argsOf 0 rs).length]? with
      | none => rw [q] at h1; cases h1
      | some d => rw [q] at h1; cases h1
  refine ⟨ownsOf ((vs ++ dvs).map some) (argsOf 0 rs ++ dds.map Sx.val) H, fun b hb => ?_, R.fh, hlen, fun i s t hs hg => ?_, fun i j a p c q c' h1 h2 h3 h4 => ?_, fun b o e => ⟨fun _ => e, o, e⟩, Evl.Ex.refl F, fun b o _ _ => rfl, fun i a p c h1 h2 => ?_, fun i a p c h1 h2 => ?_, fun b o e => ⟨o, e⟩, fun a o e => ⟨o, e, .refl o⟩⟩
  · obtain ⟨i, a, p, c, h1, h2, h3⟩ := mem_owns.mp hb
    obtain ⟨j, e1, _, e3, _, _⟩ := own h2 h1
    exact ⟨i, j, c, a, e1, e3, h3⟩
  · cases t with
    | no => trivial
    | val d =>
      rw [List.getElem?_map] at hs
      by_cases hi : i < (argsOf 0 rs).length
      · rw [List.getElem?_append_left hi] at hg
        rcases args_get hg with ⟨d', e, z⟩ | ⟨j, c', e, z⟩ | z
        · cases z
          obtain ⟨v, hv, q1⟩ := P_get o e
          rw [List.getElem?_append_left (List.getElem?_eq_some_iff.mp hv).1, hv] at hs
          exact ⟨v, (Option.some.inj hs).symm, q1⟩
        · cases z
        · cases z
      · rw [List.getElem?_append_right (by omega), List.getElem?_map] at hg
        cases q : dds[i - (argsOf 0 rs).length]? with
        | none => rw [q] at hg; cases hg
        | some d' =>
          rw [q] at hg
          cases hg
          obtain ⟨v, hv, q1⟩ := P_get od q
          have e1 : i - (argsOf 0 rs).length = i - vs.length := by rw [args_len, P_len o]
          rw [List.getElem?_append_right (by rw [P_len o, ← args_len (rs := rs) (b := 0)]; omega), ← e1, hv] at hs
          exact ⟨v, (Option.some.inj hs).symm, q1 _ F⟩
    | own p c =>
      obtain ⟨v, e0⟩ : ∃ v, s = some v := by
        rw [List.getElem?_map] at hs
        cases q : (vs ++ dvs)[i]? with
        | none => rw [q] at hs; cases hs
        | some v => rw [q] at hs; exact ⟨v, (Option.some.inj hs).symm⟩
      subst e0
      by_cases hi : i < (argsOf 0 rs).length
      · have hg' := hg
        rw [List.getElem?_append_left hi] at hg
        rcases args_get hg with ⟨d, _, z⟩ | ⟨j, c', e, z⟩ | z
        · cases z
        · injection z with z1 z2
          subst z2
          obtain ⟨v', hv, q1, q, q2⟩ := P_get o e
          obtain ⟨a, e5, f, ok⟩ := R.sl j _ _ q1 q2
          cases e5
          rw [List.getElem?_map, List.getElem?_append_left (List.getElem?_eq_some_iff.mp hv).1, hv] at hs
          have e6 : v = .ref a := by simpa using hs.symm
          subst e6
          refine ⟨a, rfl, f, ?_⟩
          cases c with
          | lst ds => exact ok
          | dct kd => exact ok
          | ins C fs =>
            obtain ⟨dx, fv, h1, h2, h3, h4, h5, h6⟩ := ok
            refine ⟨dx, fv, h1, h2, h3, fun z => ?_, .inl (mem_owns.mpr ⟨i, a, p, _, ?_, hg', .inr ⟨C, fv, h1⟩⟩), h6⟩
            · have z' : H a = none := z
              rw [h1] at z'; cases z'
            · rw [List.getElem?_map, List.getElem?_append_left (List.getElem?_eq_some_iff.mp hv).1, hv]; rfl
        · cases z
      · rw [List.getElem?_append_right (by omega), List.getElem?_map] at hg
        cases q : dds[i - (argsOf 0 rs).length]? with
        | none => rw [q] at hg; cases hg
        | some d => rw [q] at hg; cases hg
  · obtain ⟨j1, e1, _, e2, ⟨q1, e3⟩, _⟩ := own h1 h3
    obtain ⟨j2, e4, _, e5, ⟨q2, e6⟩, _⟩ := own h2 h4
    have ej := R.nd j1 j2 a q1 c q2 c' e3 e6 e2 e5
    subst ej
    -- one index of rs for each slot
    have go : ∀ (rs : List RS) (i j : Nat) c c', (ownIx rs).Nodup → rs[i]? = some (.own j1 c) → rs[j]? = some (.own j1 c') → i = j := fun rs => by
      induction rs with
      | nil => intro i j c c' _ h; simp at h
      | cons r rs ih =>
        intro i j c c' hn h1 h2
        cases i with
        | zero =>
          cases j with
          | zero => rfl
          | succ j =>
            have e : r = .own j1 c := by simpa using h1
            subst e
            exact absurd (mem_ownIx (rs := rs) (k := j) (by simpa using h2)) (List.nodup_cons.mp hn).1
        | succ i =>
          cases j with
          | zero =>
            have e : r = .own j1 c' := by simpa using h2
            subst e
            exact absurd (mem_ownIx (rs := rs) (k := i) (by simpa using h1)) (List.nodup_cons.mp hn).1
          | succ j =>
            have hn' : (ownIx rs).Nodup := by
              cases r with
              | own j c => exact (List.nodup_cons.mp hn).2
              | val d => exact hn
              | new d => exact hn
            rw [ih i j c c' hn' (by simpa using h1) (by simpa using h2)]
    exact go rs i j c c' nd e1 e4
  · obtain ⟨j1, e1, e0, e2, _, e3⟩ := own h1 h2
    refine ⟨fun k z => ?_, fun z => ?_⟩
    · rw [e0] at z
      cases z
      show (match ((vs ++ dvs)[i]? : Option V) with | some (.ref a) => some a | _ => none) = some a
      rw [e3]
    · rw [e0] at z; cases z
  · exact .inl (mem_owns.mpr ⟨i, a, p, c, h2, h1, .inl rfl⟩)
/-- behind a call -/
theorem Rep.called (R : Rep K B F H σ γ) {vs : List V} {ws : List V} {rs : List RS} {as' : List Sx} {m : List Addr} (o : Paired (RsOk K B F H σ γ) vs rs) (nd : (ownIx rs).Nodup)
    (hw : ∀ (i : Nat) v, vs[i]? = some v → ws[i]? = some v)
    (hm : ∀ b, b ∈ m → ∃ (i : Nat) (j : Nat) (c : OC) (a : Addr), rs[i]? = some (.own j c) ∧ σ[j]? = some (some (.ref a)) ∧ (b = a ∨ ∃ C fs, H a = some (.ins C b fs))) (R' : Rep K (entry F H m R.zn ws) F' H' (ws.map some) as') :
    Rep K B F' H' σ (upds γ rs as') ∧ Ex F F' ∧ ∀ v r, r.kept → RsOk K (entry F H m R.zn ws) F' H' (ws.map some) as' v r → RsOk K B F' H' σ (upds γ rs as') v r := by
  have fF : Ex F F' := R'.b2
  -- what may have changed is owned here
  have mo : ∀ {b}, b ∈ m → b ∈ ownsOf σ γ H := fun {b} hb => by
    obtain ⟨i, j, c, a, h1, h2, h3⟩ := hm b hb
    obtain ⟨v, hv, q1, q, q2⟩ := P_get o h1
    exact mem_owns.mpr ⟨j, a, q, c, h2, q2, h3⟩
  have stay : ∀ {b o}, H b = some o → b ∉ m → H' b = some o ∧ F' b = F b := fun {b o} h n => ⟨(R'.b1 b o h).1 n, R'.b3 b o h n⟩
  -- an owned slot's address is in m only if it was handed over
  have apart : ∀ {i : Nat} {p : Option Nat} {c : OC} {a : Addr}, γ[i]? = some (.own p c) → σ[i]? = some (some (.ref a)) → i ∉ ownIx rs → a ∉ m ∧ ∀ dx, H dx = some (.own a) → dx ∉ m := fun {i p c a} hg hs hi => by
    obtain ⟨_, ok⟩ := R.ownObj hg hs
    obtain ⟨ob, hob, nob⟩ := ok.obj
    have h1 : a ∉ m := fun hb => by
      obtain ⟨k, j, c', a', e1, e2, e3⟩ := hm a hb
      obtain ⟨v, hv, q1, q, q2⟩ := P_get o e1
      rcases e3 with rfl | ⟨C, fs, e3⟩
      · exact hi (by rw [R.nd i j a p c q c' hg q2 hs e2]; exact mem_ownIx e1)
      · obtain ⟨_, ok'⟩ := R.ownObj q2 e2
        cases c' with
        | lst ds => obtain ⟨_, z, _⟩ := ok'; rw [e3] at z; cases z
        | dct ds => obtain ⟨_, z, _⟩ := ok'; rw [e3] at z; cases z
        | ins C' fs' =>
          obtain ⟨dx, fv, z1, z2, _⟩ := ok'
          rw [e3] at z1
          injection z1 with z1
          injection z1 with _ z1 _
          subst z1
          rw [hob] at z2
          exact nob a' (Option.some.inj z2)
    refine ⟨h1, fun dx hd hb => ?_⟩
    obtain ⟨k, j, c', a', e1, e2, e3⟩ := hm dx hb
    obtain ⟨v, hv, q1, q, q2⟩ := P_get o e1
    obtain ⟨_, ok'⟩ := R.ownObj q2 e2
    rcases e3 with rfl | ⟨C, fs, e3⟩
    · obtain ⟨o2, ho2, n2⟩ := ok'.obj
      rw [hd] at ho2
      exact n2 a (Option.some.inj ho2).symm
    · cases c' with
      | lst ds => obtain ⟨_, z, _⟩ := ok'; rw [e3] at z; cases z
      | dct ds => obtain ⟨_, z, _⟩ := ok'; rw [e3] at z; cases z
      | ins C' fs' =>
        obtain ⟨dx', fv, z1, z2, _⟩ := ok'
        rw [e3] at z1
        injection z1 with z1
        injection z1 with _ z1 _
        subst z1
        rw [hd] at z2
        injection z2 with z2
        injection z2 with z2
        subst z2
        exact hi (by rw [R.nd i j a p c q _ hg q2 hs e2]; exact mem_ownIx e1)
  -- an owned slot behind the call
  have slot : ∀ {i : Nat} {p : Option Nat} {c : OC}, (upds γ rs as')[i]? = some (.own p c) → (i ∉ ownIx rs ∧ γ[i]? = some (.own p c)) ∨ ∃ (k : Nat) (c0 c1 : OC) (p' : Option Nat), rs[k]? = some (.own i c0) ∧ γ[i]? = some (.own p c1) ∧ as'[k]? = some (.own p' c) := fun {i p c} h => by
    by_cases hi : i ∈ ownIx rs
    · obtain ⟨k, c0, e1⟩ := ownIx_mem hi
      obtain ⟨v, hv, q1, q, q2⟩ := P_get o e1
      rcases upds_at (as := as') nd e1 q2 with z | ⟨p', c2, z1, z2⟩
      · rw [z] at h; cases h
      · rw [z2] at h
        cases h
        exact .inr ⟨k, c0, c0, p', e1, q2, z1⟩
    · exact .inl ⟨hi, by rw [← upds_off (as := as') hi]; exact h⟩
  have was : ∀ {i : Nat} {p : Option Nat} {c : OC}, (upds γ rs as')[i]? = some (.own p c) → ∃ c1, γ[i]? = some (.own p c1) := fun h => by
    rcases slot h with ⟨_, z⟩ | ⟨_, _, c1, _, _, z, _⟩
    · exact ⟨_, z⟩
    · exact ⟨c1, z⟩
  have R2 : Rep K B F' H' σ (upds γ rs as') := by
    refine ⟨R'.fh, by rw [upds_len]; exact R.len, fun i s t hs hg => ?_, fun i j a p c q c' h1 h2 h3 h4 => ?_, fun b ob e => ?_, R.b2.trans fF, fun b ob e n => ?_, fun i a p c h1 h2 => ?_, fun i a p c h1 h2 => ?_, fun b ob e => ?_, fun a ob e => ?_⟩
    · cases t with
      | no => trivial
      | val d =>
        have hi : i ∉ ownIx rs := fun hi => by
          obtain ⟨k, c0, e1⟩ := ownIx_mem hi
          obtain ⟨v, hv, q1, q, q2⟩ := P_get o e1
          rcases upds_at (as := as') nd e1 q2 with z | ⟨p', c2, z1, z2⟩
          · rw [z] at hg; cases hg
          · rw [z2] at hg; cases hg
        rw [upds_off hi] at hg
        obtain ⟨v, e, r⟩ := R.sl i s _ hs hg
        exact ⟨v, e, r.mono fF⟩
      | own p c =>
        rcases slot hg with ⟨hi, hg0⟩ | ⟨k, c0, c1, p', e1, e2, e3⟩
        · obtain ⟨a, e, f, ok⟩ := R.sl i s _ hs hg0
          subst e
          obtain ⟨n1, n2⟩ := apart hg0 hs hi
          obtain ⟨ob, hob, _⟩ := ok.obj
          obtain ⟨x1, x2⟩ := stay hob n1
          refine ⟨a, rfl, x2.trans f, (ok.mono fF fun dx hd fd => (stay hd (n2 dx hd)).2.trans fd).heap (x1.trans hob.symm) fun dx hd => ((stay hd (n2 dx hd)).1).trans hd.symm⟩
        · obtain ⟨v, hv, q1, q, q2⟩ := P_get o e1
          rw [hs] at q1
          have es : s = some v := Option.some.inj q1
          subst es
          obtain ⟨a, e4, f0, ok0⟩ := R.sl i _ _ hs e2
          cases e4
          have hk := hw k _ hv
          obtain ⟨a2, e5, f, ok⟩ := R'.sl k (some (.ref a)) _ (by rw [List.getElem?_map, hk]; rfl) e3
          cases e5
          refine ⟨a, rfl, f, ?_⟩
          cases c with
          | lst ds => exact ok
          | dct kd => exact ok
          | ins C fs =>
            obtain ⟨dx, fv, h1, h2, h3, h4, h5, h6⟩ := ok
            cases c1 with
            | lst ds =>
              obtain ⟨vs0, z1, _⟩ := ok0
              obtain ⟨o', hb, kn⟩ := R'.bd a _ z1
              obtain ⟨xs, rfl⟩ := kn
              rw [hb] at h1; cases h1
            | dct kd =>
              obtain ⟨vs0, z1, _⟩ := ok0
              obtain ⟨o', hb, kn⟩ := R'.bd a _ z1
              obtain ⟨xs, rfl⟩ := kn
              rw [hb] at h1; cases h1
            | ins C0 fs0 =>
              obtain ⟨dx0, fv0, z1, z2, z3, z4, z5, z6⟩ := ok0
              obtain ⟨o', hb, kn⟩ := R'.bd a _ z1
              obtain ⟨fs', rfl⟩ := kn
              rw [hb] at h1
              injection h1 with h1
              injection h1 with e6 e7 e8
              subst e7
              exact ⟨dx0, fv, by rw [hb, e6, e8], h2, h3, z4, z5, h6⟩
    · obtain ⟨_, y1⟩ := was h1
      obtain ⟨_, y2⟩ := was h2
      exact R.nd i j a p _ q _ y1 y2 h3 h4
    · obtain ⟨x1, o1, x2⟩ := R.b1 b ob e
      refine ⟨fun n => (stay (x1 n) fun hb => ?_).1, (R'.b1 b o1 x2).2⟩
      rcases R.owns (mo hb) with z | z
      · exact n z
      · rw [e] at z; cases z
    · have x1 := (R.b1 b ob e).1 n
      rw [(stay x1 fun hb => by
        rcases R.owns (mo hb) with z | z
        · exact n z
        · rw [e] at z; cases z).2]
      exact R.b3 b ob e n
    · obtain ⟨_, y1⟩ := was h1
      exact R.b4 i a p _ y1 h2
    · obtain ⟨_, y1⟩ := was h1
      exact R.b5 i a p _ y1 h2
    · obtain ⟨o1, x2⟩ := R.bN b ob e
      exact R'.bN b o1 x2
    · obtain ⟨o1, x2, k1⟩ := R.bd a ob e
      obtain ⟨o2, x3, k2⟩ := R'.bd a o1 x2
      exact ⟨o2, x3, k1.trans k2⟩
  refine ⟨R2, fF, fun v r hk ok => ?_⟩
  cases r with
  | val d => exact ok
  | own j c => exact hk.elim
  | new c =>
    obtain ⟨a, rfl, N⟩ := ok
    have e1 : H a = none := N.bn
    obtain ⟨_, f2, f3, f4⟩ := R.fresh e1
    refine ⟨a, rfl, N.fa, ?_, f3, .inr f2, fun i p c' h1 h2 => ?_⟩
    · have ok := N.ok
      cases c with
      | lst ds => exact ok
      | dct kd => exact ok
      | ins C fs =>
        obtain ⟨dx, fv, h1, h2, h3, h4, h5, h6⟩ := ok
        obtain ⟨_, g2, g3, _⟩ := R.fresh (h4 e1)
        exact ⟨dx, fv, h1, h2, h3, fun _ => g3, .inr g2, h6⟩
    · obtain ⟨_, y1⟩ := was h1
      exact f4 i p _ y1 h2
end
end DL

set_option Elab.async false
set_option linter.all false
set_option maxRecDepth 100000
set_option maxHeartbeats 2000000
namespace DL
open PySem PySem.Spec PyProof.Rows L2
open Evl (Ex ex_l ex_t)
/-- f(..): what is owned and handed over may change -/
def dCall (n : Nat) (fs : FS) (dds : List D) (da : DA) (γ : Env) (q : RS → Env → Prop) : Prop := da γ fun rs γ1 => (ownIx rs).Nodup ∧ rs.length + dds.length = n ∧ fs (argsOf 0 rs ++ dds.map Sx.val) fun r as' => q r (upds γ1 rs as')
/-- f(..): what is owned is lent; the answer is flat -/
def flatD : D → Prop
  | .int _ => True | .bl _ => True | .str _ => True | .non => True
  | _ => False
def flatR : RS → Prop
  | .val d => flatD d
  | _ => False
def dCallB (n : Nat) (fs : FS) (dds : List D) (da : DA) (γ : Env) (q : RS → Env → Prop) : Prop := da γ fun rs γ1 => noNew rs ∧ rs.length + dds.length = n ∧ fs (rs.map (fun r => Sx.val r.data) ++ dds.map Sx.val) fun r _ => flatR r ∧ q r γ1
section
variable {K : PySem.W.Frag}
theorem se_call {n : Nat} {fs : FS} {dvs : List V} {dds : List D} {E : XK} {ta : TA} {da : DA} (h : SA K ta da) (od : Paired (fun v d => ∀ z F, Rp ⟨K, z⟩ F v d) dvs dds) : SE K (tCall (spOf K n fs) dvs E ta) (dCall n fs dds da) := fun B F H σ γ Q q R hq k => by
  refine h B F H σ γ _ _ R hq fun vs F1 H1 γ1 rs R1 e1 o1 ⟨h1, h2, h3⟩ => ?_
  obtain ⟨m, hm, RE⟩ := R1.args o1 od h1
  refine ⟨by rw [List.length_append, P_len o1, P_len od]; exact h2, F1, m, _, _, _, RE, h3, fun r as' v F2 H2 hp R2 ok hk => ?_⟩
  obtain ⟨R3, e3, ok3⟩ := R1.called o1 h1 (fun i v hv => by rw [List.getElem?_append_left (List.getElem?_eq_some_iff.mp hv).1]; exact hv) hm R2
  exact k v F2 H2 _ r R3 (e1.trans e3) (ok3 v r hk ok) hp
/-- the heap grows, nothing else -/
theorem Rep.grow {B : Bs} {F H H' : Hp} {σ : L2.St} {γ : Env} (R : Rep K B F H σ γ) (e : Ex H H') : Rep K B F H' σ γ := by
  refine ⟨R.fh.trans e, R.len, fun i s t hs hg => ?_, R.nd, fun b o h => ?_, R.b2, R.b3, R.b4, R.b5, fun b o h => ?_, fun a o h => ?_⟩
  · have q := R.sl i s t hs hg
    cases t with
    | no => trivial
    | val d => exact q
    | own p c =>
      obtain ⟨a, e', f, ok⟩ := q
      obtain ⟨o, ho, _⟩ := ok.obj
      exact ⟨a, e', f, ok.heap ((e _ _ ho).trans ho.symm) fun dx hd => (e _ _ hd).trans hd.symm⟩
  · obtain ⟨x1, o1, x2⟩ := R.b1 b o h
    exact ⟨fun n => e _ _ (x1 n), o1, e _ _ x2⟩
  · obtain ⟨o1, x2⟩ := R.bN b o h
    exact ⟨o1, e _ _ x2⟩
  · obtain ⟨o1, x2, x3⟩ := R.bd a o h
    exact ⟨o1, e _ _ x2, x3⟩
/-- for a while all that was handed over is frozen -/
theorem Rep.lend {B : Bs} {H : Hp} {σ : L2.St} : ∀ {vs : List V} {rs : List RS} {F : Hp} {γ : Env}, Rep K B F H σ γ → Paired (fun v r => (∃ d, r = .val d ∧ Rp (B.kz K) F v d) ∨ ∃ j c, r = .own j c ∧ σ[j]? = some (some v) ∧ (∃ p, look γ j = .own p c) ∨ r = .own j c ∧ Rp (B.kz K) F v c.data) vs rs →
    ∃ F', Ex F F' ∧ Ex F' H ∧ RpAll (B.kz K) F' vs (rs.map RS.data)
  | _, _, F, γ, R, .nil => ⟨F, Evl.Ex.refl F, R.fh, .nil⟩
  | _, _, F, γ, R, @Paired.cons _ _ _ v r vs rs h t => by
    have step : ∃ F1 γ1, Rep K B F1 H σ γ1 ∧ Ex F F1 ∧ Rp (B.kz K) F1 v r.data ∧ ∀ j p c, look γ j = .own p c → look γ1 j = .own p c ∨ ∃ a, σ[j]? = some (some (.ref a)) ∧ Rp (B.kz K) F1 (.ref a) c.data := by
      rcases h with ⟨d, rfl, h⟩ | ⟨j, c, ⟨rfl, hs, p, hp⟩ | ⟨rfl, h⟩⟩
      · exact ⟨F, γ, R, Evl.Ex.refl F, h, fun j p c h => .inl h⟩
      · obtain ⟨a, F1, hs', R1, e1, r1⟩ := R.freezeVar hp
        rw [hs] at hs'
        cases hs'
        refine ⟨F1, _, R1, e1, r1, fun i p' c' hl => ?_⟩
        by_cases e : i = j
        · subst e
          rw [hp] at hl
          cases hl
          exact .inr ⟨a, hs, r1⟩
        · refine .inl (look_of ?_)
          have := of_look hl (by intro z; cases z)
          rw [put_set, List.getElem?_set_ne (Ne.symm e)]
          exact this
      · exact ⟨F, γ, R, Evl.Ex.refl F, h, fun j p c h => .inl h⟩
    obtain ⟨F1, γ1, R1, e1, r1, hk⟩ := step
    obtain ⟨F2, e2, e3, r2⟩ := Rep.lend (vs := vs) (rs := rs) R1 (P_mono (fun v r h => by
      rcases h with ⟨d, rfl, h⟩ | ⟨j, c, ⟨rfl, hs, p, hp⟩ | ⟨rfl, h⟩⟩
      · exact .inl ⟨d, rfl, h.mono e1⟩
      · rcases hk j p c hp with z | ⟨a, z1, z2⟩
        · exact .inr ⟨j, c, .inl ⟨rfl, hs, p, z⟩⟩
        · rw [hs] at z1
          cases z1
          exact .inr ⟨j, c, .inr ⟨rfl, z2⟩⟩
      · exact .inr ⟨j, c, .inr ⟨rfl, h.mono e1⟩⟩) t)
    exact ⟨F2, e1.trans e2, e3, .cons (r1.mono e2) r2⟩
theorem lent {B : Bs} {F H : Hp} {σ : L2.St} {γ : Env} : ∀ {vs : List V} {rs : List RS}, Paired (RsOk K B F H σ γ) vs rs → noNew rs → Paired (fun v r => (∃ d, r = .val d ∧ Rp (B.kz K) F v d) ∨ ∃ j c, r = .own j c ∧ σ[j]? = some (some v) ∧ (∃ p, look γ j = .own p c) ∨ r = .own j c ∧ Rp (B.kz K) F v c.data) vs rs
  | _, _, .nil, _ => .nil
  | _, .val d :: _, .cons h t, n => .cons (.inl ⟨d, rfl, h⟩) (lent t n)
  | _, .own j c :: _, .cons ⟨hs, p, hg⟩ t, n => .cons (.inr ⟨j, c, .inl ⟨rfl, hs, p, look_of hg⟩⟩) (lent t n)
theorem se_callB {n : Nat} {fs : FS} {dvs : List V} {dds : List D} {E : XK} {ta : TA} {da : DA} (h : SA K ta da) (od : Paired (fun v d => ∀ z F, Rp ⟨K, z⟩ F v d) dvs dds) : SE K (tCall (spOf K n fs) dvs E ta) (dCallB n fs dds da) := fun B F H σ γ Q q R hq k => by
  refine h B F H σ γ _ _ R hq fun vs F1 H1 γ1 rs R1 e1 o1 ⟨h0, h2, h3⟩ => ?_
  have pr := lent o1 h0
  obtain ⟨F2, e2, e3, ra⟩ := R1.lend pr
  have rd : RpAll (B.kz K) F2 dvs dds := RpAll.of (P_mono (fun _ _ h => h B.z F2) od)
  have RE : Rep K (entry F2 H1 [] R1.zn (vs ++ dvs)) F2 H1 ((vs ++ dvs).map some) (rs.map (fun r => Sx.val r.data) ++ dds.map Sx.val) := by
    have all : Paired (Rp (B.kz K) F2) (vs ++ dvs) (rs.map RS.data ++ dds) := P_app ra.p rd.p
    have e0 : rs.map (fun r => Sx.val r.data) ++ dds.map Sx.val = (rs.map RS.data ++ dds).map Sx.val := by rw [List.map_append, List.map_map]; rfl
    rw [e0]
    have none : ∀ {i : Nat} {p : Option Nat} {c : OC}, ((rs.map RS.data ++ dds).map Sx.val)[i]? ≠ some (.own p c) := fun {i p c} h => by
      rw [List.getElem?_map] at h
      cases q : (rs.map RS.data ++ dds)[i]? with
      | none => rw [q] at h; cases h
      | some d => rw [q] at h; cases h
    refine ⟨e3, by rw [List.length_map, List.length_map, P_len all], fun i s t hs hg => ?_, fun i j a p c q c' h1 => absurd h1 none, fun b o e => ⟨fun _ => e, o, e⟩, Evl.Ex.refl F2, fun b o _ _ => rfl, fun i a p c h1 => absurd h1 none, fun i a p c h1 => absurd h1 none, fun b o e => ⟨o, e⟩, fun a o e => ⟨o, e, .refl o⟩⟩
    rw [List.getElem?_map] at hs hg
    cases q : (rs.map RS.data ++ dds)[i]? with
    | none => rw [q] at hg; cases hg
    | some d =>
      rw [q] at hg
      cases hg
      obtain ⟨v, hv, r⟩ := P_get all q
      rw [hv] at hs
      exact ⟨v, (Option.some.inj hs).symm, r⟩
  refine ⟨by rw [List.length_append, P_len o1, P_len od]; exact h2, F2, [], _, _, _, RE, h3, fun r as' v F3 H3 ⟨hf, hp⟩ R3 ok hk => ?_⟩
  have eH : Ex H1 H3 := fun b o e => (R3.b1 b o e).1 (by simp [entry])
  refine k v F1 H3 γ1 r (R1.grow eH) e1 ?_ hp
  cases r with
  | val d =>
    have ok' : Rp (B.kz K) F3 v d := ok
    show Rp (B.kz K) F1 v d
    cases ok' with
    | non => exact .non
    | bl b => exact .bl b
    | int i => exact .int i
    | str x => exact .str x
    | _ => exact hf.elim
  | own j c => exact hf.elim
  | new c => exact hf.elim
end
section
variable {X : Cx} {a : Expr} {es : List Expr} {ta : TA} {da : DA} {CX : CXT} {k n : Nat} {f : Addr} {fd : FuncData} {ps : List Str} {fs : FS} {dvs : List V} {ds : List Value} {dds : List D} {E : XK} {x : Str} {p pos : Pos}
theorem x_callD (G : FnOk X.prog X.w X.K X.mg X.base CX k f fd ps (spOf X.K n fs)) (hr : Room k X.A) (hm : X.mg x = some (.ref f)) (hk : PySem.W.keepIn X.K (.ref f) = true) (hb : Binds X.K fd ps ds) (hd : Vals dvs ds) (od : Paired (fun v d => ∀ z F, Rp ⟨X.K, z⟩ F v d) dvs dds) (hx : Passes CX X E) (h : XA X (a :: es) ta da)
    (hg : Gl X x := by rfl) (hdb : (x == ("__debug__" : Str)) = false := by decide) (he : starEach (a :: es) X.env = (false, eval a X.env) :: starEach es X.env := by rfl) (hpl : (backTo pos (starEach es X.env)).any (·.1) = false := by rfl) :
    XE X (.Call (.Name x p) (a :: es) [] pos) (tCall (spOf X.K n fs) dvs E ta) (dCall n fs dds da) := ⟨pe_call G hr hg hm hk hb hd hx h.pa hdb he hpl, se_call h.sa od⟩
theorem x_call (G : FnOk X.prog X.w X.K X.mg X.base CX0 k f fd ps (spOf X.K n fs)) (hr : Room k X.A) (hm : X.mg x = some (.ref f)) (hk : PySem.W.keepIn X.K (.ref f) = true) (hb : Binds X.K fd ps []) (h : XA X (a :: es) ta da)
    (hg : Gl X x := by rfl) (hdb : (x == ("__debug__" : Str)) = false := by decide) (he : starEach (a :: es) X.env = (false, eval a X.env) :: starEach es X.env := by rfl) (hpl : (backTo pos (starEach es X.env)).any (·.1) = false := by rfl) :
    XE X (.Call (.Name x p) (a :: es) [] pos) (tCall (spOf X.K n fs) [] E0 ta) (dCall n fs [] da) := x_callD G hr hm hk hb .nil .nil pass0 h hg hdb he hpl
theorem x_call0 (G : FnOk X.prog X.w X.K X.mg X.base CX0 k f fd ps (spOf X.K n fs)) (hr : Room k X.A) (hm : X.mg x = some (.ref f)) (hk : PySem.W.keepIn X.K (.ref f) = true) (hb : Binds X.K fd ps []) (hg : Gl X x := by rfl) (hdb : (x == ("__debug__" : Str)) = false := by decide) :
    XE X (.Call (.Name x p) [] [] pos) (tCall (spOf X.K n fs) [] E0 tNil) (dCall n fs [] dNil) := ⟨pe_call0 G hr hg hm hk hb .nil pass0 hdb, se_call sa_nil .nil⟩
/-- arguments lent -/
theorem x_callB (G : FnOk X.prog X.w X.K X.mg X.base CX0 k f fd ps (spOf X.K n fs)) (hr : Room k X.A) (hm : X.mg x = some (.ref f)) (hk : PySem.W.keepIn X.K (.ref f) = true) (hb : Binds X.K fd ps []) (h : XA X (a :: es) ta da)
    (hg : Gl X x := by rfl) (hdb : (x == ("__debug__" : Str)) = false := by decide) (he : starEach (a :: es) X.env = (false, eval a X.env) :: starEach es X.env := by rfl) (hpl : (backTo pos (starEach es X.env)).any (·.1) = false := by rfl) :
    XE X (.Call (.Name x p) (a :: es) [] pos) (tCall (spOf X.K n fs) [] E0 ta) (dCallB n fs [] da) := ⟨pe_call G hr hg hm hk hb .nil pass0 h.pa hdb he hpl, se_callB h.sa .nil⟩
end
/-! ### the law's own promise -/
def fsLaw : FS := fun as p => ∃ ns : List Int, as = [.val (.scr ns)] ∧ ns.length ≤ 63 ∧ ∀ as', p (.val (.bl true)) as'
theorem law_sp {K : PySem.W.Frag} {H : Hp} {a : Addr} {ns : List Int} (hl : ns.length ≤ 63) (hS : SqL K H a (ns.map V.int)) : spOf K 1 fsLaw [.ref a] H (fun v _ => v = .bl true) fun _ _ _ => False := by
  have one : ∀ {i : Nat} {p : Option Nat} {c : OC}, ([Sx.val (.scr ns)] : List Sx)[i]? ≠ some (.own p c) := fun {i p c} h => by
    cases i with
    | zero => simp at h
    | succ i => simp at h
  refine ⟨rfl, H, [], ⟨fun _ => False, fun _ h => h.elim⟩, [.val (.scr ns)], fun r _ => r = .val (.bl true), ?_, ⟨ns, rfl, hl, fun _ => rfl⟩, fun r as' v F' H' hp R ok _ => ?_⟩
  · refine ⟨Evl.Ex.refl H, rfl, fun i s t hs hg => ?_, fun i j a p c q c' h1 => absurd h1 one, fun b o e => ⟨fun _ => e, o, e⟩, Evl.Ex.refl H, fun b o _ _ => rfl, fun i a p c h1 => absurd h1 one, fun i a p c h1 => absurd h1 one, fun b o e => ⟨o, e⟩, fun a o e => ⟨o, e, .refl o⟩⟩
    cases i with
    | zero =>
      simp at hs hg
      subst hg; subst hs
      exact ⟨_, rfl, .scr hS⟩
    | succ i => simp at hg
  · subst hp
    have ok' : Rp ⟨K, fun _ => False⟩ F' v (.bl true) := ok
    cases ok' with
    | bl b => rfl
end DL

set_option Elab.async false
set_option linter.all false
set_option maxRecDepth 100000
set_option maxHeartbeats 2000000
namespace DL
open PySem PySem.Spec PyProof.Rows L2
open Evl (Ex ex_l ex_t)
section
variable {X : Cx} {x : Str} {pos : Pos}
/-- a built-in class as a value -/
theorem x_bty {n : String} (hm : X.mg x = none) (hg : Gl X x := by rfl) (hv : bootBuiltins x = some (.type n) := by decide +kernel) (hn : x ≠ "__name__" := by decide) (hd : (x == ("__debug__" : Str)) = false := by decide) : XE X (.Name x pos) (tC (.ty n)) (dC (.ty n)) :=
  ⟨pe_bltn hg hm hv rfl hn hd, se_c fun _ _ => .ty n⟩
/-! list(range(..)) -/
def rgD (a b : Int) : List D := (List.range (b - a).toNat).map fun i => D.int (a + (i : Nat))
theorem rg_rp {K : KZ} {F : Hp} (a b : Int) : RpAll K F (rgV a b) (rgD a b) := by
  unfold rgV rgD
  generalize List.range (b - a).toNat = l
  induction l with
  | nil => exact .nil
  | cons i l ih => exact .cons (.int _) ih
def dLRg1 (da : DE) (γ : Env) (q : RS → Env → Prop) : Prop := da γ fun s γ1 => match s.data with
  | .int n => -1000000 ≤ n ∧ n ≤ 1000000 ∧ q (.new (.lst (rgD 0 n))) γ1
  | _ => False
def dLRg2 (da db : DE) (γ : Env) (q : RS → Env → Prop) : Prop := da γ fun s γ1 => db γ1 fun t γ2 => s.ok γ2 ∧ match s.data, t.data with
  | .int m, .int n => -1000000 ≤ m ∧ m ≤ 1000000 ∧ -1000000 ≤ n ∧ n ≤ 1000000 ∧ q (.new (.lst (rgD m n))) γ2
  | _, _ => False
theorem x_listRg1 {a : Expr} {ta : TE} {da : DE} {p p2 pos2 : Pos} (hc : X.calm = true) (hm : X.mg "list" = none) (hm2 : X.mg "range" = none) (h : XE X a ta da) (hg : Gl X "list" := by rfl) (hg2 : Gl X "range" := by rfl) (na : starEach [a] X.env = (false, eval a X.env) :: starEach [] X.env := by rfl)
    (nb : starEach [.Call (.Name "range" p2) [a] [] pos2] X.env = (false, eval (.Call (.Name "range" p2) [a] [] pos2) X.env) :: starEach [] X.env := by rfl) : XE X (.Call (.Name "list" p) [.Call (.Name "range" p2) [a] [] pos2] [] pos) (tLstRg (tRg1 ta)) (dLRg1 da) := ⟨pe_listRg hc hg hm (prg_1 hg2 hm2 h.pe na) nb, fun B F H σ γ Q q R hq k => by
  refine h.se B F H σ γ _ _ R hq fun v F1 H1 γ1 s R1 e1 o1 h1 => ?_
  split at h1
  · rename_i n es
    have r := o1.rs R1
    rw [es] at r
    obtain ⟨h2, h3, h4⟩ := h1
    refine ⟨n, r.int, ⟨by omega, by omega, by omega, by omega, by omega⟩, fun p hp => ?_⟩
    obtain ⟨R', ok⟩ := R1.newL hp (rg_rp 0 n)
    exact k _ F1 _ γ1 _ R' e1 ok h4
  · exact h1.elim⟩
theorem x_listRg2 {a b : Expr} {ta tb : TE} {da db : DE} {p p2 pos2 : Pos} (hc : X.calm = true) (hm : X.mg "list" = none) (hm2 : X.mg "range" = none) (h : XE X a ta da) (h' : XE X b tb db) (hg : Gl X "list" := by rfl) (hg2 : Gl X "range" := by rfl) (na : starEach [a, b] X.env = (false, eval a X.env) :: starEach [b] X.env := by rfl)
    (na2 : starEach [b] X.env = (false, eval b X.env) :: starEach [] X.env := by rfl) (hp : (backTo pos2 (starEach [b] X.env)).any (·.1) = false := by rfl)
    (nb : starEach [.Call (.Name "range" p2) [a, b] [] pos2] X.env = (false, eval (.Call (.Name "range" p2) [a, b] [] pos2) X.env) :: starEach [] X.env := by rfl) : XE X (.Call (.Name "list" p) [.Call (.Name "range" p2) [a, b] [] pos2] [] pos) (tLstRg (tRg2 ta tb)) (dLRg2 da db) := ⟨pe_listRg hc hg hm (prg_2 hg2 hm2 h.pe h'.pe na na2 hp) nb, fun B F H σ γ Q q R hq k => by
  refine h.se B F H σ γ _ _ R hq fun v F1 H1 γ1 s R1 e1 o1 h1 => ?_
  obtain ⟨F2, R2, e2, o2⟩ := o1.fz R1
  refine h'.se B F2 H1 σ γ1 _ _ R2 h1 fun w F3 H3 γ3 t R3 e3 o3 ⟨h3, h4⟩ => ?_
  split at h4
  · rename_i m n es et
    have rv := (o2.later e3 R3 (fz_ok s γ3 h3) (fz_idem s)).rs R3
    have rw' := o3.rs R3
    rw [RS.fz_data, es] at rv
    rw [et] at rw'
    obtain ⟨h5, h6, h7, h8, h9⟩ := h4
    refine ⟨m, n, rv.int, rw'.int, ⟨by omega, by omega, by omega, by omega, by omega⟩, fun p hp => ?_⟩
    obtain ⟨R', ok⟩ := R3.newL hp (rg_rp m n)
    exact k _ F3 _ γ3 _ R' ((e1.trans e2).trans e3) ok h9
  · exact h4.elim⟩
end

/-! ### the order of keys: numbers, texts, pairs of these -/
def ltV : V → V → Bool
  | .int i, .int j => decide (i < j)
  | .str i, .str j => decide (i.cps.toList < j.cps.toList)
  | _, _ => false
def likeV : V → V → Bool
  | .int _, .int _ => true
  | .str _, .str _ => true
  | _, _ => false
def eqW : V → V → Bool
  | .int i, .int j => decide (i = j)
  | .str i, .str j => decide (i = j)
  | _, _ => false
inductive LtV (K : PySem.W.Frag) (H : Hp) : V → V → Bool → Prop
  | flat {x y : V} : likeV x y = true → LtV K H x y (ltV x y)
  | pair {a b : Addr} {x1 x2 y1 y2 : V} : SqT K H a [x1, x2] → SqT K H b [y1, y2] → likeV x1 y1 = true → likeV x2 y2 = true → LtV K H (.ref a) (.ref b) (if eqW x1 y1 = true then ltV x2 y2 else ltV x1 y1)
def rLtK (K : PySem.W.Frag) : R2 := fun x y H Q => ∃ b, LtV K H x y b ∧ Q (.bl b) H
theorem rc_flat {A : Around} {s : Shared} {x y : V} {u v : Value} (rx : RelV x u) (ry : RelV y v) (h : likeV x y = true) : Ob.RcOp .Lt A s u v (ltV x y) := fun prog w E Q hq => by
  cases x with
  | int i =>
    cases y with
    | int j =>
      obtain ⟨t, rfl⟩ := rx
      obtain ⟨t', rfl⟩ := ry
      exact PyProof.Rows.lt_int hq
    | _ => cases h
  | str i =>
    cases y with
    | str j =>
      obtain ⟨t, rfl⟩ := rx
      obtain ⟨t', rfl⟩ := ry
      exact PyProof.Rows.lt_str (by
        have e : ltV (.str i) (.str j) = decide (i.cps.toList < j.cps.toList) := rfl
        rw [e] at hq
        exact hq)
    | _ => cases h
  | _ => cases h
theorem eq_flat {A : Around} {s : Shared} {x y : V} {u v : Value} (rx : RelV x u) (ry : RelV y v) (h : likeV x y = true) : SeqAt.EqAt A s u v (eqW x y) := by
  cases x with
  | int i =>
    cases y with
    | int j =>
      have q := eqAt_V (A := A) (s := s) rx ry rfl rfl
      have e : eqV (.int i) (.int j) = eqW (.int i) (.int j) := Bool.beq_eq_decide_eq i j
      rw [e] at q
      exact q
    | _ => cases h
  | str i =>
    cases y with
    | str j =>
      have q := eqAt_V (A := A) (s := s) rx ry rfl rfl
      have e : eqV (.str i) (.str j) = eqW (.str i) (.str j) := by
        show (i == j) = decide (i = j)
        by_cases z : i = j
        · subst z; simp
        · rw [decide_eq_false z]; exact beq_eq_false_iff_ne.mpr z
      rw [e] at q
      exact q
    | _ => cases h
  | _ => cases h
theorem op_ltK {X : Cx} (hu : X.A.units < cLine) : OpR X (compareOp .Lt) (rLtK X.K) := by
  intro pins s σ H x y v u Q I rx ry h
  obtain ⟨b, hb, q⟩ := h
  cases hb with
  | flat hl => exact rc_flat rx ry hl X.prog X.w X.xe (EP X pins σ Q) ⟨.bl _, H, I, rfl, q⟩
  | @pair a b x1 x2 y1 y2 ha hb h1 h2 =>
    cases rx
    cases ry
    obtain ⟨its, r1, p1, _⟩ := I.tuple ha
    obtain ⟨its2, r2, p2, _⟩ := I.tuple hb
    cases r1 with
    | cons ra1 ra => cases ra with
      | cons ra2 ra => cases ra with
        | nil => cases r2 with
          | cons rb1 rb => cases rb with
            | cons rb2 rb => cases rb with
              | nil =>
                have R := Ob.RcOp.tuples_lt (A := X.A) (s := s) (e := fun j => if j = 0 then eqW x1 y1 else eqW x2 y2) (r := fun j => if j = 0 then ltV x1 y1 else ltV x2 y2) p1 p2 hu (fun j l1 l2 => by
                  match j, l1, l2 with
                  | 0, _, _ => exact eq_flat ra1 rb1 h1
                  | 1, _, _ => exact eq_flat ra2 rb2 h2
                  | j + 2, l1, _ => exact absurd l1 (by simp)) (fun j l1 l2 _ => by
                  match j, l1, l2 with
                  | 0, _, _ => exact rc_flat ra1 rb1 h1
                  | 1, _, _ => exact rc_flat ra2 rb2 h2
                  | j + 2, l1, _ => exact absurd l1 (by simp))
                refine R X.prog X.w X.xe (EP X pins σ Q) ⟨.bl _, H, I, ?_, q⟩
                have irr : ∀ {x y : V}, eqW x y = true → ltV x y = false := fun {x y} h => by
                  cases x with
                  | int i => cases y with
                    | int j =>
                      have e : i = j := of_decide_eq_true h
                      subst e
                      exact decide_eq_false (Int.lt_irrefl i)
                    | _ => cases h
                  | str i => cases y with
                    | str j =>
                      have e : i = j := of_decide_eq_true h
                      subst e
                      exact decide_eq_false (List.lt_irrefl _)
                    | _ => cases h
                  | _ => cases h
                show Value.bool _ = Value.bool _
                congr 1
                show Ob.lexAt (fun j => if j = 0 then eqW x1 y1 else eqW x2 y2) (fun j => if j = 0 then ltV x1 y1 else ltV x2 y2) (decide (2 < 2)) 0 2 = _
                unfold Ob.lexAt
                by_cases c : eqW x1 y1 = true
                · rw [if_pos (by simpa using c), if_pos c]
                  unfold Ob.lexAt
                  by_cases c2 : eqW x2 y2 = true
                  · rw [if_pos (by simpa using c2), irr c2]
                    rfl
                  · rw [if_neg (by simpa using c2)]
                    rfl
                · rw [if_neg (by simpa using c), if_neg c]
                  rfl
def ltD : D → D → Bool
  | .int i, .int j => decide (i < j)
  | .str i, .str j => decide (i.cps.toList < j.cps.toList)
  | _, _ => false
def likeD : D → D → Bool
  | .int _, .int _ => true
  | .str _, .str _ => true
  | _, _ => false
def eqW' : D → D → Bool
  | .int i, .int j => decide (i = j)
  | .str i, .str j => decide (i = j)
  | _, _ => false
def fLtK : D → D → (RS → Prop) → Prop
  | .int i, .int j, q => q (.val (.bl (decide (i < j))))
  | .str i, .str j, q => q (.val (.bl (decide (i.cps.toList < j.cps.toList))))
  | .tup [a1, a2], .tup [b1, b2], q => likeD a1 b1 = true ∧ likeD a2 b2 = true ∧ q (.val (.bl (if eqW' a1 b1 = true then ltD a2 b2 else ltD a1 b1)))
  | _, _, _ => False
theorem like_rp {K : KZ} {F : Hp} {x y : V} {a b : D} (rx : Rp K F x a) (ry : Rp K F y b) (h : likeD a b = true) : likeV x y = true ∧ ltV x y = ltD a b ∧ eqW x y = eqW' a b := by
  cases rx <;> first | (cases ry <;> first | exact ⟨rfl, rfl, rfl⟩ | cases h) | cases h
theorem od_ltK {K : PySem.W.Frag} : OpD K (rLtK K) fLtK := fun B F H σ γ x y d e Q q R rx ry hf k => by
  unfold fLtK at hf
  split at hf
  · rw [rx.int, ry.int]
    exact ⟨_, .flat rfl, vk R k (.bl _) hf⟩
  · rw [rx.str, ry.str]
    exact ⟨_, .flat rfl, vk R k (.bl _) hf⟩
  · obtain ⟨a, vs, rfl, h1, r1⟩ := rx.tup R.fh
    obtain ⟨b, ws, rfl, h2, r2⟩ := ry.tup R.fh
    cases r1 with
    | cons ra1 r1 => cases r1 with
      | cons ra2 r1 => cases r1 with
        | nil => cases r2 with
          | cons rb1 r2 => cases r2 with
            | cons rb2 r2 => cases r2 with
              | nil =>
                obtain ⟨l1, l2, hq⟩ := hf
                obtain ⟨c1, c2, c3⟩ := like_rp ra1 rb1 l1
                obtain ⟨d1, d2, d3⟩ := like_rp ra2 rb2 l2
                refine ⟨_, .pair h1 h2 c1 d1, ?_⟩
                rw [c3, d2, c2]
                exact vk R k (.bl _) hq
  · exact hf.elim

/-! ### steps -/
/-- what comes later is not looked into -/
def Later (t : DS) (d : DEnds) (γ : Env) : Prop := t d γ
theorem q_seq {s t : DS} {d : DEnds} {γ : Env} (h : s { nx := fun γ1 => Later t d γ1, rt := d.rt, bk := d.bk, ct := d.ct } γ) : dSeq s t d γ := h
theorem q_later {t : DS} {d : DEnds} {γ : Env} (h : t d γ) : Later t d γ := h
abbrev fAdd : D → D → (RS → Prop) → Prop := fI0 fun i j => .int (i + j)
abbrev fSub : D → D → (RS → Prop) → Prop := fI0 fun i j => .int (i - j)
abbrev fMul : D → D → (RS → Prop) → Prop := fI CMul fun i j => .int (i * j)
abbrev fDiv : D → D → (RS → Prop) → Prop := fI CDiv fun i j => .int (i / j)
abbrev fMod : D → D → (RS → Prop) → Prop := fI (fun _ j => 0 < j) fun i j => .int (i % j)
abbrev fMulW : D → D → (RS → Prop) → Prop := fI CMulW fun i j => .int (i * j)
abbrev fDivW : D → D → (RS → Prop) → Prop := fI CDivW fun i j => .int (i / j)
abbrev fPow : D → D → (RS → Prop) → Prop := fI CPow fun i j => .int (i ^ j.toNat)
abbrev fShl : D → D → (RS → Prop) → Prop := fI CPow fun i j => .int (i * 2 ^ j.toNat)
abbrev fShr : D → D → (RS → Prop) → Prop := fI (fun _ j => 0 ≤ j) fun i j => .int (i / 2 ^ j.toNat)
abbrev fLt : D → D → (RS → Prop) → Prop := fI0 fun i j => .bl (decide (i < j))
abbrev fLe : D → D → (RS → Prop) → Prop := fI0 fun i j => .bl (decide (i ≤ j))
abbrev fGt : D → D → (RS → Prop) → Prop := fI0 fun i j => .bl (decide (j < i))
abbrev fGe : D → D → (RS → Prop) → Prop := fI0 fun i j => .bl (decide (j ≤ i))
abbrev fAnd : D → D → (RS → Prop) → Prop := fI0 fun i j => .int (Builtin.bitAnd i j)
abbrev fOr : D → D → (RS → Prop) → Prop := fI0 fun i j => .int (Builtin.bitOr i j)
abbrev fXor : D → D → (RS → Prop) → Prop := fI0 fun i j => .int (Builtin.bitXor i j)
abbrev fNeg : D → (RS → Prop) → Prop := fU fun i => .int (-i)
abbrev fMax2 : List D → (RS → Prop) → Prop := fI2 fun i j => if j > i then j else i
abbrev fMin2 : List D → (RS → Prop) → Prop := fI2 fun i j => if j < i then j else i
end DL

set_option Elab.async false
set_option linter.all false
set_option maxRecDepth 100000
set_option maxHeartbeats 2000000
namespace DL
open PySem PySem.Spec PyProof.Rows L2
/-! ### == of the data that laws hold against one another -/
/-- data of depth n at most -/
def dOkN (n : Nat) (d : D) : Bool := d.pure && d.py.canLay0 && decide (d.py.depth ≤ n)
theorem dOk_of {n : Nat} {d : D} (h : dOkN n d = true) (hn : n ≤ 64) : dOk d = true := by
  unfold dOkN at h
  simp only [Bool.and_eq_true, decide_eq_true_eq] at h
  unfold dOk SeqAt.shaped
  simp only [Bool.and_eq_true, decide_eq_true_eq]
  exact ⟨h.1.1, h.1.2, Nat.le_trans h.2 hn⟩
theorem all_ok {α : Type} {f : α → D} {n : Nat} : ∀ {xs : List α}, (∀ x ∈ xs, dOkN n (f x) = true) → pureAll (xs.map f) = true ∧ PyData.canLayAll0 (pyAll (xs.map f)) = true ∧ PyData.depthAll (pyAll (xs.map f)) ≤ n
  | [], _ => ⟨rfl, rfl, Nat.zero_le _⟩
  | x :: xs, h => by
    have h1 := h x List.mem_cons_self
    obtain ⟨a, b, c⟩ := all_ok (xs := xs) fun y hy => h y (List.mem_cons_of_mem _ hy)
    unfold dOkN at h1
    simp only [Bool.and_eq_true, decide_eq_true_eq] at h1
    refine ⟨?_, ?_, ?_⟩
    · rw [List.map_cons, pureAll, h1.1.1, a]; rfl
    · rw [List.map_cons, pyAll, PyData.canLayAll0, h1.1.2, b]; rfl
    · rw [List.map_cons, pyAll, PyData.depthAll]
      exact Nat.max_le.mpr ⟨h1.2, c⟩
theorem ok_lst {α : Type} {f : α → D} {n : Nat} {xs : List α} (h : ∀ x ∈ xs, dOkN n (f x) = true) : dOkN (n + 1) (.lst (xs.map f)) = true := by
  obtain ⟨a, b, c⟩ := all_ok h
  unfold dOkN
  simp only [D.pure, D.py, PyData.canLay0, PyData.depth, a, b, Bool.true_and, decide_eq_true_eq]
  omega
theorem ok_tup {α : Type} {f : α → D} {n : Nat} {xs : List α} (h : ∀ x ∈ xs, dOkN n (f x) = true) : dOkN (n + 1) (.tup (xs.map f)) = true := by
  obtain ⟨a, b, c⟩ := all_ok h
  unfold dOkN
  simp only [D.pure, D.py, PyData.canLay0, PyData.depth, a, b, Bool.true_and, decide_eq_true_eq]
  omega
theorem ok_int (i : Int) : dOkN 0 (.int i) = true := by
  unfold dOkN
  simp only [D.pure, D.py, PyData.canLay0, PyData.depth, Bool.true_and, decide_eq_true_eq]
  omega
theorem ok_mono {n m : Nat} {d : D} (h : dOkN n d = true) (l : n ≤ m) : dOkN m d = true := by
  unfold dOkN at h ⊢
  simp only [Bool.and_eq_true, decide_eq_true_eq] at h ⊢
  exact ⟨h.1, Nat.le_trans h.2 l⟩
theorem dOk_ints (ns : List Int) : dOk (.lst (ns.map D.int)) = true := dOk_of (ok_lst fun x _ => ok_int x) (by decide)
theorem dOk_nil : dOk (.lst []) = true := dOk_ints []
theorem dOk_int (i : Int) : dOk (.int i) = true := dOk_of (ok_int i) (by decide)
/-- == decides what f tells apart -/
def EqF {α : Type} [DecidableEq α] (f : α → D) (S : α → Prop) : Prop := ∀ x y, S x → S y → deq (f x) (f y) = decide (x = y)
theorem eqv_all {α : Type} [DecidableEq α] {f : α → D} {S : α → Prop} (h : EqF f S) : ∀ {xs ys : List α}, (∀ x ∈ xs, S x) → (∀ y ∈ ys, S y) → PyData.eqvAll (pyAll (xs.map f)) (pyAll (ys.map f)) = decide (xs = ys)
  | [], [], _, _ => by simp [pyAll, PyData.eqvAll]
  | [], _ :: _, _, _ => by simp [pyAll, PyData.eqvAll]
  | _ :: _, [], _, _ => by simp [pyAll, PyData.eqvAll]
  | x :: xs, y :: ys, hx, hy => by
    have h1 : PyData.eqv (f x).py (f y).py = decide (x = y) := h x y (hx x List.mem_cons_self) (hy y List.mem_cons_self)
    have h2 := eqv_all h (xs := xs) (ys := ys) (fun z hz => hx z (List.mem_cons_of_mem _ hz)) fun z hz => hy z (List.mem_cons_of_mem _ hz)
    rw [List.map_cons, List.map_cons, pyAll, pyAll, PyData.eqvAll, h1, h2]
    by_cases c : x = y
    · by_cases c2 : xs = ys
      · simp [c, c2]
      · simp [c, c2]
    · simp [c]
theorem deq_lst {α : Type} [DecidableEq α] {f : α → D} {S : α → Prop} (h : EqF f S) {xs ys : List α} (hx : ∀ x ∈ xs, S x) (hy : ∀ y ∈ ys, S y) : deq (.lst (xs.map f)) (.lst (ys.map f)) = decide (xs = ys) := by
  unfold deq
  simp only [D.py, PyData.eqv]
  exact eqv_all h hx hy
theorem deq_tup {α : Type} [DecidableEq α] {f : α → D} {S : α → Prop} (h : EqF f S) {xs ys : List α} (hx : ∀ x ∈ xs, S x) (hy : ∀ y ∈ ys, S y) : deq (.tup (xs.map f)) (.tup (ys.map f)) = decide (xs = ys) := by
  unfold deq
  simp only [D.py, PyData.eqv]
  exact eqv_all h hx hy
theorem eqF_int : EqF D.int (fun _ => True) := fun x y _ _ => by
  unfold deq
  simp only [D.py, PyData.eqv]
  exact Bool.beq_eq_decide_eq x y
theorem deq_ints (ns ms : List Int) : deq (.lst (ns.map D.int)) (.lst (ms.map D.int)) = decide (ns = ms) := deq_lst eqF_int (fun _ _ => trivial) fun _ _ => trivial
theorem deq_ints_nil (ns : List Int) : deq (.lst (ns.map D.int)) (.lst []) = decide (ns = []) := deq_ints ns []
theorem deq_refl_of {α : Type} [DecidableEq α] {f : α → D} {S : α → Prop} (h : EqF f S) {x : α} (hx : S x) : deq (f x) (f x) = true := by rw [h x x hx hx]; simp
/-! ### small facts -/
theorem atI_nil {α : Type} {i : Int} : atI ([] : List α) i = none := by
  unfold atI ixN
  simp
theorem atI_ofNat {α : Type} {xs : List α} {i : Nat} (h : i < xs.length) : atI xs (i : Int) = some xs[i] := atI_nat (List.getElem?_eq_getElem h)
theorem atI_zero {α : Type} {x : α} {xs : List α} : atI (x :: xs) 0 = some x := atI_nat (j := 0) rfl
theorem ixN_of {n j : Nat} (h : j < n) : ixN n (j : Int) = some j := by
  unfold ixN
  rw [if_pos (by omega), if_pos (by omega)]
  simp
theorem ixN_zero {n : Nat} (h : 0 < n) : ixN n 0 = some 0 := ixN_of h
theorem seqIx_zero {n : Nat} (h : 0 < n) : seqIndex? 0 n = some 0 := by
  unfold seqIndex?
  simp
  omega
theorem own_ex {p : Option Nat} {c : OC} : (∃ q, Sx.own p c = Sx.own q c) = True := eq_true ⟨p, rfl⟩
end DL

set_option Elab.async false
set_option linter.all false
set_option maxRecDepth 100000
set_option maxHeartbeats 2000000
namespace DL
open PySem PySem.Spec PyProof.Rows L2
open Evl (Ex ex_l ex_t)
/-! ### newer than a line -/
/-- a new thing is told to be new -/
def dFr (de : DE) (γ : Env) (q : RS → Env → Prop) : Prop := de γ fun s γ1 => match s with
  | .new c => q (.val (.fr c.data)) γ1
  | _ => False
/-- and that is forgotten -/
def dSt (de : DE) (γ : Env) (q : RS → Env → Prop) : Prop := de γ fun s γ1 => match s with
  | .val (.fr d) => q (.val d) γ1
  | .val d => q (.val d) γ1
  | .new c => q (.new c) γ1
  | .own _ _ => False
theorem se_fr {K : PySem.W.Frag} {te : TE} {de : DE} (h : SE K te de) : SE K te (dFr de) := fun B F H σ γ Q q R hq k => by
  refine h B F H σ γ _ _ R hq fun v F1 H1 γ1 s R1 e1 o1 h1 => ?_
  cases s with
  | val d => exact h1.elim
  | own j c => exact h1.elim
  | new c =>
    obtain ⟨F2, R2, e2, o2⟩ := o1.fz R1
    obtain ⟨a, rfl, N⟩ := o1
    have nz : ¬ B.z a := fun z => by
      obtain ⟨o, e⟩ := B.zn a z
      rw [N.bn] at e
      cases e
    exact k _ F2 H1 γ1 (.val (.fr c.data)) R2 (e1.trans e2) (Rp.fr nz o2) h1
theorem se_st {K : PySem.W.Frag} {te : TE} {de : DE} (h : SE K te de) : SE K te (dSt de) := fun B F H σ γ Q q R hq k => by
  refine h B F H σ γ _ _ R hq fun v F1 H1 γ1 s R1 e1 o1 h1 => ?_
  cases s with
  | val d =>
    cases d with
    | fr d =>
      have o1' : Rp (B.kz K) F1 v (.fr d) := o1
      cases o1' with
      | fr n r => exact k _ F1 H1 γ1 (.val d) R1 e1 r h1
    | _ => exact k _ F1 H1 γ1 _ R1 e1 o1 h1
  | own j c => exact h1.elim
  | new c => exact k _ F1 H1 γ1 _ R1 e1 o1 h1
theorem x_fr {X : Cx} {e : Expr} {te : TE} {de : DE} (h : XE X e te de) : XE X e te (dFr de) := ⟨h.pe, se_fr h.se⟩
theorem x_st {X : Cx} {e : Expr} {te : TE} {de : DE} (h : XE X e te de) : XE X e te (dSt de) := ⟨h.pe, se_st h.se⟩
/-- a tuple target in a comprehension -/
theorem g_tupC {X : Cx} {es : List Expr} {k n : Nat} {pos : Pos} {gs : TGs} {dgs : DGs} {ix : List Nat} (K : PySem.W.Frag) (hK : X.K = K) (hc : X.calm = true) (h : XGs X es gs dgs ix) (hn : (assignEach es X.env).length = n := by rfl) (hst : (assignEach es X.env).findIdx? (·.1) = none := by rfl) : XG X (.Tuple es k pos) (gTup K n gs) (gT n dgs) ix := by
  have g := g_tup hc h hn hst (k := k) (pos := pos)
  rw [hK] at g
  exact g
/-- a call in a comprehension -/
theorem x_callC {X : Cx} {a : Expr} {es : List Expr} {ta : TA} {da : DA} {k n : Nat} {f : Addr} {fd : FuncData} {ps : List Str} {fs : FS} {x : Str} {p pos : Pos} (K : PySem.W.Frag) (hK : X.K = K) (G : FnOk X.prog X.w X.K X.mg X.base CX0 k f fd ps (spOf X.K n fs)) (hr : Room k X.A) (hm : X.mg x = some (.ref f)) (hk : PySem.W.keepIn X.K (.ref f) = true) (hb : Binds X.K fd ps []) (h : XA X (a :: es) ta da)
    (hg : Gl X x := by rfl) (hdb : (x == ("__debug__" : Str)) = false := by decide) (he : starEach (a :: es) X.env = (false, eval a X.env) :: starEach es X.env := by rfl) (hpl : (backTo pos (starEach es X.env)).any (·.1) = false := by rfl) :
    XE X (.Call (.Name x p) (a :: es) [] pos) (tCall (spOf K n fs) [] E0 ta) (dCall n fs [] da) := by
  have g := x_call (p := p) (pos := pos) G hr hm hk hb h hg hdb he hpl
  rw [hK] at g
  exact g
mutual
/-- no mark of newness in it -/
def D.nofr : D → Bool
  | .fr _ => false
  | .lst xs => nofrAll xs | .tup xs => nofrAll xs | .obj _ fs => nofrF fs | .dct ks => nofrK ks
  | _ => true
def nofrAll : List D → Bool
  | [] => true
  | x :: xs => x.nofr && nofrAll xs
def nofrF : List (Str × D) → Bool
  | [] => true
  | (_, x) :: xs => x.nofr && nofrF xs
def nofrK : List (Key × D) → Bool
  | [] => true
  | (_, x) :: xs => x.nofr && nofrK xs
end
section
variable {K : PySem.W.Frag} {z z' : Addr → Prop} {F : Hp}
mutual
theorem Rp.line : ∀ {v : V} {d : D}, Rp ⟨K, z⟩ F v d → d.nofr = true → Rp ⟨K, z'⟩ F v d
  | _, _, .non, _ => .non
  | _, _, .bl b, _ => .bl b
  | _, _, .int b, _ => .int b
  | _, _, .str b, _ => .str b
  | _, _, .ref b, _ => .ref b
  | _, _, .ty b, _ => .ty b
  | _, _, .lst h a, n => .lst h (RpAll.line a n)
  | _, _, .scr h, _ => .scr h
  | _, _, .tup h a, n => .tup h (RpAll.line a n)
  | _, _, .obj h1 h2 a, n => .obj h1 h2 (RpFs.line a n)
  | _, _, .dct h1 a, n => .dct h1 (RpKs.line a n)
theorem RpAll.line : ∀ {v : List V} {d : List D}, RpAll ⟨K, z⟩ F v d → nofrAll d = true → RpAll ⟨K, z'⟩ F v d
  | _, _, .nil, _ => .nil
  | _, _, .cons h t, n => .cons (Rp.line h (Bool.and_eq_true_iff.mp n).1) (RpAll.line t (Bool.and_eq_true_iff.mp n).2)
theorem RpFs.line : ∀ {v : List (Str × V)} {d : List (Str × D)}, RpFs ⟨K, z⟩ F v d → nofrF d = true → RpFs ⟨K, z'⟩ F v d
  | _, _, .nil, _ => .nil
  | _, _, .cons h t, n => .cons (Rp.line h (Bool.and_eq_true_iff.mp n).1) (RpFs.line t (Bool.and_eq_true_iff.mp n).2)
theorem RpKs.line : ∀ {v : List (Key × V)} {d : List (Key × D)}, RpKs ⟨K, z⟩ F v d → nofrK d = true → RpKs ⟨K, z'⟩ F v d
  | _, _, .nil, _ => .nil
  | _, _, .cons h t, n => .cons (Rp.line h (Bool.and_eq_true_iff.mp n).1) (RpKs.line t (Bool.and_eq_true_iff.mp n).2)
end
end
def flatAll : List D → Prop
  | [] => True
  | x :: xs => flatD x ∧ flatAll xs
theorem flat_rp {K K' : KZ} {F F' : Hp} : ∀ {vs : List V} {ds : List D}, RpAll K F vs ds → flatAll ds → RpAll K' F' vs ds
  | _, _, .nil, _ => .nil
  | _, _, .cons h t, ⟨a, b⟩ => .cons (by
    cases h with
    | non => exact .non
    | bl b => exact .bl b
    | int i => exact .int i
    | str x => exact .str x
    | _ => exact a.elim) (flat_rp t b)
theorem flat_ints : ∀ ns : List Int, flatAll (ns.map D.int)
  | [] => trivial
  | _ :: ns => ⟨trivial, flat_ints ns⟩
/-- f(..) behind a line: a list of flat things that is newer is the caller's -/
def meltR : RS → (List D → Prop) → Prop
  | .val (.fr (.lst ds)), q => q ds
  | .new (.lst ds), q => q ds
  | _, _ => False
def dCallZ (n : Nat) (fs : FS) (da : DA) (γ : Env) (q : RS → Env → Prop) : Prop := da γ fun rs γ1 => allV rs ∧ rs.length = n ∧ nofrAll (rs.map RS.data) = true ∧ fs ((rs.map RS.data).map Sx.val) fun r _ => meltR r fun ds => flatAll ds ∧ q (.new (.lst ds)) γ1
theorem se_callZ {K : PySem.W.Frag} {n : Nat} {fs : FS} {E : XK} {ta : TA} {da : DA} (h : SA K ta da) : SE K (tCall (spOf K n fs) [] E ta) (dCallZ n fs da) := fun B F H σ γ Q q R hq k => by
  refine h B F H σ γ _ _ R hq fun vs F1 H1 γ1 rs R1 e1 o1 ⟨h0, h2, hn, h3⟩ => ?_
  have ra := allV_rp o1 h0
  let Z : ZN H1 := ⟨fun a => ∃ o, H1 a = some o, fun _ h => h⟩
  have ra' : RpAll ⟨K, Z.1⟩ F1 vs (rs.map RS.data) := ra.line hn
  have RE : Rep K (entry F1 H1 [] Z (vs ++ [])) F1 H1 ((vs ++ []).map some) ((rs.map RS.data).map Sx.val) := by
    have none : ∀ {i : Nat} {p : Option Nat} {c : OC}, ((rs.map RS.data).map Sx.val)[i]? ≠ some (.own p c) := fun {i p c} h => by
      rw [List.getElem?_map] at h
      cases q : (rs.map RS.data)[i]? with
      | none => rw [q] at h; cases h
      | some d => rw [q] at h; cases h
    rw [List.append_nil]
    refine ⟨R1.fh, by rw [List.length_map, List.length_map, P_len ra'.p], fun i s t hs hg => ?_, fun i j a p c q c' h1 => absurd h1 none, fun b o e => ⟨fun _ => e, o, e⟩, Evl.Ex.refl F1, fun b o _ _ => rfl, fun i a p c h1 => absurd h1 none, fun i a p c h1 => absurd h1 none, fun b o e => ⟨o, e⟩, fun a o e => ⟨o, e, .refl o⟩⟩
    rw [List.getElem?_map] at hs hg
    cases q : (rs.map RS.data)[i]? with
    | none => rw [q] at hg; cases hg
    | some d =>
      rw [q] at hg
      cases hg
      obtain ⟨v, hv, r⟩ := P_get ra'.p q
      rw [hv] at hs
      exact ⟨v, (Option.some.inj hs).symm, r⟩
  refine ⟨by rw [List.append_nil, P_len o1]; exact h2, F1, [], Z, _, _, RE, h3, fun r as' v F3 H3 hp R3 ok hk => ?_⟩
  have eH : Ex H1 H3 := fun b o e => (R3.b1 b o e).1 (by simp [entry])
  have fin : ∀ {a : Addr} {ws : List V} {ds : List D} {K' : KZ} {F' : Hp}, H1 a = none → H3 a = some (.lst ws) → RpAll K' F' ws ds → flatAll ds → v = .ref a → q (.new (.lst ds)) γ1 → Q v H3 := fun {a ws ds K' F'} ha hl hr hf hv hq => by
    obtain ⟨f1, f2, f3, f4⟩ := R1.fresh ha
    exact k v F1 H3 γ1 (.new (.lst ds)) (R1.grow eH) e1 ⟨a, hv, f1, ⟨ws, hl, flat_rp hr hf⟩, f3, .inr f2, f4⟩ hq
  have nz : ∀ {a : Addr}, ¬ Z.1 a → H1 a = none := fun {a} h => by
    cases e : H1 a with
    | none => rfl
    | some o => exact absurd ⟨o, e⟩ h
  unfold meltR at hp
  split at hp
  · rename_i ds
    have ok' : Rp ⟨K, Z.1⟩ F3 v (.fr (.lst ds)) := ok
    cases ok' with
    | fr nzr r => cases r with
      | lst hl hr => exact fin (nz nzr) (R3.fh _ _ hl) hr hp.1 rfl hp.2
  · rename_i ds
    obtain ⟨a, ea, N⟩ := ok
    obtain ⟨ws, hl, hr⟩ := N.ok
    exact fin N.bn hl hr hp.1 ea hp.2
  · exact hp.elim
section
variable {X : Cx} {a : Expr} {es : List Expr} {ta : TA} {da : DA} {k n : Nat} {f : Addr} {fd : FuncData} {ps : List Str} {fs : FS} {x : Str} {p pos : Pos}
theorem x_callZ (G : FnOk X.prog X.w X.K X.mg X.base CX0 k f fd ps (spOf X.K n fs)) (hr : Room k X.A) (hm : X.mg x = some (.ref f)) (hk : PySem.W.keepIn X.K (.ref f) = true) (hb : Binds X.K fd ps []) (h : XA X (a :: es) ta da)
    (hg : Gl X x := by rfl) (hdb : (x == ("__debug__" : Str)) = false := by decide) (he : starEach (a :: es) X.env = (false, eval a X.env) :: starEach es X.env := by rfl) (hpl : (backTo pos (starEach es X.env)).any (·.1) = false := by rfl) :
    XE X (.Call (.Name x p) (a :: es) [] pos) (tCall (spOf X.K n fs) [] E0 ta) (dCallZ n fs da) := ⟨pe_call G hr hg hm hk hb .nil pass0 h.pa hdb he hpl, se_callZ h.sa⟩
end
/-! ### small facts for simp -/
theorem ixN_s0 {n : Nat} : ixN (n + 1) 0 = some 0 := ixN_zero (Nat.succ_pos n)
theorem seqIx_s0 {n : Nat} : seqIndex? 0 (n + 1) = some 0 := seqIx_zero (Nat.succ_pos n)
theorem divW {i j : Int} (h : 0 < j) (h2 : j < 2 ^ 40) : CDivW i j := by
  refine ⟨h, Nat.lt_trans ((Nat.log2_lt (by omega)).mpr (show j.natAbs < 2 ^ 40 by omega)) (by decide)⟩
/-! ### loops, their bodies unread -/
def LcOk (n : Nat) (y : Nat → D → Prop) (γ1 : Env) (dg : DG) (dt : DT) (de : DE) (vs : List Nat) (q : RS → Env → Prop) : Prop := n ≤ 1000000 ∧ ∃ I : Nat → List D → Env → Prop, I 0 [] (wipeG γ1 vs) ∧
  (∀ i acc γ2, i < n → I i acc γ2 → ∀ x, y i x → dg x γ2 fun γ3 => dt γ3 fun b γ4 => (b = true → de γ4 fun s γ5 => s.kept ∧ I (i + 1) (acc ++ [s.data]) (wipeG γ5 vs)) ∧ (b = false → I (i + 1) acc (wipeG γ4 vs))) ∧
  ∀ acc γ2, I n acc γ2 → q (.new (.lst acc)) (restore γ1 γ2 vs)
theorem dLc_eq {di : DI} {dg : DG} {dt : DT} {de : DE} {vs : List Nat} {γ : Env} {q : RS → Env → Prop} : dLc di dg dt de vs γ q = di γ fun n y γ1 => LcOk n y γ1 dg dt de vs q := rfl
theorem lc_ok {n : Nat} {y : Nat → D → Prop} {γ1 : Env} {dg : DG} {dt : DT} {de : DE} {vs : List Nat} {q : RS → Env → Prop} (hn : n ≤ 1000000) (I : Nat → List D → Env → Prop) (h0 : I 0 [] (wipeG γ1 vs))
    (hs : ∀ i acc γ2, i < n → I i acc γ2 → ∀ x, y i x → dg x γ2 fun γ3 => dt γ3 fun b γ4 => (b = true → de γ4 fun s γ5 => s.kept ∧ I (i + 1) (acc ++ [s.data]) (wipeG γ5 vs)) ∧ (b = false → I (i + 1) acc (wipeG γ4 vs)))
    (hf : ∀ acc γ2, I n acc γ2 → q (.new (.lst acc)) (restore γ1 γ2 vs)) : LcOk n y γ1 dg dt de vs q := ⟨hn, I, h0, hs, hf⟩
/-- every turn tells f i -/
theorem lc_map {n : Nat} {y : Nat → D → Prop} {γ1 : Env} {dg : DG} {dt : DT} {de : DE} {vs : List Nat} {q : RS → Env → Prop} (hn : n ≤ 1000000) (f : Nat → D) (G : Env)
    (h0 : wipeG γ1 vs = G) (hs : ∀ i x, i < n → y i x → dg x G fun γ3 => dt γ3 fun b γ4 => b = true ∧ de γ4 fun s γ5 => s.kept ∧ s.data = f i ∧ wipeG γ5 vs = G) (mg : ∀ {x γ a b}, (∀ γ3, a γ3 → b γ3) → dg x γ a → dg x γ b) (mt : ∀ {γ} {a b : Bool → Env → Prop}, (∀ u v, a u v → b u v) → dt γ a → dt γ b) (me : ∀ {γ} {a b : RS → Env → Prop}, (∀ u v, a u v → b u v) → de γ a → de γ b)
    (hf : q (.new (.lst ((List.range n).map f))) (restore γ1 G vs)) : LcOk n y γ1 dg dt de vs q :=
  lc_ok hn (fun i acc γ => acc = (List.range i).map f ∧ γ = G) ⟨rfl, h0⟩ (fun i acc γ hi ⟨e1, e2⟩ x hx => by
    subst e1; subst e2
    refine mg (fun γ3 => mt fun b γ4 ⟨hb, h⟩ => ⟨fun _ => me (fun s γ5 ⟨k1, k2, k3⟩ => ⟨k1, ?_, k3⟩) h, fun z => by rw [hb] at z; cases z⟩) (hs i x hi hx)
    rw [List.range_succ, List.map_append, k2]
    rfl) fun acc γ ⟨e1, e2⟩ => by subst e1; subst e2; exact hf
def ForOk (n : Nat) (y : Nat → D → Prop) (γ1 : Env) (dg : DG) (db : DS) (d : DEnds) : Prop := ∃ I : Nat → Env → Prop, I 0 γ1 ∧
  (∀ i γ2, i < n → I i γ2 → ∀ x, y i x → dg x γ2 fun γ3 => db { nx := I (i + 1), ct := I (i + 1), bk := d.nx, rt := d.rt } γ3) ∧ ∀ γ2, I n γ2 → d.nx γ2
theorem dFor_eq {di : DI} {dg : DG} {db : DS} {d : DEnds} {γ : Env} : dFor di dg db d γ = di γ fun n y γ1 => ForOk n y γ1 dg db d := rfl
theorem for_ok {n : Nat} {y : Nat → D → Prop} {γ1 : Env} {dg : DG} {db : DS} {d : DEnds} (I : Nat → Env → Prop) (h0 : I 0 γ1)
    (hs : ∀ i γ2, i < n → I i γ2 → ∀ x, y i x → dg x γ2 fun γ3 => db { nx := I (i + 1), ct := I (i + 1), bk := d.nx, rt := d.rt } γ3) (hf : ∀ γ2, I n γ2 → d.nx γ2) : ForOk n y γ1 dg db d := ⟨I, h0, hs, hf⟩
def WhileOk (γ : Env) (dt : DT) (db : DS) (d : DEnds) : Prop := ∃ I : Nat → Env → Prop, (∃ m, I m γ) ∧ ∀ m γ2, I m γ2 → dt γ2 fun b γ3 =>
  (b = true → db { nx := fun γ4 => ∃ m', m' < m ∧ I m' γ4, ct := fun γ4 => ∃ m', m' < m ∧ I m' γ4, bk := d.nx, rt := d.rt } γ3) ∧ (b = false → d.nx γ3)
theorem dWhile_eq {dt : DT} {db : DS} {d : DEnds} {γ : Env} : dWhile dt db d γ = WhileOk γ dt db d := rfl
theorem while_ok {dt : DT} {db : DS} {d : DEnds} {γ : Env} (I : Nat → Env → Prop) (m : Nat) (h0 : I m γ) (hs : ∀ m γ2, I m γ2 → dt γ2 fun b γ3 =>
    (b = true → db { nx := fun γ4 => ∃ m', m' < m ∧ I m' γ4, ct := fun γ4 => ∃ m', m' < m ∧ I m' γ4, bk := d.nx, rt := d.rt } γ3) ∧ (b = false → d.nx γ3)) : WhileOk γ dt db d := ⟨I, ⟨m, h0⟩, hs⟩
theorem rg_snoc {α : Type} {f : Nat → α} {i : Nat} {x : α} : (List.range i).map f ++ [x] = (List.range (i + 1)).map f ↔ x = f i := by
  rw [List.range_succ, List.map_append]
  simp
theorem cut_to {α : Type} {xs : List α} {k : Int} (h : 0 ≤ k) : cut xs none (some k) = xs.take k.toNat := by
  unfold cut
  rw [HT.sIx_none, show k = ((k.toNat : Nat) : Int) by omega, HT.sIx_nat, List.drop_zero, Nat.sub_zero, Int.toNat_natCast, List.take_eq_take_iff]
  omega
theorem cut_from {α : Type} {xs : List α} {k : Int} (h : 0 ≤ k) : cut xs (some k) none = xs.drop k.toNat := by
  unfold cut
  rw [HT.sIx_none, show k = ((k.toNat : Nat) : Int) by omega, HT.sIx_nat, Int.toNat_natCast]
  by_cases c : k.toNat ≤ xs.length
  · rw [Nat.min_eq_left c, List.take_of_length_le (by rw [List.length_drop]; omega)]
  · rw [Nat.min_eq_right (by omega), List.drop_of_length_le (Nat.le_refl _), List.drop_of_length_le (by omega), List.take_nil]
theorem map_snoc {α β : Type} {f : α → β} {xs : List α} {x : α} : xs.map f ++ [f x] = (xs ++ [x]).map f := by simp
end DL


set_option Elab.async false
set_option linter.all false
set_option maxRecDepth 100000
set_option maxHeartbeats 4000000
namespace K67
open PySem PySem.Spec PyProof.Rows L2 DL
/-! ### keys -/
inductive Ky where
  | n (i : Int) | w (s : Str) | p (i : Int) (s : Str)
  deriving DecidableEq
def Ky.d : Ky → D
  | .n i => .int i
  | .w s => .str s
  | .p i s => .tup [.int i, .str s]
def slt (a b : Str) : Bool := decide (a.cps.toList < b.cps.toList)
def Ky.lt : Ky → Ky → Bool
  | .n i, .n j => decide (i < j)
  | .w s, .w t => slt s t
  | .p i s, .p j t => if decide (i = j) = true then slt s t else decide (i < j)
  | _, _ => false
def Ky.kind : Ky → Nat
  | .n _ => 0
  | .w _ => 1
  | .p _ _ => 2
def Ky.ok : Ky → Bool
  | .n _ => true
  | .w s => PyData.strOk s
  | .p _ s => PyData.strOk s
def Keys (ks : List Ky) : Prop := (∃ k, ∀ x ∈ ks, x.kind = k) ∧ ∀ x ∈ ks, x.ok = true
abbrev kysD (ks : List Ky) : List D := ks.map Ky.d
def natD (i : Nat) : D := .int (i : Int)
abbrev natsD (l : List Nat) : List D := l.map natD
def prD (p : Nat × Nat) : D := .tup [.int (p.1 : Int), .int (p.2 : Int)]
abbrev prsD (ps : List (Nat × Nat)) : List D := ps.map prD
def frD (l : List Nat) : D := .fr (.lst (l.map natD))
abbrev intsD (ns : List Int) : List D := ns.map D.int
/-! ### what the defs tell -/
def kAt (ks : List Ky) (i : Nat) : Ky := ks.getD i (.n 0)
def ltA (ks : List Ky) (i j : Nat) : Bool := (kAt ks i).lt (kAt ks j)
def brd (ks : List Ky) (n : Nat) : List Nat := ((List.range n).map (· + 1)).filter fun k => ltA ks k (k - 1)
def runsOf (ks : List Ky) : List (Nat × Nat) := if ks = [] then [] else List.zip (0 :: brd ks (ks.length - 1)) (brd ks (ks.length - 1) ++ [ks.length])
def mrg (ks : List Ky) : List Nat → List Nat → List Nat
  | [], r => r
  | x :: l, [] => x :: mrg ks l []
  | x :: l, y :: r => if ltA ks y x = true then y :: mrg ks (x :: l) r else x :: mrg ks l (y :: r)
termination_by l r => l.length + r.length
def rnd (ks : List Ky) : List (List Nat) → List (List Nat)
  | a :: b :: r => mrg ks a b :: rnd ks r
  | r => r
def Rl (ks : List Ky) (a b : Nat) : Prop := ltA ks a b = true ∨ (kAt ks a = kAt ks b ∧ a < b)
def Ord (ks : List Ky) (l : List Nat) : Prop := l.length = ks.length ∧ (∀ i ∈ l, i < ks.length) ∧ l.Pairwise (Rl ks)
def Rds (m r : Nat) : Prop := m ≤ 2 ^ r ∧ (r = 0 ∨ 2 ^ (r - 1) < m)
def Pool (ms : List Int) : Prop := (∀ x ∈ ms, 0 ≤ x ∧ x < 2 ^ 200) ∧ ms.length ≤ 63
/-! ### promises -/
def fs_runs_of : FS := fun as p => ∃ ks, as = [.val (.lst (kysD ks))] ∧ Keys ks ∧ ks.length ≤ 1000 ∧ p (.new (.lst (prsD (runsOf ks)))) as
def fs_merge_two : FS := fun as p => ∃ ks l r, as = [.val (.lst (kysD ks)), .val (.lst (natsD l)), .val (.lst (natsD r))] ∧ Keys ks ∧ (∀ i ∈ l, i < ks.length) ∧ (∀ i ∈ r, i < ks.length) ∧ l.length + r.length ≤ 1000 ∧ p (.new (.lst (natsD (mrg ks l r)))) as
def Rws (ks : List Ky) (ls : List (List Nat)) : Prop := (∀ l ∈ ls, ∀ i ∈ l, i < ks.length) ∧ (ls.map List.length).sum ≤ 1000 ∧ ls.length ≤ 1000
def fs_merge_round : FS := fun as p => ∃ ks ls, as = [.val (.lst (kysD ks)), .val (.lst (ls.map frD))] ∧ Keys ks ∧ Rws ks ls ∧ p (.new (.lst ((rnd ks ls).map frD))) as
def fs_merge_order : FS := fun as p => ∃ ks, as = [.val (.lst (kysD ks))] ∧ Keys ks ∧ ks.length ≤ 1000 ∧ ∀ l, Ord ks l → p (.val (frD l)) as ∧ p (.new (.lst (natsD l))) as
def fs_rounds_of : FS := fun as p => ∃ ks, as = [.val (.lst (kysD ks))] ∧ Keys ks ∧ ks.length ≤ 1000 ∧ ∀ r, Rds (runsOf ks).length r → p (.val (.int (r : Int))) as
def fs_l_digits : FS := fun as p => ∃ ns : List Int, as = [.val (.scr ns)] ∧ ∀ ms, Pool ms → p (.new (.lst (intsD ms))) as
def fs_l_draw : FS := fun as p => ∃ (ms : List Int) (m : Int), as = [.own (some 0) (.lst (intsD ms)), .val (.int m)] ∧ Pool ms ∧ 0 < m ∧ m < 2 ^ 40 ∧
  ∀ d ms', 0 ≤ d → d < m → Pool ms' → p (.val (.int d)) [.own (some 0) (.lst (intsD ms')), .val (.int m)]
def fs_l_number : FS := fun as p => ∃ (ms : List Int) (k : Int), as = [.own (some 0) (.lst (intsD ms)), .val (.int k)] ∧ Pool ms ∧ 0 ≤ k ∧ k < 100 ∧
  ∀ x ms', Pool ms' → p (.val (.int x)) [.own (some 0) (.lst (intsD ms')), .val (.int k)]
def fs_l_word : FS := fun as p => ∃ (ms : List Int) (k : Int), as = [.own (some 0) (.lst (intsD ms)), .val (.int k)] ∧ Pool ms ∧ 0 ≤ k ∧ k < 100 ∧
  ∀ s ms', PyData.strOk s = true → Pool ms' → p (.val (.str s)) [.own (some 0) (.lst (intsD ms')), .val (.int k)]
def fs_l_drawn : FS := fun as p => ∃ (ms : List Int), as = [.own (some 0) (.lst (intsD ms))] ∧ Pool ms ∧
  ∀ ks ms', Keys ks → ks.length ≤ 20 → Pool ms' → p (.new (.lst (kysD ks))) [.own (some 0) (.lst (intsD ms'))]
def fs_l_int : FS := fun as p => ∃ a : Int, as = [.val (.int a), .val (.int a)] ∧ p (.val (.bl true)) as
def fs_l_ints : FS := fun as p => ∃ xs : List Int, as = [.val (.lst (intsD xs)), .val (.lst (intsD xs))] ∧ xs.length ≤ 1000 ∧ p (.val (.bl true)) as
def fs_l_runs : FS := fs_runs_of
def fs_l_sorted : FS := fun as p => ∃ ks l, as = [.val (.lst (natsD l)), .val (.lst (kysD ks))] ∧ Keys ks ∧ ks.length ≤ 1000 ∧ Ord ks l ∧ p (.val (.bl true)) as
def fs_l_rounds : FS := fun as p => ∃ m : Nat, as = [.val (.int (m : Int))] ∧ m ≤ 1000 ∧ ∀ r, Rds m r → p (.val (.int (r : Int))) as
def fs_l_pairs : FS := fun as p => ∃ ps : List (Nat × Nat), as = [.val (.lst (prsD ps)), .val (.lst (prsD ps))] ∧ ps.length ≤ 1000 ∧ p (.val (.bl true)) as
def fs_l_told : FS := fun as p => ∃ ks, as = [.val (.lst (kysD ks))] ∧ Keys ks ∧ ks.length ≤ 1000 ∧ p (.val (.bl true)) as
abbrev fs_law : FS := fsLaw
/-! printed by gen.py: what each def does, on data -/
/-- slots: 0 keys, 1 runs, 2 start, 3 index -/
def ds_runs_of : DS := (dSeq (dAsg 1 (dLst dNil))
  (dSeq (dAsg 2 (dC (.int 0)))
  (dSeq (dFor (dIR2 (dCons (dC (.int 1)) (dCons (d2 fAdd (dCB fLen (dCons (dVar 0) dNil)) (dC (.int 1))) dNil))) (gN 3) (dIf (dOr (dB (d2 fEq (dVar 3) (dCB fLen (dCons (dVar 0) dNil)))) (dB (d2 fLtK (d2 fIxL (dVar 0) (dVar 3)) (d2 fIxL (dVar 0) (d2 fSub (dVar 3) (dC (.int 1))))))) (dSeq (dDrop (dMut 1 mApp (dCons (dTup (dCons (dVarV 2) (dCons (dVarV 3) dNil))) dNil)))
  (dAsg 2 (dVarV 3))) dNext))
  (dRet (dVarM 1)))))
/-- slots: 0 keys, 1 left, 2 right, 3 merged, 4 at, 5 index -/
def ds_merge_two : DS := (dSeq (dAsg 3 (dLst dNil))
  (dSeq (dAsg 4 (dC (.int 0)))
  (dSeq (dFor (dIL (dVarV 1)) (gN 5) (dSeq (dWhile (dAnd (dB (d2 fLt (dVar 4) (dCB fLen (dCons (dVar 2) dNil)))) (dB (d2 fLtK (d2 fIxL (dVar 0) (d2 fIxL (dVar 2) (dVar 4))) (d2 fIxL (dVar 0) (dVar 5))))) (dSeq (dDrop (dMut 3 mApp (dCons (d2 fIxL (dVar 2) (dVar 4)) dNil)))
  (dAug 4 (fun i j => i + j) (dC (.int 1)))))
  (dDrop (dMut 3 mApp (dCons (dVarV 5) dNil)))))
  (dRet (d2 fCat (dVar 3) (dSl fSlL (dVar 2) (dPart (dVar 4)) dNo))))))
/-- slots: 0 keys, 1 lists, 2 merged, 3 at -/
def ds_merge_round : DS := (dSeq (dAsg 2 (dLst dNil))
  (dSeq (dFor (dIR3 (dCons (dC (.int 0)) (dCons (d2 fSub (dCB fLen (dCons (dVar 1) dNil)) (dC (.int 1))) (dCons (dC (.int 2)) dNil)))) (gN 3) (dDrop (dMut 2 mApp (dCons (dFr (dCall 3 fs_merge_two [] (dCons (dVarV 0) (dCons (dSt (d2 fIxL (dVar 1) (dVar 3))) (dCons (dSt (d2 fIxL (dVar 1) (d2 fAdd (dVar 3) (dC (.int 1))))) dNil))))) dNil))))
  (dSeq (dIf (dB (d2 fEq (d2 fMod (dCB fLen (dCons (dVar 1) dNil)) (dC (.int 2))) (dC (.int 1)))) (dDrop (dMut 2 mApp (dCons (d2 fIxL (dVar 1) (d1 fNeg (dC (.int 1)))) dNil))) dNext)
  (dRet (dVarM 2)))))
/-- slots: 0 keys, 1 lists, 2 start, 3 end -/
def ds_merge_order : DS := (dSeq (dAsg 1 (dLc (dIL (dCall 1 fs_runs_of [] (dCons (dVarV 0) dNil))) (gT 2 (gsCons (gN 2) (gsCons (gN 3) gsNil))) dYes (dFr (dLRg2 (dVar 2) (dVar 3))) [2, 3]))
  (dSeq (dWhile (dB (d2 fGt (dCB fLen (dCons (dVar 1) dNil)) (dC (.int 1)))) (dAsg 1 (dCall 2 fs_merge_round [] (dCons (dVarV 0) (dCons (dVarV 1) dNil)))))
  (dSeq (dIf (dTru (dVar 1)) (dRet (d2 fIxL (dVar 1) (dC (.int 0)))) dNext)
  (dRet (dLst dNil)))))
/-- slots: 0 keys, 1 many, 2 rounds, 3 reach -/
def ds_rounds_of : DS := (dSeq (dAsg 1 (dCB fLen (dCons (dCall 1 fs_runs_of [] (dCons (dVarV 0) dNil)) dNil)))
  (dSeq (dAsg 2 (dC (.int 0)))
  (dSeq (dAsg 3 (dC (.int 1)))
  (dSeq (dWhile (dB (d2 fLt (dVar 3) (dVar 1))) (dSeq (dAsg 3 (d2 fMul (dVar 3) (dC (.int 2))))
  (dAug 2 (fun i j => i + j) (dC (.int 1)))))
  (dRet (dVarM 2))))))
/-- slots: 0 _law_script, 1 _law_cell -/
def ds_l_digits : DS := (dRet (dLc (dIL (dSl fSlL (dVar 0) dNo (dPart (dC (.int 63))))) (gN 1) dYes (d2 fMod (dCB fAbs (dCons (dVar 1) dNil)) (d2 fPow (dC (.int 10)) (dC (.int 60)))) [1]))
/-- slots: 0 _law_pool, 1 _law_many, 2 _law_digit -/
def ds_l_draw : DS := (dSeq (dIf (dB (d2 fEqD (dVar 0) (dLst dNil))) (dRet (dC (.int 0))) dNext)
  (dSeq (dAsg 2 (d2 fMod (dCB fInt (dCons (d2 fIxL (dVar 0) (dC (.int 0))) dNil)) (dVar 1)))
  (dSeq (dSetI 0 (d2 fDivW (d2 fIxL (dVar 0) (dC (.int 0))) (dVar 1)) (dC (.int 0)))
  (dSeq (dIf (dB (d2 fEq (d2 fIxL (dVar 0) (dC (.int 0))) (dC (.int 0)))) (dDrop (dMut 0 mPopAt (dCons (dC (.int 0)) dNil))) dNext)
  (dRet (dVarM 2))))))
/-- slots: 0 _law_pool, 1 _law_k, 2 _law_kind, 3 _law_size -/
def ds_l_number : DS := (dSeq (dAsg 2 (dCall 2 fs_l_draw [] (dCons (dVar 0) (dCons (dC (.int 5)) dNil))))
  (dSeq (dIf (dB (d2 fEq (dVar 2) (dC (.int 4)))) (dSeq (dAsg 3 (dCall 2 fs_l_draw [] (dCons (dVar 0) (dCons (dC (.int 1999999999)) dNil))))
  (dRet (dIfE (dB (d2 fEq (d2 fMod (dCB fInt (dCons (dVar 3) dNil)) (dC (.int 2))) (dC (.int 0)))) (d2 fDiv (dVar 3) (dC (.int 2))) (d2 fSub (d1 fNeg (dC (.int 1))) (d2 fDiv (dVar 3) (dC (.int 2))))))) dNext)
  (dRet (d2 fMod (dCB fInt (dCons (d2 fAdd (dCall 2 fs_l_draw [] (dCons (dVar 0) (dCons (dC (.int 5)) dNil))) (d2 fMul (dC (.int 3)) (dVar 1))) dNil)) (dC (.int 5))))))
/-- slots: 0 _law_pool, 1 _law_k, 2 _law_known, 3 _law_text, 4 _law_at -/
def ds_l_word : DS := (dSeq (dIf (dB (d2 fEq (dCall 2 fs_l_draw [] (dCons (dVar 0) (dCons (dC (.int 4)) dNil))) (dC (.int 3)))) (dSeq (dAsg 3 (dC (.str "")))
  (dSeq (dFor (dIR1 (dCons (d2 fAdd (dC (.int 1)) (dCall 2 fs_l_draw [] (dCons (dVar 0) (dCons (dC (.int 8)) dNil)))) dNil)) (gN 4) (dAsg 3 (d2 fAddS (dVar 3) (d2 fIxS (dC (.str "abcdefghijklmnopqrstuvwxyz")) (dCall 2 fs_l_draw [] (dCons (dVar 0) (dCons (dC (.int 26)) dNil)))))))
  (dRet (dVarM 3)))) dNext)
  (dSeq (dAsg 2 (dLst (dCons (dC (.str "oslo")) (dCons (dC (.str "rome")) (dCons (dC (.str "a")) (dCons (dC (.str "aa")) (dCons (dC (.str "ab")) (dCons (dC (.str "b")) (dCons (dC (.str "paris")) (dCons (dC (.str "pisa")) (dCons (dC (.str "zz")) (dCons (dC (.str "zzzzzzzz")) dNil))))))))))))
  (dRet (d2 fIxL (dVar 2) (d2 fMod (dCB fInt (dCons (d2 fAdd (dCall 2 fs_l_draw [] (dCons (dVar 0) (dCons (dC (.int 10)) dNil))) (dVar 1)) dNil)) (dC (.int 10)))))))
/-- slots: 0 _law_pool, 1 _law_kind, 2 _law_keys, 3 _law_k, 4 _law_number_here -/
def ds_l_drawn : DS := (dSeq (dAsg 1 (dCall 2 fs_l_draw [] (dCons (dVar 0) (dCons (dC (.int 3)) dNil))))
  (dSeq (dAsg 2 (dLst dNil))
  (dSeq (dFor (dIR1 (dCons (d2 fMod (dCB fInt (dCons (d2 fAdd (dCall 2 fs_l_draw [] (dCons (dVar 0) (dCons (dC (.int 21)) dNil))) (dC (.int 7))) dNil)) (dC (.int 21))) dNil)) (gN 3) (dIf (dB (d2 fEq (dVar 1) (dC (.int 0)))) (dDrop (dMut 2 mApp (dCons (dCall 2 fs_l_number [] (dCons (dVar 0) (dCons (dVarV 3) dNil))) dNil))) (dIf (dB (d2 fEq (dVar 1) (dC (.int 1)))) (dDrop (dMut 2 mApp (dCons (dCall 2 fs_l_word [] (dCons (dVar 0) (dCons (d2 fMul (dC (.int 3)) (dVar 3)) dNil))) dNil))) (dSeq (dAsg 4 (dCall 2 fs_l_number [] (dCons (dVar 0) (dCons (dVarV 3) dNil))))
  (dDrop (dMut 2 mApp (dCons (dTup (dCons (dVarV 4) (dCons (dCall 2 fs_l_word [] (dCons (dVar 0) (dCons (dVarV 3) dNil))) dNil))) dNil)))))))
  (dRet (dVarM 2)))))
/-- slots: 0 _law_told_here, 1 _law_due -/
def ds_l_int : DS := (dRet (dAndV (dCB fIsi (dCons (dVar 0) (dCons (dC (.ty "int")) dNil))) (dAndV (dNotV (dCB fIsi (dCons (dVar 0) (dCons (dC (.ty "bool")) dNil)))) (d2 fEq (dVar 0) (dVar 1)))))
/-- slots: 0 _law_told_here, 1 _law_due, 2 _law_k -/
def ds_l_ints : DS := (dSeq (dIf (dOr (dNot (dB (dCB fIsi (dCons (dVar 0) (dCons (dC (.ty "list")) dNil))))) (dB (d2 fNe (dCB fLen (dCons (dVar 0) dNil)) (dCB fLen (dCons (dVar 1) dNil))))) (dRet (dC (.bl false))) dNext)
  (dRet (dCB fAll (dCons (dLc (dIR1 (dCons (dCB fLen (dCons (dVar 1) dNil)) dNil)) (gN 2) dYes (dCall 2 fs_l_int [] (dCons (d2 fIxL (dVar 0) (dVar 2)) (dCons (d2 fIxL (dVar 1) (dVar 2)) dNil))) [2]) dNil))))
/-- slots: 0 _law_keys, 1 _law_borders, 2 _law_starts, 3 _law_stops, 4 _law_k -/
def ds_l_runs : DS := (dSeq (dIf (dB (d2 fEqD (dVar 0) (dLst dNil))) (dRet (dLst dNil)) dNext)
  (dSeq (dAsg 1 (dLc (dIR2 (dCons (dC (.int 1)) (dCons (dCB fLen (dCons (dVar 0) dNil)) dNil))) (gN 4) (dB (d2 fLtK (d2 fIxL (dVar 0) (dVar 4)) (d2 fIxL (dVar 0) (d2 fSub (dVar 4) (dC (.int 1)))))) (dVarV 4) [4]))
  (dSeq (dAsg 2 (d2 fCat (dLst (dCons (dC (.int 0)) dNil)) (dVar 1)))
  (dSeq (dAsg 3 (d2 fCat (dVar 1) (dLst (dCons (dCB fLen (dCons (dVar 0) dNil)) dNil))))
  (dRet (dLc (dIR1 (dCons (dCB fLen (dCons (dVar 2) dNil)) dNil)) (gN 4) dYes (dTup (dCons (d2 fIxL (dVar 2) (dVar 4)) (dCons (d2 fIxL (dVar 3) (dVar 4)) dNil))) [4]))))))
/-- slots: 0 _law_order, 1 _law_keys, 2 _law_last, 3 _law_index -/
def ds_l_sorted : DS := (dSeq (dIf (dOr (dNot (dB (dCB fIsi (dCons (dVar 0) (dCons (dC (.ty "list")) dNil))))) (dB (d2 fNe (dCB fLen (dCons (dVar 0) dNil)) (dCB fLen (dCons (dVar 1) dNil))))) (dRet (dC (.bl false))) dNext)
  (dSeq (dAsg 2 (d1 fNeg (dC (.int 1))))
  (dSeq (dFor (dIL (dVarV 0)) (gN 3) (dSeq (dIf (dOr (dNot (dB (dCB fIsi (dCons (dVar 3) (dCons (dC (.ty "int")) dNil))))) (dB (dCB fIsi (dCons (dVar 3) (dCons (dC (.ty "bool")) dNil))))) (dRet (dC (.bl false))) dNext)
  (dSeq (dIf (dNot (dB (dChain fLe fLt (dC (.int 0)) (dVar 3) (dCB fLen (dCons (dVar 1) dNil))))) (dRet (dC (.bl false))) dNext)
  (dSeq (dIf (dAnd (dB (d2 fGe (dVar 2) (dC (.int 0)))) (dB (d2 fLtK (d2 fIxL (dVar 1) (dVar 3)) (d2 fIxL (dVar 1) (dVar 2))))) (dRet (dC (.bl false))) dNext)
  (dSeq (dIf (dAnd (dB (d2 fGe (dVar 2) (dC (.int 0)))) (dAnd (dB (d2 fEqD (d2 fIxL (dVar 1) (dVar 3)) (d2 fIxL (dVar 1) (dVar 2)))) (dB (d2 fLe (dVar 3) (dVar 2))))) (dRet (dC (.bl false))) dNext)
  (dAsg 2 (dVarV 3)))))))
  (dRet (dC (.bl true))))))
/-- slots: 0 _law_many, 1 _law_rounds_here, 2 _law_k -/
def ds_l_rounds : DS := (dSeq (dAsg 1 (dC (.int 0)))
  (dSeq (dFor (dIR1 (dCons (dC (.int 10)) dNil)) (gN 2) (dIf (dB (d2 fGt (dVar 0) (dC (.int 1)))) (dSeq (dAsg 1 (d2 fAdd (dVar 1) (dC (.int 1))))
  (dAsg 0 (d2 fSub (dVar 0) (d2 fDiv (dVar 0) (dC (.int 2)))))) dNext))
  (dRet (dVarM 1))))
/-- slots: 0 _law_told_here, 1 _law_due, 2 _law_one, 3 _law_two -/
def ds_l_pairs : DS := (dSeq (dIf (dOr (dNot (dB (dCB fIsi (dCons (dVar 0) (dCons (dC (.ty "list")) dNil))))) (dB (d2 fNe (dCB fLen (dCons (dVar 0) dNil)) (dCB fLen (dCons (dVar 1) dNil))))) (dRet (dC (.bl false))) dNext)
  (dSeq (dFor (dIZ (dCons (dVarV 0) (dCons (dVarV 1) dNil))) (gT 2 (gsCons (gN 2) (gsCons (gN 3) gsNil))) (dIf (dOr (dNot (dB (dCB fIsi (dCons (dVar 2) (dCons (dC (.ty "tuple")) dNil))))) (dNot (dB (dCall 2 fs_l_ints [] (dCons (dCB fList (dCons (dVar 2) dNil)) (dCons (dCB fList (dCons (dVar 3) dNil)) dNil)))))) (dRet (dC (.bl false))) dNext))
  (dRet (dC (.bl true)))))
/-- slots: 0 _law_keys, 1 _law_handed, 2 _law_runs_here, 3 _law_order -/
def ds_l_told : DS := (dSeq (dAsg 1 (dCB fList (dCons (dVar 0) dNil)))
  (dSeq (dAsg 2 (dCall 1 fs_runs_of [] (dCons (dVarV 1) dNil)))
  (dSeq (dAsg 3 (dCallZ 1 fs_merge_order (dCons (dVarV 1) dNil)))
  (dSeq (dIf (dOr (dB (d2 fNeD (dVar 1) (dVar 0))) (dNot (dB (dCallB 2 fs_l_pairs [] (dCons (dVar 2) (dCons (dCall 1 fs_l_runs [] (dCons (dVarV 0) dNil)) dNil)))))) (dRet (dC (.bl false))) dNext)
  (dSeq (dIf (dNot (dB (dCallB 2 fs_l_sorted [] (dCons (dVar 3) (dCons (dVar 0) dNil))))) (dRet (dC (.bl false))) dNext)
  (dSeq (dIf (dNot (dB (dCall 2 fs_l_int [] (dCons (dCall 1 fs_rounds_of [] (dCons (dVarV 1) dNil)) (dCons (dCall 1 fs_l_rounds [] (dCons (dCB fLen (dCons (dVar 2) dNil)) dNil)) dNil))))) (dRet (dC (.bl false))) dNext)
  (dSeq (dDrop (dMut 2 mApp (dCons (dTup (dCons (dC (.int 0)) (dCons (dC (.int 0)) dNil))) dNil)))
  (dSeq (dDrop (dMut 3 mApp (dCons (dC (.int 0)) dNil)))
  (dSeq (dIf (dNot (dB (dCallB 2 fs_l_pairs [] (dCons (dCall 1 fs_runs_of [] (dCons (dVarV 1) dNil)) (dCons (dCall 1 fs_l_runs [] (dCons (dVarV 0) dNil)) dNil))))) (dRet (dC (.bl false))) dNext)
  (dRet (dAndV (dCallB 2 fs_l_sorted [] (dCons (dCallZ 1 fs_merge_order (dCons (dVarV 1) dNil)) (dCons (dVar 0) dNil))) (d2 fEqD (dVar 1) (dVar 0)))))))))))))
/-- slots: 0 _law_script, 1 _law_pool, 2 _law_keys -/
def ds_law : DS := (dSeq (dAsg 1 (dCall 1 fs_l_digits [] (dCons (dVarV 0) dNil)))
  (dSeq (dAsg 2 (dCall 1 fs_l_drawn [] (dCons (dVar 1) dNil)))
  (dSeq (dIf (dOr (dNot (dB (dCall 1 fs_l_told [] (dCons (dVarV 2) dNil)))) (dNot (dB (dCall 1 fs_l_told [] (dCons (d1 fRev (dVar 2)) dNil))))) (dRet (dC (.bl false))) dNext)
  (dSeq (dIf (dAnd (dB (d2 fEq (dCall 2 fs_l_draw [] (dCons (dVar 1) (dCons (dC (.int 8)) dNil))) (dC (.int 7)))) (dNot (dB (dCall 1 fs_l_told [] (dCons (dSl fSlL (d2 fRep (dVar 2) (dC (.int 999))) dNo (dPart (d2 fSub (dC (.int 999)) (dCall 2 fs_l_draw [] (dCons (dVar 1) (dCons (dC (.int 3)) dNil)))))) dNil))))) (dRet (dC (.bl false))) dNext)
  (dRet (dAndV (dCall 1 fs_l_told [] (dCons (d2 fCat (dSl fSlL (dVar 2) (dPart (dC (.int 1))) dNo) (dSl fSlL (dVar 2) dNo (dPart (dC (.int 1))))) dNil)) (dCall 1 fs_l_told [] (dCons (dVarV 2) dNil))))))))
local macro_rules | `(tactic| walk_at "dd") => `(tactic| simp only [dSeq, dNext, dDrop, dRet, dRetN, dBreak, dCont, dIf, dAsg, gN, gsNil, gsCons, gT, dAsgG, dAug, dMut, isL, mApp, mPopAt, mPop, dSetI, RS.kept, dC, dVar, dVarV, dVarM, look, put, d2, d1, RS.ok, RS.data, OC.data, dNil, dCons, RS.fz, dCB, dCall, dCallB, dCallZ, noNew, flatR, flatD, ownIx, argsOf, upds, putC,
  fI0, fI, fU, fEq, fNe, fIsN, fNotN, fAddS, fLtS, fCat, fRep, fIxL, fIxT, fIxS, fLen, fLenS, fInt, fAbs, fI2, fSum, fMin, fMax, fAll, fAny, fList, fTuple, fIsi, fEqD, fNeD, dNo, dPart, dSl, fSlL, fRev, allV, dLst, dTup, dB, dAnd, dOr, dNot, dAndV, dOrV, dNotV, dIfE, dTru, dChain, dIL, dIT, dIR1, dIR2, dIR3, dIZ, dIE, dIV, dYes, dLRg1, dLRg2, dFr, dSt, meltR,
  fAdd, fSub, fMul, fDiv, fMod, fMulW, fDivW, fPow, fLt, fLe, fGt, fGe, fNeg, fMin2, fMax2, startG, endsOf_nx, endsOf_rt, endsOf_bk, OutP, wipeG, restore, keepV,
  List.map_cons, List.map_nil, List.length_cons, List.length_nil, List.cons_append, List.nil_append, List.append_nil, List.replicate, true_and, and_true, decide_eq_true_eq, decide_eq_false_iff_not, Bool.not_eq_true', Bool.not_eq_false', forall_const, false_implies, true_implies, List.nodup_cons, List.not_mem_nil, not_false_eq_true, List.nodup_nil, Nat.add_zero, Nat.zero_add, Nat.reduceAdd, Nat.reduceSub, Nat.reduceLeDiff, Nat.reduceMul,
  kb_ii, kb_ib, kb_il, kb_it, kb_is, kb_bi, kb_bb, kb_li, kb_ll, kb_lt, kb_ti, kb_tt, kb_tl, kb_si, kb_sb, kb_ss, kb_ni, kb_nl, kb_nt, Option.some.injEq, exists_eq_left', exists_eq_left, Bool.true_eq_false, Bool.false_eq_true, reduceCtorEq, implies_true, Sx.own.injEq, own_ex, exists_eq', dOk_ints, dOk_nil, deq_ints, deq_ints_nil,  List.length_map, List.length_reverse, List.map_map, Sx.val.injEq, atI_zero, ixN_s0, seqIx_s0, List.set_cons_zero, List.eraseIdx_cons_zero, List.getElem?_cons_zero, rg_snoc, natD, prD, dLc_eq, dFor_eq, dWhile_eq, not_true_eq_false, decide_true, decide_false])
local macro_rules | `(tactic| walk_at "ds") => `(tactic| (refine q_seq ?_; walk_at "dd"))
local macro_rules | `(tactic| walk_at "dn") => `(tactic| (refine q_later (q_seq ?_); walk_at "dd"))
local macro_rules | `(tactic| walk_at "de") => `(tactic| (refine q_later ?_; walk_at "dd"))

/-! ### keys: order, sameness -/
theorem ok_str {n : Nat} {s : Str} (h : PyData.strOk s = true) : dOkN n (.str s) = true := by
  unfold dOkN
  simp only [D.pure, D.py, PyData.canLay0, PyData.depth, Bool.true_and, decide_eq_true_eq, h]
  exact Nat.zero_le _
theorem ok_ky {k : Ky} (h : k.ok = true) : dOkN 1 k.d = true := by
  cases k with
  | n i => exact ok_mono (ok_int i) (by decide)
  | w s => exact ok_str h
  | p i s =>
    have := ok_tup (f := fun d : D => d) (n := 0) (xs := [.int i, .str s]) (fun x hx => by
      rcases List.mem_cons.mp hx with rfl | hx
      · exact ok_int i
      · rcases List.mem_singleton.mp hx with rfl
        exact ok_str h)
    exact this
theorem dOk_ky {k : Ky} (h : k.ok = true) : dOk k.d = true := dOk_of (ok_ky h) (by decide)
theorem dOk_kys {ks : List Ky} (h : ∀ k ∈ ks, k.ok = true) : dOk (.lst (ks.map Ky.d)) = true := dOk_of (ok_lst fun x hx => ok_ky (h x hx)) (by decide)
theorem dec_int {i j : Int} : (i == j) = decide (i = j) := Bool.beq_eq_decide_eq i j
theorem dec_str {s t : Str} : (s == t) = decide (s = t) := by
  by_cases z : s = t
  · subst z; simp
  · rw [decide_eq_false z]; exact beq_eq_false_iff_ne.mpr z
theorem deq_ky (a b : Ky) : deq a.d b.d = decide (a = b) := by
  unfold deq
  cases a <;> cases b <;> simp only [Ky.d, D.py, pyAll, PyData.eqv, PyData.eqvAll, dec_int, dec_str, Bool.and_true]
  all_goals first
    | (rename_i x y; by_cases h : x = y <;> simp [h])
    | simp
theorem eqF_ky : EqF Ky.d (fun _ => True) := fun x y _ _ => deq_ky x y
theorem deq_kys (xs ys : List Ky) : deq (.lst (xs.map Ky.d)) (.lst (ys.map Ky.d)) = decide (xs = ys) := deq_lst eqF_ky (fun _ _ => trivial) fun _ _ => trivial
theorem deq_kys_nil (xs : List Ky) : deq (.lst (xs.map Ky.d)) (.lst []) = decide (xs = []) := deq_kys xs []
theorem fLtK_ky {a b : Ky} (h : a.kind = b.kind) (q : RS → Prop) : fLtK a.d b.d q = q (.val (.bl (a.lt b))) := by
  cases a <;> cases b <;> first | (simp [Ky.kind] at h; done) | simp [Ky.d, fLtK, Ky.lt, slt, likeD, eqW', ltD]
theorem str_ext {s t : Str} (h : s.cps.toList = t.cps.toList) : s = t := by
  cases s; cases t
  simp only at h
  congr 1
  exact Array.toList_inj.mp h
theorem slt_irr (s : Str) : slt s s = false := decide_eq_false (List.lt_irrefl _)
theorem slt_trans {a b c : Str} (h : slt a b = true) (k : slt b c = true) : slt a c = true := decide_eq_true (List.lt_trans (of_decide_eq_true h) (of_decide_eq_true k))
theorem slt_tri (a b : Str) : slt a b = true ∨ a = b ∨ slt b a = true := by
  rcases Classical.em (a.cps.toList < b.cps.toList) with h | h
  · exact .inl (decide_eq_true h)
  · rcases Classical.em (b.cps.toList < a.cps.toList) with k | k
    · exact .inr (.inr (decide_eq_true k))
    · exact .inr (.inl (str_ext (List.le_antisymm (List.not_lt.mp k) (List.not_lt.mp h))))
theorem lt_irr (a : Ky) : a.lt a = false := by
  cases a <;> simp [Ky.lt, slt_irr]
theorem lt_trans {a b c : Ky} (h : a.lt b = true) (k : b.lt c = true) : a.lt c = true := by
  cases a <;> cases b <;> cases c <;> simp only [Ky.lt, decide_eq_true_eq, Bool.false_eq_true] at h k ⊢
  · omega
  · exact slt_trans h k
  · rename_i i s j t l u
    by_cases e1 : i = j
    · subst e1
      by_cases e2 : i = l
      · subst e2
        simp only [if_true] at h k ⊢
        exact slt_trans h k
      · simp only [if_true, if_neg e2] at h k ⊢
        exact k
    · by_cases e2 : j = l
      · subst e2
        simp only [if_true, if_neg e1] at h k ⊢
        exact h
      · simp only [if_neg e1, if_neg e2] at h k ⊢
        have h' := of_decide_eq_true h
        have k' := of_decide_eq_true k
        rw [if_neg (by omega)]
        exact decide_eq_true (by omega)
theorem lt_tri {a b : Ky} (h : a.kind = b.kind) : a.lt b = true ∨ a = b ∨ b.lt a = true := by
  cases a <;> cases b <;> first | (simp [Ky.kind] at h; done) | skip
  · simp only [Ky.lt, decide_eq_true_eq, Ky.n.injEq]; omega
  · simpa only [Ky.lt, Ky.w.injEq] using slt_tri _ _
  · rename_i i s j t
    simp only [Ky.lt, decide_eq_true_eq, Ky.p.injEq]
    by_cases e : i = j
    · subst e
      simpa using slt_tri s t
    · rw [if_neg e, if_neg fun z => e z.symm]
      simp only [decide_eq_true_eq, e, false_and, false_or]
      omega
theorem kAt_of {ks : List Ky} {i : Nat} (h : i < ks.length) : ks[i]? = some (kAt ks i) := by
  unfold kAt
  rw [List.getD_eq_getElem?_getD, List.getElem?_eq_getElem h]
  rfl
theorem kAt_mem {ks : List Ky} {i : Nat} (h : i < ks.length) : kAt ks i ∈ ks := List.mem_of_getElem? (kAt_of h)
theorem kAtI {ks : List Ky} {i : Nat} (h : i < ks.length) : atI (ks.map Ky.d) (i : Int) = some (kAt ks i).d := atI_map (by
  rw [atI_ofNat h]
  have := kAt_of h
  rw [List.getElem?_eq_getElem h] at this
  exact this)
theorem kind_of {ks : List Ky} (h : Keys ks) {i j : Nat} (hi : i < ks.length) (hj : j < ks.length) : (kAt ks i).kind = (kAt ks j).kind := by
  obtain ⟨⟨k, hk⟩, _⟩ := h
  rw [hk _ (kAt_mem hi), hk _ (kAt_mem hj)]
theorem kok {ks : List Ky} (h : Keys ks) {i : Nat} (hi : i < ks.length) : (kAt ks i).ok = true := h.2 _ (kAt_mem hi)
theorem natI {l : List Nat} {i : Nat} (h : i < l.length) : atI (l.map natD) (i : Int) = some (natD l[i]) := atI_map (atI_ofNat h)
/-! ### the order of places -/
theorem Rl.trans {ks : List Ky} {a b c : Nat} (h : Rl ks a b) (k : Rl ks b c) : Rl ks a c := by
  rcases h with h | ⟨h1, h2⟩ <;> rcases k with k | ⟨k1, k2⟩
  · exact .inl (lt_trans h k)
  · exact .inl (by unfold ltA at h ⊢; rw [← k1]; exact h)
  · exact .inl (by unfold ltA at k ⊢; rw [h1]; exact k)
  · exact .inr ⟨h1.trans k1, by omega⟩
theorem Rl.not {ks : List Ky} {a b : Nat} (h : Rl ks a b) : ltA ks b a = false := by
  unfold ltA
  cases e : (kAt ks b).lt (kAt ks a) with
  | false => rfl
  | true =>
    rcases h with h | ⟨h1, h2⟩
    · exact (Bool.noConfusion ((lt_irr _).symm.trans (lt_trans h e)))
    · rw [h1, lt_irr] at e; cases e
theorem Rl.lt {ks : List Ky} {a b : Nat} (h : Rl ks a b) (e : kAt ks b = kAt ks a) : a < b := by
  rcases h with h | ⟨_, h2⟩
  · unfold ltA at h; rw [e, lt_irr] at h; cases h
  · exact h2
theorem Rl.of {ks : List Ky} {a b : Nat} (hk : (kAt ks a).kind = (kAt ks b).kind) (h : ltA ks b a = false) (l : a < b) : Rl ks a b := by
  rcases lt_tri hk with z | z | z
  · exact .inl z
  · exact .inr ⟨z, l⟩
  · unfold ltA at h; rw [h] at z; cases z
theorem pool_cons {x : Int} {xs : List Int} (h : Pool (x :: xs)) : (0 ≤ x ∧ x < 2 ^ 200) ∧ Pool xs := ⟨h.1 x List.mem_cons_self, fun y hy => h.1 y (List.mem_cons_of_mem _ hy), by have := h.2; simp at this; omega⟩
theorem pool_of {x : Int} {xs : List Int} (h : Pool xs) (hl : xs.length ≤ 62) (h0 : 0 ≤ x) (h1 : x < 2 ^ 200) : Pool (x :: xs) := ⟨fun y hy => by
  rcases List.mem_cons.mp hy with rfl | hy
  · exact ⟨h0, h1⟩
  · exact h.1 y hy, by simp; omega⟩
theorem pure_l_draw (as : List Sx) (p : RS → List Sx → Prop) (hl : as.length = 2) (h : fs_l_draw as p) : ds_l_draw (endsOf as p) (startG 3 as) := by
  obtain ⟨ms, m, rfl, hp, h0, h1, k⟩ := h
  unfold ds_l_draw
  walk_at "ds"
  refine ⟨fun e => k 0 ms (by omega) h0 hp, fun ne => ?_⟩
  cases ms with
  | nil => exact absurd rfl ne
  | cons x xs =>
  have hlen : xs.length ≤ 62 := by have := hp.2; simp at this; omega
  obtain ⟨⟨hx0, hx1⟩, hxs⟩ := pool_cons hp
  walk_at "dn"
  refine ⟨h0, ?_⟩
  walk_at "dn"
  refine ⟨divW h0 h1, ?_⟩
  walk_at "dn"
  refine ⟨fun e => ?_, fun e => ?_⟩
  · refine ⟨by decide, by decide, 0, _, rfl, rfl, ?_⟩
    walk_at "de"
    exact k _ _ (Int.emod_nonneg _ (by omega)) (Int.emod_lt_of_pos _ h0) hxs
  · walk_at "de"
    exact k (x % m) (x / m :: xs) (Int.emod_nonneg _ (by omega)) (Int.emod_lt_of_pos _ h0) (pool_of hxs hlen (Int.ediv_nonneg hx0 (by omega)) (Int.lt_of_le_of_lt (Int.ediv_le_self _ hx0) hx1))
theorem pure_l_number (as : List Sx) (p : RS → List Sx → Prop) (hl : as.length = 2) (h : fs_l_number as p) : ds_l_number (endsOf as p) (startG 4 as) := by
  obtain ⟨ms, i, rfl, hp, h0, h1, k⟩ := h
  unfold ds_l_number
  walk_at "ds"
  refine ⟨ms, 5, rfl, hp, by decide, by decide, fun d ms' d0 d1 hp' => ?_⟩
  walk_at "dd"
  refine q_later (q_seq ?_)
  unfold dIf
  walk_at "dd"
  refine ⟨fun _ => ?_, fun _ => ?_⟩
  · refine ⟨ms', 1999999999, rfl, hp', by decide, by decide, fun d2 ms2 e0 e1 hp2 => ?_⟩
    walk_at "dd"
    exact ⟨by decide, fun _ => ⟨⟨by decide, by decide⟩, k _ _ hp2⟩, fun _ => ⟨⟨by decide, by decide⟩, k _ _ hp2⟩⟩
  · walk_at "de"
    refine ⟨ms', 5, rfl, hp', by decide, by decide, fun d2 ms2 e0 e1 hp2 => ?_⟩
    walk_at "dd"
    exact ⟨.inl ⟨by decide, by decide⟩, by decide, k _ _ hp2⟩
theorem pure_l_digits (as : List Sx) (p : RS → List Sx → Prop) (hl : as.length = 1) (h : fs_l_digits as p) : ds_l_digits (endsOf as p) (startG 2 as) := by
  obtain ⟨ns, rfl, k⟩ := h
  unfold ds_l_digits
  walk_at "dd"
  have hc : (cut ns none (some 63)).length ≤ 63 := by rw [cut_to (by decide), List.length_take]; exact Nat.min_le_left _ _
  refine lc_ok (by omega) (fun i acc γ => γ = [.val (.scr ns), .no] ∧ ∃ ms : List Int, acc = ms.map D.int ∧ ms.length ≤ i ∧ ∀ x ∈ ms, 0 ≤ x ∧ x < 2 ^ 200) ⟨rfl, [], rfl, Nat.le_refl _, fun x h => by cases h⟩ ?_ ?_
  · rintro i _ _ hi ⟨rfl, ms, rfl, hm, hms⟩ x hx
    simp only [List.getElem?_map, Option.map_eq_some_iff] at hx
    obtain ⟨v, hv, rfl⟩ := hx
    walk_at "dd"
    refine ⟨⟨by decide, by decide, by decide⟩, by decide, ms ++ [_], map_snoc, by simp; omega, fun x hx => ?_⟩
    rcases List.mem_append.mp hx with h | h
    · exact hms x h
    · rw [List.mem_singleton.mp h]
      have h1 : (0 : Int) < 10 ^ Int.toNat 60 := by decide
      have h2 : (10 : Int) ^ Int.toNat 60 < 2 ^ 200 := by decide
      exact ⟨Int.emod_nonneg _ (by omega), Int.lt_trans (Int.emod_lt_of_pos _ h1) h2⟩
  · rintro _ _ ⟨rfl, ms, rfl, hm, hms⟩
    walk_at "dd"
    exact k ms ⟨hms, by omega⟩
theorem pure_l_int (as : List Sx) (p : RS → List Sx → Prop) (hl : as.length = 2) (h : fs_l_int as p) : ds_l_int (endsOf as p) (startG 2 as) := by
  obtain ⟨a, rfl, k⟩ := h
  unfold ds_l_int
  walk_at "dd"
  exact k
theorem pure_l_ints (as : List Sx) (p : RS → List Sx → Prop) (hl : as.length = 2) (h : fs_l_ints as p) : ds_l_ints (endsOf as p) (startG 3 as) := by
  obtain ⟨xs, rfl, hx, k⟩ := h
  unfold ds_l_ints
  walk_at "ds"
  walk_at "de"
  refine ⟨by omega, by omega, lc_ok (by omega) (fun i acc γ => γ = [.val (.lst (intsD xs)), .val (.lst (intsD xs)), .no] ∧ acc = (List.range i).map fun _ => .bl true) ⟨rfl, rfl⟩ ?_ ?_⟩
  · rintro i _ _ hi ⟨rfl, rfl⟩ _ rfl
    have hi' : i < xs.length := by omega
    have e := atI_map (f := D.int) (atI_ofNat hi')
    walk_at "dd"
    refine ⟨_, e, _, e, _, rfl, ?_⟩
    walk_at "dd"
  · rintro _ _ ⟨rfl, rfl⟩
    walk_at "dd"
    refine ⟨(List.range (xs.length : Int).toNat).map fun _ => true, by rw [List.map_map]; rfl, ?_⟩
    rw [show ((List.range (xs.length : Int).toNat).map fun _ => true).all id = true by simp]
    exact k
theorem pure_l_pairs (as : List Sx) (p : RS → List Sx → Prop) (hl : as.length = 2) (h : fs_l_pairs as p) : ds_l_pairs (endsOf as p) (startG 4 as) := by
  obtain ⟨ps, rfl, hx, k⟩ := h
  unfold ds_l_pairs
  walk_at "ds"
  walk_at "dn"
  refine for_ok (fun i γ => ∃ s t, γ = [.val (.lst (prsD ps)), .val (.lst (prsD ps)), s, t]) ⟨_, _, rfl⟩ ?_ ?_
  · rintro i _ hi ⟨s, t, rfl⟩ _ ⟨x, y, hx, hy, rfl⟩
    rw [List.getElem?_map] at hx hy
    rw [hx] at hy
    obtain rfl : x = y := Option.some.inj hy
    obtain ⟨⟨a, b⟩, h1, rfl⟩ := Option.map_eq_some_iff.mp hx
    unfold prD
    walk_at "dd"
    refine ⟨[(a : Int), (b : Int)], rfl, by simp, ?_⟩
    walk_at "dd"
    exact ⟨_, _, rfl⟩
  · rintro _ ⟨s, t, rfl⟩
    walk_at "dd"
    walk_at "de"
    exact k
def hstep (s : Nat × Nat) : Nat × Nat := if 1 < s.1 then (s.1 - s.1 / 2, s.2 + 1) else s
def hit : Nat → Nat × Nat → Nat × Nat
  | 0, s => s
  | i + 1, s => hstep (hit i s)
theorem hit_s {i : Nat} {s : Nat × Nat} : hit (i + 1) s = hstep (hit i s) := rfl
theorem hit_rds : ∀ m < 1001, m ≤ 2 ^ (hit 10 (m, 0)).2 ∧ ((hit 10 (m, 0)).2 = 0 ∨ 2 ^ ((hit 10 (m, 0)).2 - 1) < m) := by decide +kernel
theorem pure_l_rounds (as : List Sx) (p : RS → List Sx → Prop) (hl : as.length = 1) (h : fs_l_rounds as p) : ds_l_rounds (endsOf as p) (startG 3 as) := by
  obtain ⟨m, rfl, hm, k⟩ := h
  unfold ds_l_rounds
  walk_at "ds"
  walk_at "dn"
  refine ⟨by decide, by decide, for_ok (fun i γ => ∃ s, γ = [.val (.int ((hit i (m, 0)).1 : Int)), .val (.int ((hit i (m, 0)).2 : Int)), s]) ⟨_, rfl⟩ ?_ ?_⟩
  · rintro i _ hi ⟨s, rfl⟩ _ rfl
    rw [hit_s]
    unfold hstep
    generalize hit i (m, 0) = z
    obtain ⟨x, c⟩ := z
    walk_at "dd"
    refine ⟨fun h => ⟨⟨by decide, by decide⟩, .val (.int i), ?_⟩, fun h => ⟨.val (.int i), ?_⟩⟩
    · rw [if_pos (by omega)]
      congr 3
      · congr 1; omega
    · rw [if_neg (by omega)]
  · rintro _ ⟨s, rfl⟩
    walk_at "dd"
    walk_at "de"
    exact k _ (hit_rds m (by omega))
theorem pure_l_sorted (as : List Sx) (p : RS → List Sx → Prop) (hl : as.length = 2) (h : fs_l_sorted as p) : ds_l_sorted (endsOf as p) (startG 4 as) := by
  obtain ⟨ks, l, rfl, hk, hn, ⟨o1, o2, o3⟩, k⟩ := h
  unfold ds_l_sorted
  walk_at "ds"
  refine ⟨fun z => absurd (by rw [o1]) z, fun _ => ?_⟩
  walk_at "dn"
  walk_at "dn"
  refine for_ok (fun i γ => ∃ s u, γ = [.val (.lst (natsD l)), .val (.lst (kysD ks)), .val (.int u), s] ∧ ((i = 0 ∧ u = -1) ∨ ∃ j, i = j + 1 ∧ ∃ h : j < l.length, u = ((l[j] : Nat) : Int))) ⟨_, _, rfl, .inl ⟨rfl, rfl⟩⟩ ?_ ?_
  · rintro i _ hi ⟨s, u, rfl, hu⟩ _ hx
    rw [List.getElem?_map, List.getElem?_eq_getElem hi] at hx
    cases hx
    have hi1 : i < l.length := hi
    have b1 := o2 _ (List.getElem_mem hi1)
    unfold natD
    walk_at "ds"
    walk_at "dn"
    refine ⟨fun _ => ⟨fun z => absurd (by omega) z, fun _ => ?_⟩, fun z => absurd (by omega) z⟩
    have e1 := kAtI b1
    rcases hu with ⟨rfl, rfl⟩ | ⟨j, rfl, hj, rfl⟩
    · walk_at "dn"
      refine ⟨fun z => absurd z (by decide), fun _ => ?_⟩
      walk_at "dn"
      refine ⟨fun z => absurd z (by decide), fun _ => ?_⟩
      walk_at "de"
      exact ⟨_, _, rfl, .inr ⟨0, rfl, hi1, rfl⟩⟩
    · have b2 := o2 _ (List.getElem_mem hj)
      have e2 := kAtI b2
      have rl : Rl ks l[j] l[j + 1] := List.pairwise_iff_getElem.mp o3 j (j + 1) hj hi1 (by omega)
      walk_at "dn"
      refine ⟨fun _ => ⟨_, e1, _, e2, ?_⟩, fun z => absurd (by omega) z⟩
      rw [fLtK_ky (kind_of hk b1 b2)]
      walk_at "dd"
      refine ⟨fun z => ?_, fun _ => ?_⟩
      · have := rl.not
        unfold ltA at this
        rw [this] at z; cases z
      · walk_at "dn"
        refine ⟨fun _ => ⟨_, e1, _, e2, dOk_ky (kok hk b1), dOk_ky (kok hk b2), ?_⟩, fun z => absurd (by omega) z⟩
        refine ⟨fun z => ⟨fun w => ?_, fun w => ?_⟩, fun z => ?_⟩
        · rw [deq_ky] at z
          have := rl.lt (of_decide_eq_true z)
          omega
        · walk_at "de"
          exact ⟨_, _, rfl, .inr ⟨j + 1, rfl, hi1, rfl⟩⟩
        · walk_at "de"
          exact ⟨_, _, rfl, .inr ⟨j + 1, rfl, hi1, rfl⟩⟩
  · rintro _ ⟨s, u, rfl, hu⟩
    walk_at "dd"
    walk_at "de"
    exact k
theorem brd_s {ks : List Ky} {n : Nat} : brd ks (n + 1) = brd ks n ++ if ltA ks (n + 1) n = true then [n + 1] else [] := by
  unfold brd
  rw [List.range_succ, List.map_append, List.filter_append]
  congr 1
  simp only [List.map_cons, List.map_nil, List.filter_cons, List.filter_nil, Nat.add_sub_cancel]
theorem z_snoc {x : Nat} : ∀ (b : List Nat) (a : Nat), List.zip (a :: b) (b ++ [x]) = List.zip (a :: b) b ++ [(b.getLastD a, x)]
  | [], a => rfl
  | c :: b, a => by
    have := z_snoc (x := x) b c
    simp only [List.cons_append, List.zip_cons_cons, this]
    rw [List.getLastD_cons]
theorem z_cut {x : Nat} : ∀ (l m : List Nat), m.length ≤ l.length → List.zip (l ++ [x]) m = List.zip l m
  | l, [], _ => by simp
  | [], _ :: _, h => by simp at h
  | a :: l, b :: m, h => by
    simp only [List.cons_append, List.zip_cons_cons]
    rw [z_cut l m (by simpa using h)]
theorem prs_snoc {l : List (Nat × Nat)} {a b : Nat} : prsD l ++ [.tup [.int (a : Int), .int (b : Int)]] = prsD (l ++ [(a, b)]) := by simp [prD]
theorem brd_len {ks : List Ky} : ∀ n, (brd ks n).length ≤ n
  | 0 => Nat.le_refl _
  | n + 1 => by
    rw [brd_s, List.length_append]
    have := brd_len (ks := ks) n
    split <;> simp <;> omega
theorem runs_len {ks : List Ky} : (runsOf ks).length ≤ ks.length := by
  unfold runsOf
  split
  · simp
  · rename_i h
    have h0 : 0 < ks.length := List.length_pos_iff.mpr h
    rw [List.length_zip]
    have := brd_len (ks := ks) (ks.length - 1)
    simp
    omega
theorem pure_runs_of (as : List Sx) (p : RS → List Sx → Prop) (hl : as.length = 1) (h : fs_runs_of as p) : ds_runs_of (endsOf as p) (startG 4 as) := by
  obtain ⟨ks, rfl, hk, hn, k⟩ := h
  unfold ds_runs_of
  walk_at "ds"
  walk_at "dn"
  walk_at "dn"
  refine ⟨by decide, by decide, by omega, by omega, for_ok (fun i γ => (∃ t b, γ = [.val (.lst (kysD ks)), .own none (.lst (prsD (List.zip (0 :: b) b))), .val (.int (b.getLastD 0 : Nat)), t] ∧ b = brd ks i ∧ (i < ks.length ∨ ks = [])) ∨
    (i = ks.length ∧ ks ≠ [] ∧ ∃ s t, γ = [.val (.lst (kysD ks)), .own none (.lst (prsD (runsOf ks))), s, t])) (.inl ⟨.no, [], rfl, rfl, ?_⟩) ?_ ?_⟩
  · cases ks with
    | nil => exact .inr rfl
    | cons _ _ => exact .inl (by simp)
  · rintro i _ hi (⟨t, b, rfl, hb, hi2⟩ | ⟨z, _⟩) _ rfl
    · have hi3 : i < ks.length := by omega
      have bl := brd_len (ks := ks) i
      rw [show (1 : Int) + (i : Nat) = ((i + 1 : Nat) : Int) by omega]
      have hz : (List.zip (0 :: b) b).length < 1000000 := by rw [List.length_zip, hb]; simp; omega
      walk_at "dd"
      refine ⟨fun e => ⟨hz, ?_⟩, fun e => ?_⟩
      · have er : prsD (List.zip (0 :: b) b) ++ [.tup [.int (b.getLastD 0 : Nat), .int ((i + 1 : Nat) : Int)]] = prsD (runsOf ks) := by
          rw [prs_snoc, ← z_snoc, hb]
          unfold runsOf
          rw [if_neg (by intro z; subst z; simp at hi3), show ks.length - 1 = i by omega, show ks.length = i + 1 by omega]
        rw [er]
        exact .inr ⟨by omega, by intro z; subst z; simp at hi3, _, _, rfl⟩
      · have h1 : i + 1 < ks.length := by omega
        have e1 := kAtI h1
        have e2 : atI (kysD ks) (((i + 1 : Nat) : Int) - 1) = some (kAt ks i).d := by
          rw [show ((i + 1 : Nat) : Int) - 1 = (i : Int) by omega]
          exact kAtI hi3
        refine ⟨_, e1, _, e2, ?_⟩
        rw [fLtK_ky (kind_of hk h1 hi3)]
        walk_at "dd"
        refine ⟨fun z => ⟨hz, ?_⟩, fun z => ?_⟩
        · have er : prsD (List.zip (0 :: b) b) ++ [.tup [.int (b.getLastD 0 : Nat), .int ((i + 1 : Nat) : Int)]] = prsD (List.zip (0 :: (b ++ [i + 1])) (b ++ [i + 1])) := by
            rw [prs_snoc, ← z_snoc, ← List.cons_append, z_cut _ (b ++ [i + 1]) (by simp)]
          rw [er]
          have el : (i + 1 : Nat) = (b ++ [i + 1]).getLastD 0 := by simp [List.getLastD_eq_getLast?]
          refine .inl ⟨.val (.int ((i + 1 : Nat) : Int)), b ++ [i + 1], by rw [← el], ?_, .inl h1⟩
          rw [brd_s, if_pos (by unfold ltA; exact z), hb]
        · refine .inl ⟨_, b, rfl, ?_, .inl h1⟩
          rw [brd_s, if_neg (by unfold ltA; rw [z]; exact Bool.false_ne_true), hb, List.append_nil]
    · omega
  · rintro _ (⟨t, b, rfl, hb, hi2⟩ | ⟨_, _, s, t, rfl⟩)
    · walk_at "dd"
      walk_at "de"
      have hn0 : ks = [] := by
        rcases hi2 with h | h
        · omega
        · exact h
      subst hn0
      have hb' : b = [] := hb
      subst hb'
      exact k
    · walk_at "dd"
      walk_at "de"
      exact k
theorem kys_nil {ks : List Ky} : dOk (.lst (kysD ks)) = true → True := fun _ => trivial
theorem z_get {l m : List Nat} {i : Nat} (h1 : i < l.length) (h2 : i < m.length) : (List.zip l m).take (i + 1) = (List.zip l m).take i ++ [(l[i], m[i])] := by
  rw [List.take_succ_eq_append_getElem (by rw [List.length_zip]; omega), List.getElem_zip]
theorem pure_l_runs (as : List Sx) (p : RS → List Sx → Prop) (hl : as.length = 1) (h : fs_l_runs as p) : ds_l_runs (endsOf as p) (startG 5 as) := by
  obtain ⟨ks, rfl, hk, hn, k⟩ := h
  unfold ds_l_runs
  refine q_seq ?_
  have ok := dOk_kys hk.2
  walk_at "dd"
  refine ⟨ok, fun e => ?_, fun e => ?_⟩
  · rw [deq_kys_nil] at e
    have e' := of_decide_eq_true e
    subst e'
    exact k
  · rw [deq_kys_nil] at e
    have e' : ks ≠ [] := of_decide_eq_false e
    have h0 : 0 < ks.length := List.length_pos_iff.mpr e'
    walk_at "dn"
    refine ⟨by decide, by decide, by omega, by omega, lc_ok (by omega) (fun i acc γ => acc = natsD (brd ks i) ∧ γ = [.val (.lst (kysD ks)), .no, .no, .no, .no]) ⟨rfl, rfl⟩ ?_ ?_⟩
    · rintro i _ _ hi ⟨rfl, rfl⟩ _ rfl
      have h1 : i + 1 < ks.length := by omega
      have h2 : i < ks.length := by omega
      rw [show (1 : Int) + (i : Nat) = ((i + 1 : Nat) : Int) by omega]
      have e1 := kAtI h1
      have e2 : atI (kysD ks) (((i + 1 : Nat) : Int) - 1) = some (kAt ks i).d := by
        rw [show ((i + 1 : Nat) : Int) - 1 = (i : Int) by omega]
        exact kAtI h2
      walk_at "dd"
      refine ⟨_, e1, _, e2, ?_⟩
      rw [fLtK_ky (kind_of hk h1 h2)]
      walk_at "dd"
      refine ⟨fun z => ?_, fun z => ?_⟩
      · rw [brd_s, if_pos (by unfold ltA; exact z)]
        simp [natD]
      · rw [brd_s, if_neg (by unfold ltA; rw [z]; exact Bool.false_ne_true), List.append_nil]
    · rintro _ _ ⟨rfl, rfl⟩
      have hm : ((ks.length : Int) - 1).toNat = ks.length - 1 := by omega
      rw [hm]
      have bl := brd_len (ks := ks) (ks.length - 1)
      generalize hb : brd ks (ks.length - 1) = b at bl
      walk_at "dd"
      walk_at "dn"
      refine ⟨by omega, ?_⟩
      walk_at "dn"
      refine ⟨by omega, ?_⟩
      rw [show natsD b ++ [D.int (ks.length : Int)] = natsD (b ++ [ks.length]) by simp [natD], show D.int 0 :: natsD b = natsD (0 :: b) from rfl]
      walk_at "de"
      refine ⟨by omega, by omega, lc_ok (by omega) (fun i acc γ => acc = prsD ((List.zip (0 :: b) (b ++ [ks.length])).take i) ∧ γ = [.val (.lst (kysD ks)), .own none (.lst (natsD b)), .own none (.lst (natsD (0 :: b))), .own none (.lst (natsD (b ++ [ks.length]))), .no]) ⟨rfl, rfl⟩ ?_ ?_⟩
      · rintro i _ _ hi ⟨rfl, rfl⟩ _ rfl
        have h1 : i < (0 :: b).length := by simp; omega
        have h2 : i < (b ++ [ks.length]).length := by simp; omega
        have e1 := natI h1
        have e2 := natI h2
        walk_at "dd"
        refine ⟨_, e1, _, e2, ?_⟩
        rw [z_get h1 h2]
        simp [prD, natD]
      · rintro _ _ ⟨rfl, rfl⟩
        walk_at "dd"
        rw [List.take_of_length_le (by rw [List.length_zip]; simp)]
        unfold runsOf at k
        rw [if_neg e', hb] at k
        exact k
theorem mrg_rl {ks : List Ky} {x y : Nat} {l r : List Nat} : mrg ks (x :: l) (y :: r) = if ltA ks y x = true then y :: mrg ks (x :: l) r else x :: mrg ks l (y :: r) := by rw [mrg]
theorem mrg_rn {ks : List Ky} {x : Nat} {l : List Nat} : mrg ks (x :: l) [] = x :: mrg ks l [] := by rw [mrg]
theorem mrg_nr {ks : List Ky} {r : List Nat} : mrg ks [] r = r := by rw [mrg]
theorem nats_snoc {M : List Nat} {x : Nat} : natsD M ++ [D.int (x : Int)] = natsD (M ++ [x]) := by simp [natD]
theorem pure_merge_two (as : List Sx) (p : RS → List Sx → Prop) (hl : as.length = 3) (h : fs_merge_two as p) : ds_merge_two (endsOf as p) (startG 6 as) := by
  obtain ⟨ks, l, r, rfl, hk, hll, hr, hn, k⟩ := h
  unfold ds_merge_two
  walk_at "ds"
  walk_at "dn"
  walk_at "dn"
  refine for_ok (fun i γ => ∃ (M : List Nat) (j : Nat) (t : Sx), γ = [.val (.lst (kysD ks)), .val (.lst (natsD l)), .val (.lst (natsD r)), .own none (.lst (natsD M)), .val (.int (j : Int)), t] ∧ j ≤ r.length ∧ M ++ mrg ks (l.drop i) (r.drop j) = mrg ks l r ∧ M.length = i + j) ⟨[], 0, _, rfl, Nat.zero_le _, rfl, rfl⟩ ?_ ?_
  · rintro i _ hi ⟨M, j, t, rfl, hj, hm, hM⟩ _ hx
    rw [List.getElem?_map, List.getElem?_eq_getElem hi] at hx
    cases hx
    have hi1 : i < l.length := hi
    have b1 := hll _ (List.getElem_mem hi1)
    have dl : l.drop i = l[i] :: l.drop (i + 1) := List.drop_eq_getElem_cons hi1
    have e1 := kAtI b1
    unfold natD
    walk_at "ds"
    refine while_ok (fun m γ => ∃ (M : List Nat) (j : Nat), γ = [.val (.lst (kysD ks)), .val (.lst (natsD l)), .val (.lst (natsD r)), .own none (.lst (natsD M)), .val (.int (j : Int)), .val (.int ((l[i] : Nat) : Int))] ∧ j ≤ r.length ∧ M ++ mrg ks (l.drop i) (r.drop j) = mrg ks l r ∧ M.length = i + j ∧ m = r.length - j) (r.length - j) ⟨M, j, rfl, hj, hm, hM, rfl⟩ ?_
    rintro m _ ⟨M, j, rfl, hj, hm, hM, rfl⟩
    walk_at "dd"
    refine ⟨fun z => ?_, fun z => ?_⟩
    · have hj1 : j < r.length := by omega
      have b2 := hr _ (List.getElem_mem hj1)
      have dr : r.drop j = r[j] :: r.drop (j + 1) := List.drop_eq_getElem_cons hj1
      have e2 := natI hj1
      have e3 := kAtI b2
      refine ⟨_, e2, _, e3, _, e1, ?_⟩
      rw [fLtK_ky (kind_of hk b2 b1)]
      walk_at "dd"
      refine ⟨fun w => ⟨_, e2, by omega, ?_⟩, fun w => ?_⟩
      · refine ⟨r.length - (j + 1), by omega, M ++ [r[j]], j + 1, ?_, by omega, ?_, by simp; omega, rfl⟩
        · simp [natD]
        · rw [← hm, dl, dr, mrg_rl, if_pos (by unfold ltA; exact w)]
          simp
      · walk_at "de"
        rw [nats_snoc]
        refine ⟨by omega, M ++ [l[i]], j, _, rfl, hj, ?_, by simp; omega⟩
        rw [← hm, dl, dr, mrg_rl, if_neg (by unfold ltA; rw [w]; exact Bool.false_ne_true)]
        simp
    · walk_at "de"
      rw [nats_snoc]
      refine ⟨by omega, M ++ [l[i]], j, _, rfl, hj, ?_, by simp; omega⟩
      have dr : r.drop j = [] := List.drop_of_length_le (by omega)
      rw [← hm, dl, dr, mrg_rn]
      simp
  · rintro _ ⟨M, j, t, rfl, hj, hm, hM⟩
    walk_at "dd"
    walk_at "de"
    rw [List.drop_of_length_le (Nat.le_refl _), mrg_nr] at hm
    rw [cut_from (by omega)]
    refine ⟨by simp; omega, ?_⟩
    rw [Int.toNat_natCast, ← List.map_drop, ← List.map_append, hm]
    exact k
theorem rnd_2 {ks : List Ky} {a b : List Nat} {r : List (List Nat)} : rnd ks (a :: b :: r) = mrg ks a b :: rnd ks r := rfl
theorem frI {ls : List (List Nat)} {i : Nat} (h : i < ls.length) : atI (ls.map frD) (i : Int) = some (.fr (.lst (natsD ls[i]))) := atI_map (f := frD) (atI_ofNat h)
theorem fr_snoc {ls : List (List Nat)} {x : List Nat} : ls.map frD ++ [D.fr (.lst (natsD x))] = (ls ++ [x]).map frD := by simp [frD]
theorem rgc2 : ∀ m : Nat, m < 1001 → Builtin.Range.small 0 ((m : Int) - 1) 2 = true ∧ Builtin.Range.rangeSize 0 ((m : Int) - 1) 2 = ((m / 2 : Nat) : Int) := by decide +kernel
theorem sum_two {ls : List (List Nat)} {i : Nat} (h : i + 1 < ls.length) : ls[i].length + ls[i + 1].length ≤ (ls.map List.length).sum := by
  have h0 : ls = ls.take i ++ ls[i] :: ls[i + 1] :: ls.drop (i + 2) := by
    rw [← List.drop_eq_getElem_cons h, ← List.drop_eq_getElem_cons (show i < ls.length by omega), List.take_append_drop]
  have h1 : (ls.map List.length).sum = ((ls.take i ++ ls[i] :: ls[i + 1] :: ls.drop (i + 2)).map List.length).sum := congrArg (fun l => (List.map List.length l).sum) h0
  rw [h1]
  simp only [List.map_append, List.map_cons, List.sum_append, List.sum_cons]
  omega
theorem pure_merge_round (as : List Sx) (p : RS → List Sx → Prop) (hl : as.length = 2) (h : fs_merge_round as p) : ds_merge_round (endsOf as p) (startG 4 as) := by
  obtain ⟨ks, ls, rfl, hk, ⟨h1, h2, h3⟩, k⟩ := h
  unfold ds_merge_round
  walk_at "ds"
  walk_at "dn"
  refine ⟨by decide, by decide, by omega, by omega, ls.length / 2, ?_, for_ok (fun i γ => ∃ (M : List (List Nat)) (t : Sx), γ = [.val (.lst (kysD ks)), .val (.lst (ls.map frD)), .own none (.lst (M.map frD)), t] ∧ M ++ rnd ks (ls.drop (2 * i)) = rnd ks ls ∧ M.length = i) ⟨[], _, rfl, rfl, rfl⟩ ?_ ?_⟩
  · obtain ⟨r1, r2⟩ := rgc2 ls.length (by omega)
    exact ⟨by decide, by decide, r1, r2⟩
  · rintro i _ hi ⟨M, t, rfl, hm, hM⟩ _ rfl
    have i1 : 2 * i + 1 < ls.length := by omega
    have i0 : 2 * i < ls.length := by omega
    rw [show (0 : Int) + (i : Nat) * 2 = ((2 * i : Nat) : Int) by omega]
    have e0 := frI i0
    have e1 : atI (ls.map frD) (((2 * i : Nat) : Int) + 1) = some (.fr (.lst (natsD ls[2 * i + 1]))) := by
      rw [show ((2 * i : Nat) : Int) + 1 = ((2 * i + 1 : Nat) : Int) by omega]
      exact frI i1
    walk_at "dd"
    refine ⟨_, e0, ?_⟩
    walk_at "dd"
    refine ⟨_, e1, ?_⟩
    walk_at "dd"
    have st := sum_two i1
    refine ⟨ks, ls[2 * i], ls[2 * i + 1], rfl, hk, h1 _ (List.getElem_mem i0), h1 _ (List.getElem_mem i1), by omega, ?_⟩
    walk_at "dd"
    rw [fr_snoc]
    refine ⟨by omega, _, _, rfl, ?_, by simp; omega⟩
    rw [← hm, List.drop_eq_getElem_cons i0, List.drop_eq_getElem_cons i1, rnd_2]
    simp [Nat.mul_add]
  · rintro _ ⟨M, t, rfl, hm, hM⟩
    walk_at "dd"
    walk_at "dn"
    refine ⟨by decide, fun z => ?_, fun z => ?_⟩
    · have h0 : ls.length - 1 < ls.length := by omega
      have e : atI (ls.map frD) (-1) = some (frD ls[ls.length - 1]) := by
        refine atI_map ?_
        have hx : ixN ls.length (-1) = some (ls.length - 1) := by
          unfold ixN
          simp
          omega
        unfold atI
        rw [hx]
        exact List.getElem?_eq_getElem h0
      refine ⟨_, e, by omega, ?_⟩
      walk_at "de"
      have dl : ls.drop (2 * (ls.length / 2)) = [ls[ls.length - 1]] := by
        rw [show 2 * (ls.length / 2) = ls.length - 1 by omega, List.drop_eq_getElem_cons h0, List.drop_of_length_le (by omega)]
      rw [dl] at hm
      rw [map_snoc]
      have hm' : M ++ [ls[ls.length - 1]] = rnd ks ls := hm
      rw [hm']
      exact k
    · walk_at "de"
      rw [List.drop_of_length_le (by omega)] at hm
      have hm' : M ++ [] = rnd ks ls := hm
      rw [List.append_nil] at hm'
      rw [hm']
      exact k
theorem mrg_mem {ks : List Ky} {z : Nat} (l r : List Nat) : z ∈ mrg ks l r ↔ z ∈ l ∨ z ∈ r := by
  fun_induction mrg ks l r with
  | case1 r => simp
  | case2 x l ih => simp [ih]
  | case3 x l y r h ih => simp only [List.mem_cons, ih]; constructor <;> (intro h; rcases h with h | h | h <;> simp_all)
  | case4 x l y r h ih => simp only [List.mem_cons, ih, or_assoc]
theorem mrg_len {ks : List Ky} (l r : List Nat) : (mrg ks l r).length = l.length + r.length := by
  fun_induction mrg ks l r with
  | case1 r => simp
  | case2 x l ih => simp [ih]
  | case3 x l y r h ih => simp [ih]; omega
  | case4 x l y r h ih => simp [ih]; omega
theorem mrg_pw {ks : List Ky} (hk : Keys ks) (l r : List Nat) (h1 : ∀ i ∈ l, i < ks.length) (h2 : ∀ i ∈ r, i < ks.length) (p1 : l.Pairwise (Rl ks)) (p2 : r.Pairwise (Rl ks)) (a : ∀ x ∈ l, ∀ y ∈ r, x < y) : (mrg ks l r).Pairwise (Rl ks) := by
  fun_induction mrg ks l r with
  | case1 r => exact p2
  | case2 x l ih =>
    have := ih (fun i hi => h1 i (List.mem_cons_of_mem _ hi)) h2 (List.pairwise_cons.mp p1).2 .nil (fun _ _ _ h => by cases h)
    refine List.pairwise_cons.mpr ⟨fun z hz => ?_, this⟩
    rcases (mrg_mem _ _).mp hz with h | h
    · exact (List.pairwise_cons.mp p1).1 z h
    · cases h
  | case3 x l y r h ih =>
    have := ih h1 (fun i hi => h2 i (List.mem_cons_of_mem _ hi)) p1 (List.pairwise_cons.mp p2).2 (fun u hu v hv => a u hu v (List.mem_cons_of_mem _ hv))
    refine List.pairwise_cons.mpr ⟨fun z hz => ?_, this⟩
    rcases (mrg_mem _ _).mp hz with hz | hz
    · have hyx : Rl ks y x := .inl h
      rcases List.mem_cons.mp hz with rfl | hz
      · exact hyx
      · exact hyx.trans ((List.pairwise_cons.mp p1).1 z hz)
    · exact (List.pairwise_cons.mp p2).1 z hz
  | case4 x l y r h ih =>
    have := ih (fun i hi => h1 i (List.mem_cons_of_mem _ hi)) h2 (List.pairwise_cons.mp p1).2 p2 (fun u hu v hv => a u (List.mem_cons_of_mem _ hu) v hv)
    refine List.pairwise_cons.mpr ⟨fun z hz => ?_, this⟩
    rcases (mrg_mem _ _).mp hz with hz | hz
    · exact (List.pairwise_cons.mp p1).1 z hz
    · have hxy : Rl ks x y := Rl.of (kind_of hk (h1 x List.mem_cons_self) (h2 y List.mem_cons_self)) (by simpa using h) (a x List.mem_cons_self y List.mem_cons_self)
      rcases List.mem_cons.mp hz with rfl | hz
      · exact hxy
      · exact hxy.trans ((List.pairwise_cons.mp p2).1 z hz)
structure Good (ks : List Ky) (n : Nat) (ls : List (List Nat)) : Prop where
  pw : ∀ l ∈ ls, l.Pairwise (Rl ks)
  bd : ∀ l ∈ ls, ∀ i ∈ l, i < ks.length
  up : ls.Pairwise fun a b => ∀ x ∈ a, ∀ y ∈ b, x < y
  sm : (ls.map List.length).sum = n
theorem rnd_mem {ks : List Ky} : ∀ (ls : List (List Nat)) (l : List Nat), l ∈ rnd ks ls → ∀ x ∈ l, ∃ m ∈ ls, x ∈ m
  | [], l, h, x, hx => by cases h
  | [a], l, h, x, hx => ⟨l, h, hx⟩
  | a :: b :: r, l, h, x, hx => by
    rcases List.mem_cons.mp h with rfl | h
    · rcases (mrg_mem _ _).mp hx with h | h
      · exact ⟨a, by simp, h⟩
      · exact ⟨b, by simp, h⟩
    · obtain ⟨m, h1, h2⟩ := rnd_mem r l h x hx
      exact ⟨m, by simp [h1], h2⟩
theorem Good.rnd {ks : List Ky} (hk : Keys ks) : ∀ {n : Nat} (ls : List (List Nat)), Good ks n ls → Good ks n (rnd ks ls)
  | _, [], h => h
  | _, [a], h => h
  | n, a :: b :: r, h => by
    obtain ⟨u1, u2⟩ := List.pairwise_cons.mp h.up
    obtain ⟨u3, u4⟩ := List.pairwise_cons.mp u2
    have hs := h.sm
    simp only [List.map_cons, List.sum_cons] at hs
    have g : Good ks (r.map List.length).sum r := ⟨fun l hl => h.pw l (by simp [hl]), fun l hl => h.bd l (by simp [hl]), u4, rfl⟩
    have g' := Good.rnd hk r g
    refine ⟨fun l hl => ?_, fun l hl i hi => ?_, List.pairwise_cons.mpr ⟨fun l hl x hx y hy => ?_, g'.up⟩, ?_⟩
    · rcases List.mem_cons.mp hl with rfl | hl
      · exact mrg_pw hk a b (h.bd a (by simp)) (h.bd b (by simp)) (h.pw a (by simp)) (h.pw b (by simp)) (u1 b (by simp))
      · exact g'.pw l hl
    · rcases List.mem_cons.mp hl with rfl | hl
      · rcases (mrg_mem _ _).mp hi with h' | h'
        · exact h.bd a (by simp) i h'
        · exact h.bd b (by simp) i h'
      · exact g'.bd l hl i hi
    · obtain ⟨m, h1, h2⟩ := rnd_mem r l hl y hy
      rcases (mrg_mem _ _).mp hx with h' | h'
      · exact u1 m (by simp [h1]) x h' y h2
      · exact u3 m h1 x h' y h2
    · show ((mrg ks a b :: K67.rnd ks r).map List.length).sum = n
      rw [List.map_cons, List.sum_cons, g'.sm, mrg_len]
      omega
theorem rnd_len {ks : List Ky} : ∀ ls : List (List Nat), (rnd ks ls).length = (ls.length + 1) / 2
  | [] => rfl
  | [a] => by simp [rnd]
  | a :: b :: r => by
    rw [rnd_2, List.length_cons, rnd_len r, List.length_cons, List.length_cons]
    omega
/-! the first lists -/
def rng (p : Nat × Nat) : List Nat := List.range' p.1 (p.2 - p.1)
def fst0 (ks : List Ky) (n : Nat) : List (List Nat) := (List.zip (0 :: brd ks n) (brd ks n ++ [n + 1])).map rng
theorem brd_le {ks : List Ky} : ∀ n, ∀ x ∈ brd ks n, x ≤ n
  | 0, x, h => by cases h
  | n + 1, x, h => by
    rw [brd_s] at h
    rcases List.mem_append.mp h with h | h
    · exact Nat.le_succ_of_le (brd_le n x h)
    · split at h
      · rw [List.mem_singleton.mp h]; exact Nat.le_refl _
      · cases h
theorem lastD_mem {a : Nat} : ∀ b : List Nat, b.getLastD a = a ∨ b.getLastD a ∈ b
  | [] => .inl rfl
  | c :: b => by
    rw [List.getLastD_cons]
    rcases lastD_mem (a := c) b with h | h
    · rw [h]; exact .inr List.mem_cons_self
    · exact .inr (List.mem_cons_of_mem _ h)
theorem fst_s {ks : List Ky} (hk : Keys ks) : ∀ n, n < ks.length → (∀ l ∈ fst0 ks n, l.Pairwise (Rl ks)) ∧ (fst0 ks n).flatten = List.range (n + 1) ∧ ∃ L s, fst0 ks n = L ++ [List.range' s (n + 1 - s)] ∧ s ≤ n ∧ (brd ks n).getLastD 0 = s ∧ L = (List.zip (0 :: brd ks n) (brd ks n)).map rng
  | 0, _ => ⟨by
    intro l hl
    have : l = [0] := by simpa [fst0, brd, rng] using hl
    subst this
    simp, by simp [fst0, brd, rng], [], 0, by simp [fst0, brd, rng], Nat.le_refl _, rfl, rfl⟩
  | n + 1, hn => by
    obtain ⟨h1, h2, L, s, h3, h4, h5, h6⟩ := fst_s hk n (by omega)
    by_cases c : ltA ks (n + 1) n = true
    · have hb : brd ks (n + 1) = brd ks n ++ [n + 1] := by rw [brd_s, if_pos c]
      have hl : (brd ks n ++ [n + 1]).getLastD 0 = n + 1 := by simp [List.getLastD_eq_getLast?]
      have hz : List.zip (0 :: brd ks (n + 1)) (brd ks (n + 1)) = List.zip (0 :: brd ks n) (brd ks n ++ [n + 1]) := by
        rw [hb, ← List.cons_append, z_cut _ _ (by simp)]
      have hf : fst0 ks (n + 1) = fst0 ks n ++ [[n + 1]] := by
        unfold fst0
        rw [z_snoc, hz, hb, hl, List.map_append]
        simp [rng]
      refine ⟨fun l hl' => ?_, ?_, fst0 ks n, n + 1, ?_, Nat.le_refl _, by rw [hb, hl], ?_⟩
      · rw [hf] at hl'
        rcases List.mem_append.mp hl' with h | h
        · exact h1 l h
        · rw [List.mem_singleton.mp h]; simp
      · rw [hf, List.flatten_append, h2, List.range_succ (n := n + 1)]; simp
      · rw [hf]; simp
      · rw [hz]; rfl
    · have hb : brd ks (n + 1) = brd ks n := by rw [brd_s, if_neg c, List.append_nil]
      have hf : fst0 ks (n + 1) = L ++ [List.range' s (n + 1 + 1 - s)] := by
        unfold fst0
        rw [hb, z_snoc, List.map_append, ← h6, h5]
        rfl
      have hr : List.range' s (n + 1 + 1 - s) = List.range' s (n + 1 - s) ++ [n + 1] := by
        rw [show n + 1 + 1 - s = (n + 1 - s) + 1 by omega, List.range'_concat]
        congr 2
        omega
      have hp : (List.range' s (n + 1 - s)).Pairwise (Rl ks) := h1 _ (by rw [h3]; simp)
      refine ⟨fun l hl' => ?_, ?_, L, s, hf, by omega, by rw [hb]; exact h5, by rw [hb]; exact h6⟩
      · rw [hf] at hl'
        rcases List.mem_append.mp hl' with h | h
        · exact h1 l (by rw [h3]; exact List.mem_append_left _ h)
        · rw [List.mem_singleton.mp h, hr]
          refine List.pairwise_append.mpr ⟨hp, by simp, fun x hx y hy => ?_⟩
          rw [List.mem_singleton.mp hy]
          have step : Rl ks n (n + 1) := Rl.of (kind_of hk (by omega) hn) (by simpa using c) (by omega)
          by_cases e : x = n
          · subst e; exact step
          · have hr2 : List.range' s (n + 1 - s) = List.range' s (n - s) ++ [n] := by
              rw [show n + 1 - s = (n - s) + 1 by omega, List.range'_concat]
              congr 2
              omega
            rw [hr2] at hx hp
            rcases List.mem_append.mp hx with hx | hx
            · exact ((List.pairwise_append.mp hp).2.2 x hx n (by simp)).trans step
            · exact absurd (List.mem_singleton.mp hx) e
      · rw [h3, List.flatten_append] at h2
        rw [hf, List.flatten_append, hr]
        simp only [List.flatten_cons, List.flatten_nil, List.append_nil] at h2 ⊢
        rw [← List.append_assoc, h2, List.range_succ (n := n + 1)]
theorem good0 {ks : List Ky} (hk : Keys ks) : Good ks ks.length ((runsOf ks).map rng) := by
  unfold runsOf
  by_cases e : ks = []
  · subst e
    exact ⟨fun l h => by simp at h, fun l h => by simp at h, by simp, by simp⟩
  · rw [if_neg e]
    have h0 : 0 < ks.length := List.length_pos_iff.mpr e
    obtain ⟨h1, h2, _⟩ := fst_s hk (ks.length - 1) (by omega)
    have hf : (List.zip (0 :: brd ks (ks.length - 1)) (brd ks (ks.length - 1) ++ [ks.length])).map rng = fst0 ks (ks.length - 1) := by
      unfold fst0
      rw [show ks.length - 1 + 1 = ks.length by omega]
    rw [hf]
    rw [show ks.length - 1 + 1 = ks.length by omega] at h2
    refine ⟨h1, fun l hl i hi => ?_, ?_, ?_⟩
    · have : i ∈ (fst0 ks (ks.length - 1)).flatten := List.mem_flatten.mpr ⟨l, hl, hi⟩
      rw [h2] at this
      exact List.mem_range.mp this
    · have hp : (fst0 ks (ks.length - 1)).flatten.Pairwise (· < ·) := by rw [h2]; exact List.pairwise_lt_range
      exact (List.pairwise_flatten.mp hp).2
    · have := congrArg List.length h2
      rw [List.length_flatten, List.length_range] at this
      exact this
theorem rgD_rng {p : Nat × Nat} : rgD (p.1 : Int) (p.2 : Int) = natsD (rng p) := by
  unfold rgD rng natsD natD
  rw [show ((p.2 : Int) - (p.1 : Int)).toNat = p.2 - p.1 by omega, List.range'_eq_map_range, List.map_map]
  apply List.map_congr_left
  intro i _
  show D.int _ = D.int _
  congr 1
theorem good_len {ks : List Ky} {n : Nat} {ls : List (List Nat)} (g : Good ks n ls) (hn : n ≤ 1000) (hl : ls.length ≤ 1000) : Rws ks ls := ⟨g.bd, by rw [g.sm]; exact hn, hl⟩
theorem runs_le {ks : List Ky} : ∀ p ∈ runsOf ks, p.1 ≤ ks.length ∧ p.2 ≤ ks.length := fun p hp => by
  unfold runsOf at hp
  split at hp
  · cases hp
  · rename_i e
    have h0 : 0 < ks.length := List.length_pos_iff.mpr e
    obtain ⟨a, b⟩ := p
    obtain ⟨h1, h2⟩ := List.of_mem_zip hp
    constructor
    · rcases List.mem_cons.mp h1 with rfl | h
      · exact Nat.zero_le _
      · have := brd_le _ _ h
        simp only
        omega
    · rcases List.mem_append.mp h2 with h | h
      · have := brd_le _ _ h
        simp only
        omega
      · rw [List.mem_singleton.mp h]
        exact Nat.le_refl _
theorem pure_merge_order (as : List Sx) (p : RS → List Sx → Prop) (hl : as.length = 1) (h : fs_merge_order as p) : ds_merge_order (endsOf as p) (startG 4 as) := by
  obtain ⟨ks, rfl, hk, hn, k⟩ := h
  have hr := runs_len (ks := ks)
  unfold ds_merge_order
  walk_at "ds"
  refine ⟨ks, rfl, hk, hn, ?_⟩
  walk_at "dd"
  refine lc_ok (by omega) (fun i acc γ => γ = [.val (.lst (kysD ks)), .no, .no, .no] ∧ acc = (((runsOf ks).map rng).map frD).take i) ⟨rfl, rfl⟩ ?_ ?_
  · rintro i _ _ hi ⟨rfl, rfl⟩ _ hx
    rw [List.getElem?_map, List.getElem?_eq_getElem hi] at hx
    cases hx
    have le := runs_le _ (List.getElem_mem hi)
    have ht : ((((runsOf ks).map rng).map frD).take (i + 1)) = (((runsOf ks).map rng).map frD).take i ++ [frD (rng (runsOf ks)[i])] := by
      rw [List.take_succ_eq_append_getElem (by simpa using hi)]
      simp
    rw [List.map_map] at ht
    walk_at "dd"
    refine ⟨by omega, by omega, by omega, by omega, ?_⟩
    rw [rgD_rng, ht]
    rfl
  · rintro _ _ ⟨rfl, rfl⟩
    rw [List.take_of_length_le (by simp)]
    have g0 := good0 hk
    have l0 : ((runsOf ks).map rng).length ≤ 1000 := by simp; omega
    generalize (runsOf ks).map rng = ls at g0 l0
    walk_at "dd"
    walk_at "dn"
    refine while_ok (fun m γ => ∃ ls : List (List Nat), γ = [.val (.lst (kysD ks)), .own none (.lst (ls.map frD)), .no, .no] ∧ Good ks ks.length ls ∧ ls.length ≤ 1000 ∧ m = ls.length) ls.length ⟨ls, rfl, g0, l0, rfl⟩ ?_
    rintro m _ ⟨ls, rfl, g, hls, rfl⟩
    walk_at "dd"
    refine ⟨fun z => ?_, fun z => ?_⟩
    · refine ⟨ks, ls, rfl, hk, good_len g hn hls, ?_⟩
      have rl := rnd_len (ks := ks) ls
      walk_at "dd"
      exact ⟨(rnd ks ls).length, by omega, rnd ks ls, rfl, Good.rnd hk ls g, by omega, rfl⟩
    · unfold dTru
      walk_at "dn"
      match ls, g, z with
      | [], g, _ =>
        refine ⟨fun w => by simp at w, fun _ => ?_⟩
        walk_at "de"
        refine (k [] ⟨?_, (fun i h => by cases h), List.Pairwise.nil⟩).2
        have := g.sm
        simpa using this
      | [l], g, _ =>
        refine ⟨fun _ => ⟨frD l, atI_zero, ?_⟩, fun w => by simp at w⟩
        refine (k l ⟨?_, g.bd l (by simp), g.pw l (by simp)⟩).1
        have := g.sm
        simpa using this
      | _ :: _ :: r, _, z => exact absurd (by simp; omega) z
theorem lt_half {m q u : Nat} (h : q < m) (e : u = q * 2) (h0 : 0 < q) : m - u < m - q := by omega
theorem pure_rounds_of (as : List Sx) (p : RS → List Sx → Prop) (hl : as.length = 1) (h : fs_rounds_of as p) : ds_rounds_of (endsOf as p) (startG 4 as) := by
  obtain ⟨ks, rfl, hk, hn, k⟩ := h
  have hr := runs_len (ks := ks)
  unfold ds_rounds_of
  walk_at "ds"
  refine ⟨ks, rfl, hk, hn, ?_⟩
  walk_at "dd"
  walk_at "dn"
  walk_at "dn"
  walk_at "dn"
  generalize hm : (runsOf ks).length = m at hr k
  refine while_ok (fun t γ => ∃ r : Nat, γ = [.val (.lst (kysD ks)), .val (.int (m : Int)), .val (.int (r : Int)), .val (.int ((2 ^ r : Nat) : Int))] ∧ (r = 0 ∨ 2 ^ (r - 1) < m) ∧ t = m - 2 ^ r) (m - 1) ⟨0, by simp, .inl rfl, rfl⟩ ?_
  rintro t _ ⟨r, rfl, h1, rfl⟩
  walk_at "dd"
  refine ⟨fun z => ?_, fun z => ?_⟩
  · have z' : 2 ^ r < m := by omega
    refine ⟨.inr ⟨by decide, by decide⟩, ?_⟩
    refine ⟨m - 2 ^ (r + 1), lt_half z' (Nat.pow_succ ..) (Nat.pow_pos (by decide)), r + 1, ?_, .inr (by simpa using z'), rfl⟩
    rw [show ((2 ^ r : Nat) : Int) * 2 = ((2 ^ (r + 1) : Nat) : Int) by rw [Nat.pow_succ]; omega]
    rfl
  · walk_at "de"
    exact k r ⟨by omega, h1⟩
theorem rds_one {m r s : Nat} (h : Rds m r) (k : Rds m s) : r = s := by
  obtain ⟨h1, h2⟩ := h
  obtain ⟨k1, k2⟩ := k
  rcases Nat.lt_trichotomy r s with c | c | c
  · rcases k2 with z | z
    · omega
    · have := Nat.pow_le_pow_right (show 0 < 2 by decide) (show r ≤ s - 1 by omega)
      omega
  · exact c
  · rcases h2 with z | z
    · omega
    · have := Nat.pow_le_pow_right (show 0 < 2 by decide) (show s ≤ r - 1 by omega)
      omega
theorem nofr_kys : ∀ ks : List Ky, nofrAll (kysD ks) = true
  | [] => rfl
  | k :: ks => by
    have h : (Ky.d k).nofr = true := by cases k <;> rfl
    show ((Ky.d k).nofr && nofrAll (kysD ks)) = true
    rw [h, nofr_kys ks]
    rfl
theorem flat_nats : ∀ l : List Nat, flatAll (natsD l)
  | [] => trivial
  | _ :: l => ⟨trivial, flat_nats l⟩
theorem pure_l_told (as : List Sx) (p : RS → List Sx → Prop) (hl : as.length = 1) (h : fs_l_told as p) : ds_l_told (endsOf as p) (startG 4 as) := by
  obtain ⟨ks, rfl, hk, hn, k⟩ := h
  have hr := runs_len (ks := ks)
  have ok := dOk_kys hk.2
  unfold ds_l_told
  walk_at "ds"
  walk_at "dn"
  refine ⟨ks, rfl, hk, hn, ?_⟩
  walk_at "dd"
  walk_at "dn"
  have nf : nofrAll [D.lst (kysD ks)] = true := by
    show (nofrAll (kysD ks) && true) = true
    rw [nofr_kys]; rfl
  refine ⟨nf, ks, rfl, hk, hn, fun l ho => ⟨?_, ?_⟩⟩
  unfold frD
  all_goals
    walk_at "dd"
    refine ⟨flat_nats l, ?_⟩
    walk_at "dn"
    refine ⟨ok, ok, fun z => ?_, fun _ => ?_⟩
    · rw [deq_kys] at z
      simp at z
    refine ⟨ks, rfl, hk, hn, ?_⟩
    walk_at "dd"
    refine ⟨runsOf ks, rfl, by omega, ?_⟩
    walk_at "dd"
    walk_at "dn"
    refine ⟨ks, l, rfl, hk, hn, ho, ?_⟩
    walk_at "dd"
    walk_at "dn"
    refine ⟨ks, rfl, hk, hn, fun r hr1 => ?_⟩
    walk_at "dd"
    refine ⟨(runsOf ks).length, rfl, by omega, fun r2 hr2 => ?_⟩
    obtain rfl := rds_one hr1 hr2
    walk_at "dd"
    refine ⟨(r : Int), rfl, ?_⟩
    walk_at "dd"
    walk_at "dn"
    refine ⟨by omega, ?_⟩
    walk_at "dn"
    refine ⟨by have := ho.1; omega, ?_⟩
    walk_at "dn"
    refine ⟨ks, rfl, hk, hn, ?_⟩
    walk_at "dd"
    refine ⟨ks, rfl, hk, hn, ?_⟩
    walk_at "dd"
    refine ⟨runsOf ks, rfl, by omega, ?_⟩
    walk_at "dd"
    walk_at "de"
    refine ⟨nf, ks, rfl, hk, hn, fun l2 ho2 => ⟨?_, ?_⟩⟩
    unfold frD
    all_goals
      walk_at "dd"
      refine ⟨flat_nats l2, ?_⟩
      refine ⟨ks, l2, rfl, hk, hn, ho2, ?_⟩
      walk_at "dd"
      refine ⟨ok, ok, ?_⟩
      rw [deq_kys]
      simpa using k
theorem abc_len : (Str.ofString "abcdefghijklmnopqrstuvwxyz").cps.toList.length = 26 := by decide +kernel
theorem abc_ok : ∀ c ∈ (Str.ofString "abcdefghijklmnopqrstuvwxyz").cps.toList, PyData.strOk ⟨#[c]⟩ = true := by decide +kernel
def wrds : List Str := ["oslo", "rome", "a", "aa", "ab", "b", "paris", "pisa", "zz", "zzzzzzzz"]
theorem wrds_ok : ∀ s ∈ wrds, PyData.strOk s = true := by decide +kernel
theorem int_ix {d : Int} {n : Nat} (h0 : 0 ≤ d) (h1 : d < n) : ∃ j : Nat, d = (j : Int) ∧ j < n := ⟨d.toNat, by omega, by omega⟩
theorem ok_app {s t : Str} (h : PyData.strOk s = true) (k : PyData.strOk t = true) : PyData.strOk (s ++ t) = true := by
  unfold PyData.strOk at h k ⊢
  show (s.cps ++ t.cps).all _ = true
  rw [Array.all_append, h, k]
  rfl
theorem len_app {s t : Str} : (s ++ t).length = s.length + t.length := Str.length_append s t
theorem pure_l_word (as : List Sx) (p : RS → List Sx → Prop) (hl : as.length = 2) (h : fs_l_word as p) : ds_l_word (endsOf as p) (startG 5 as) := by
  obtain ⟨ms, i, rfl, hp, h0, h1, k⟩ := h
  unfold ds_l_word
  refine q_seq ?_
  unfold dIf
  walk_at "dd"
  refine ⟨ms, 4, rfl, hp, by decide, by decide, fun d ms' d0 d1 hp' => ?_⟩
  walk_at "dd"
  refine ⟨fun _ => ?_, fun _ => ?_⟩
  · refine ⟨ms', 8, rfl, hp', by decide, by decide, fun d2 ms2 e0 e1 hp2 => ?_⟩
    walk_at "dd"
    refine ⟨by omega, by omega, for_ok (fun n γ => ∃ (ms : List Int) (s : Str) (t : Sx), γ = [.own (some 0) (.lst (intsD ms)), .val (.int i), .no, .val (.str s), t] ∧ Pool ms ∧ PyData.strOk s = true ∧ s.length ≤ n) ⟨ms2, "", _, rfl, hp2, by decide +kernel, by decide +kernel⟩ ?_ ?_⟩
    · rintro n _ hn ⟨ms, s, t, rfl, hq, hs, hsn⟩ _ rfl
      walk_at "dd"
      refine ⟨ms, 26, rfl, hq, by decide, by decide, fun d3 ms3 f0 f1 hp3 => ?_⟩
      walk_at "dd"
      obtain ⟨j, rfl, hj⟩ := int_ix (n := 26) f0 f1
      have hj' : j < (Str.ofString "abcdefghijklmnopqrstuvwxyz").cps.toList.length := by rw [abc_len]; exact hj
      have l1 : ∀ c, (⟨#[c]⟩ : Str).length = 1 := fun _ => rfl
      refine ⟨by decide +kernel, _, atI_ofNat hj', ?_, ms3, _, _, rfl, hp3, ok_app hs (abc_ok _ (List.getElem_mem hj')), ?_⟩
      · rw [l1]; omega
      · rw [len_app, l1]; omega
    · rintro _ ⟨ms, s, t, rfl, hq, hs, hsn⟩
      walk_at "dd"
      exact k s ms hs hq
  · walk_at "dn"
    walk_at "de"
    refine ⟨ms', 10, rfl, hp', by decide, by decide, fun d2 ms2 e0 e1 hp2 => ?_⟩
    walk_at "dd"
    obtain ⟨j, hj, hj'⟩ := int_ix (d := (d2 + i) % 10) (n := wrds.length) (Int.emod_nonneg _ (by decide)) (Int.emod_lt_of_pos _ (by decide))
    rw [hj]
    exact ⟨by decide, _, atI_map (f := D.str) (atI_ofNat hj'), k _ _ (wrds_ok _ (List.getElem_mem hj')) hp2⟩
theorem pure_l_drawn (as : List Sx) (p : RS → List Sx → Prop) (hl : as.length = 1) (h : fs_l_drawn as p) : ds_l_drawn (endsOf as p) (startG 5 as) := by
  obtain ⟨ms, rfl, hp, k⟩ := h
  unfold ds_l_drawn
  walk_at "ds"
  refine ⟨ms, 3, rfl, hp, by decide, by decide, fun kd ms2 e0 e1 hp2 => ?_⟩
  walk_at "dd"
  walk_at "dn"
  walk_at "dn"
  refine ⟨ms2, 21, rfl, hp2, by decide, by decide, fun m ms3 f0 f1 hp3 => ?_⟩
  walk_at "dd"
  have m0 : 0 ≤ (m + 7) % 21 := Int.emod_nonneg _ (by decide)
  have m1 : (m + 7) % 21 < 21 := Int.emod_lt_of_pos _ (by decide)
  refine ⟨by decide, by omega, by omega, for_ok (fun i γ => ∃ (ms : List Int) (ks : List Ky) (s t : Sx), γ = [.own (some 0) (.lst (intsD ms)), .val (.int kd), .own none (.lst (kysD ks)), s, t] ∧ Pool ms ∧ ks.length = i ∧ (∀ x ∈ ks, x.kind = kd.toNat) ∧ ∀ x ∈ ks, x.ok = true) ⟨ms3, [], _, _, rfl, hp3, rfl, (fun x h => by cases h), fun x h => by cases h⟩ ?_ ?_⟩
  · rintro i _ hi ⟨ms, ks, s, t, rfl, hq, hl, h1, h2⟩ _ rfl
    have add : ∀ (x : Ky) {y : Ky}, x.kind = kd.toNat → x.ok = true → y ∈ ks ++ [x] → y.kind = kd.toNat ∧ y.ok = true := fun x y a b h => by
      rcases List.mem_append.mp h with h | h
      · exact ⟨h1 y h, h2 y h⟩
      · rw [List.mem_singleton.mp h]; exact ⟨a, b⟩
    walk_at "dd"
    refine ⟨fun z => ?_, fun z => ⟨fun w => ?_, fun w => ?_⟩⟩
    · refine ⟨ms, _, rfl, hq, by omega, by omega, fun x ms4 hp4 => ?_⟩
      walk_at "dd"
      rw [show kysD ks ++ [D.int x] = kysD (ks ++ [.n x]) by simp [Ky.d]]
      exact ⟨by omega, ms4, ks ++ [.n x], _, _, rfl, hp4, by simp; omega, fun y hy => (add _ (by rw [z]; rfl) rfl hy).1, fun y hy => (add _ (by rw [z]; rfl) rfl hy).2⟩
    · refine ⟨.inr ⟨by omega, by omega⟩, ms, _, rfl, hq, by omega, by omega, fun x ms4 hx hp4 => ?_⟩
      walk_at "dd"
      rw [show kysD ks ++ [D.str x] = kysD (ks ++ [.w x]) by simp [Ky.d]]
      exact ⟨by omega, ms4, ks ++ [.w x], _, _, rfl, hp4, by simp; omega, fun y hy => (add (.w x) (by rw [w]; rfl) hx hy).1, fun y hy => (add (.w x) (by rw [w]; rfl) hx hy).2⟩
    · refine ⟨ms, _, rfl, hq, by omega, by omega, fun x ms4 hp4 => ?_⟩
      walk_at "dd"
      refine ⟨ms4, _, rfl, hp4, by omega, by omega, fun y ms5 hy hp5 => ?_⟩
      walk_at "dd"
      have kd2 : kd = 2 := by omega
      rw [show kysD ks ++ [D.tup [.int x, .str y]] = kysD (ks ++ [.p x y]) by simp [Ky.d]]
      exact ⟨by omega, ms5, ks ++ [.p x y], _, _, rfl, hp5, by simp; omega, fun u hu => (add (.p x y) (by rw [kd2]; rfl) hy hu).1, fun u hu => (add (.p x y) (by rw [kd2]; rfl) hy hu).2⟩
  · rintro _ ⟨ms, ks, s, t, rfl, hq, hl, h1, h2⟩
    walk_at "dd"
    walk_at "de"
    exact k ks ms ⟨⟨_, h1⟩, h2⟩ (by omega) hq
theorem Keys.sub {ks ls : List Ky} (h : Keys ks) (l : ∀ x ∈ ls, x ∈ ks) : Keys ls := by
  obtain ⟨⟨k, hk⟩, ho⟩ := h
  exact ⟨⟨k, fun x hx => hk x (l x hx)⟩, fun x hx => ho x (l x hx)⟩
theorem pure_law (as : List Sx) (p : RS → List Sx → Prop) (hl : as.length = 1) (h : fs_law as p) : ds_law (endsOf as p) (startG 3 as) := by
  obtain ⟨ns, rfl, hn, k⟩ := h
  unfold ds_law
  walk_at "ds"
  refine ⟨ns, rfl, fun ms hp => ?_⟩
  walk_at "dd"
  walk_at "dn"
  refine ⟨ms, rfl, hp, fun ks ms2 hk hlen hp2 => ?_⟩
  walk_at "dd"
  walk_at "dn"
  refine ⟨ks, rfl, hk, by omega, ?_⟩
  walk_at "dd"
  have rv : (kysD ks).reverse = kysD ks.reverse := by simp
  rw [rv]
  refine ⟨ks.reverse, rfl, hk.sub fun x hx => List.mem_reverse.mp hx, by simp; omega, ?_⟩
  walk_at "dd"
  refine q_later (q_seq ?_)
  unfold dIf
  walk_at "dd"
  refine ⟨ms2, 8, rfl, hp2, by decide, by decide, fun c ms3 c0 c1 hp3 => ?_⟩
  walk_at "dd"
  refine ⟨fun _ => ⟨by decide, by decide, ?_, ms3, 3, rfl, hp3, by decide, by decide, fun d ms4 d0 d1 hp4 => ?_⟩, fun _ => ?_⟩
  · show ks.length * 999 ≤ 1000000
    omega
  · walk_at "dd"
    have cu : cut (List.replicate (Int.toNat 999) (kysD ks)).flatten none (some (999 - d)) = kysD (((List.replicate 999 ks).flatten).take (999 - d).toNat) := by
      rw [cut_to (by omega)]
      show _ = List.map Ky.d _
      rw [List.map_take, List.map_flatten, List.map_replicate]
      rfl
    rw [cu]
    refine ⟨_, rfl, hk.sub fun x hx => ?_, ?_, ?_⟩
    · have := List.mem_of_mem_take hx
      obtain ⟨l, h1, h2⟩ := List.mem_flatten.mp this
      rw [List.eq_of_mem_replicate h1] at h2
      exact h2
    · rw [List.length_take]
      omega
    walk_at "dd"
    walk_at "de"
    have cc : cut (kysD ks) (some 1) none ++ cut (kysD ks) none (some 1) = kysD (ks.drop 1 ++ ks.take 1) := by
      rw [cut_from (by decide), cut_to (by decide)]
      show _ = List.map Ky.d _
      rw [List.map_append, List.map_drop, List.map_take]
      rfl
    rw [cc]
    refine ⟨by rw [cut_from (by decide), cut_to (by decide)]; simp; omega, _, rfl, hk.sub fun x hx => ?_, by simp; omega, ?_⟩
    · rcases List.mem_append.mp hx with h | h
      · exact List.mem_of_mem_drop h
      · exact List.mem_of_mem_take h
    walk_at "dd"
    refine ⟨ks, rfl, hk, by omega, ?_⟩
    walk_at "dd"
    exact k _
  · walk_at "de"
    have cc : cut (kysD ks) (some 1) none ++ cut (kysD ks) none (some 1) = kysD (ks.drop 1 ++ ks.take 1) := by
      rw [cut_from (by decide), cut_to (by decide)]
      show _ = List.map Ky.d _
      rw [List.map_append, List.map_drop, List.map_take]
      rfl
    rw [cc]
    refine ⟨by rw [cut_from (by decide), cut_to (by decide)]; simp; omega, _, rfl, hk.sub fun x hx => ?_, by simp; omega, ?_⟩
    · rcases List.mem_append.mp hx with h | h
      · exact List.mem_of_mem_drop h
      · exact List.mem_of_mem_take h
    walk_at "dd"
    refine ⟨ks, rfl, hk, by omega, ?_⟩
    walk_at "dd"
    exact k _
/-! printed by gen.py: the text, the bodies as terms, the end -/
def topS (i : Nat) : Stmt := PySem.Challenge.pw_colonnade_k67_runs_merged.main.body.getD i (.Pass ⟨0, 0, 0, 0⟩)
abbrev s_runs_of : Stmt := topS 1
abbrev N_runs_of : List Str := ["keys", "runs", "start", "index"]
theorem sc_runs_of : FnScope N_runs_of ["keys"] (defScope s_runs_of) := ⟨rfl, rfl, rfl, by decide +kernel, rfl, by decide +kernel, by decide +kernel⟩
abbrev s_merge_two : Stmt := topS 2
abbrev N_merge_two : List Str := ["keys", "left", "right", "merged", "at", "index"]
theorem sc_merge_two : FnScope N_merge_two ["keys", "left", "right"] (defScope s_merge_two) := ⟨rfl, rfl, rfl, by decide +kernel, rfl, by decide +kernel, by decide +kernel⟩
abbrev s_merge_round : Stmt := topS 3
abbrev N_merge_round : List Str := ["keys", "lists", "merged", "at"]
theorem sc_merge_round : FnScope N_merge_round ["keys", "lists"] (defScope s_merge_round) := ⟨rfl, rfl, rfl, by decide +kernel, rfl, by decide +kernel, by decide +kernel⟩
abbrev s_merge_order : Stmt := topS 4
abbrev N_merge_order : List Str := ["keys", "lists", "start", "end"]
theorem sc_merge_order : FnScope N_merge_order ["keys"] (defScope s_merge_order) := ⟨rfl, rfl, rfl, by decide +kernel, rfl, by decide +kernel, by decide +kernel⟩
abbrev s_rounds_of : Stmt := topS 5
abbrev N_rounds_of : List Str := ["keys", "many", "rounds", "reach"]
theorem sc_rounds_of : FnScope N_rounds_of ["keys"] (defScope s_rounds_of) := ⟨rfl, rfl, rfl, by decide +kernel, rfl, by decide +kernel, by decide +kernel⟩
abbrev s_l_digits : Stmt := topS 7
abbrev N_l_digits : List Str := ["_law_script", "_law_cell"]
theorem sc_l_digits : FnScope N_l_digits ["_law_script"] (defScope s_l_digits) := ⟨rfl, rfl, rfl, by decide +kernel, rfl, by decide +kernel, by decide +kernel⟩
abbrev s_l_draw : Stmt := topS 8
abbrev N_l_draw : List Str := ["_law_pool", "_law_many", "_law_digit"]
theorem sc_l_draw : FnScope N_l_draw ["_law_pool", "_law_many"] (defScope s_l_draw) := ⟨rfl, rfl, rfl, by decide +kernel, rfl, by decide +kernel, by decide +kernel⟩
abbrev s_l_number : Stmt := topS 9
abbrev N_l_number : List Str := ["_law_pool", "_law_k", "_law_kind", "_law_size"]
theorem sc_l_number : FnScope N_l_number ["_law_pool", "_law_k"] (defScope s_l_number) := ⟨rfl, rfl, rfl, by decide +kernel, rfl, by decide +kernel, by decide +kernel⟩
abbrev s_l_word : Stmt := topS 10
abbrev N_l_word : List Str := ["_law_pool", "_law_k", "_law_known", "_law_text", "_law_at"]
theorem sc_l_word : FnScope N_l_word ["_law_pool", "_law_k"] (defScope s_l_word) := ⟨rfl, rfl, rfl, by decide +kernel, rfl, by decide +kernel, by decide +kernel⟩
abbrev s_l_drawn : Stmt := topS 11
abbrev N_l_drawn : List Str := ["_law_pool", "_law_kind", "_law_keys", "_law_k", "_law_number_here"]
theorem sc_l_drawn : FnScope N_l_drawn ["_law_pool"] (defScope s_l_drawn) := ⟨rfl, rfl, rfl, by decide +kernel, rfl, by decide +kernel, by decide +kernel⟩
abbrev s_l_int : Stmt := topS 12
abbrev N_l_int : List Str := ["_law_told_here", "_law_due"]
theorem sc_l_int : FnScope N_l_int ["_law_told_here", "_law_due"] (defScope s_l_int) := ⟨rfl, rfl, rfl, by decide +kernel, rfl, by decide +kernel, by decide +kernel⟩
abbrev s_l_ints : Stmt := topS 13
abbrev N_l_ints : List Str := ["_law_told_here", "_law_due", "_law_k"]
theorem sc_l_ints : FnScope N_l_ints ["_law_told_here", "_law_due"] (defScope s_l_ints) := ⟨rfl, rfl, rfl, by decide +kernel, rfl, by decide +kernel, by decide +kernel⟩
abbrev s_l_runs : Stmt := topS 14
abbrev N_l_runs : List Str := ["_law_keys", "_law_borders", "_law_starts", "_law_stops", "_law_k"]
theorem sc_l_runs : FnScope N_l_runs ["_law_keys"] (defScope s_l_runs) := ⟨rfl, rfl, rfl, by decide +kernel, rfl, by decide +kernel, by decide +kernel⟩
abbrev s_l_sorted : Stmt := topS 15
abbrev N_l_sorted : List Str := ["_law_order", "_law_keys", "_law_last", "_law_index"]
theorem sc_l_sorted : FnScope N_l_sorted ["_law_order", "_law_keys"] (defScope s_l_sorted) := ⟨rfl, rfl, rfl, by decide +kernel, rfl, by decide +kernel, by decide +kernel⟩
abbrev s_l_rounds : Stmt := topS 16
abbrev N_l_rounds : List Str := ["_law_many", "_law_rounds_here", "_law_k"]
theorem sc_l_rounds : FnScope N_l_rounds ["_law_many"] (defScope s_l_rounds) := ⟨rfl, rfl, rfl, by decide +kernel, rfl, by decide +kernel, by decide +kernel⟩
abbrev s_l_pairs : Stmt := topS 17
abbrev N_l_pairs : List Str := ["_law_told_here", "_law_due", "_law_one", "_law_two"]
theorem sc_l_pairs : FnScope N_l_pairs ["_law_told_here", "_law_due"] (defScope s_l_pairs) := ⟨rfl, rfl, rfl, by decide +kernel, rfl, by decide +kernel, by decide +kernel⟩
abbrev s_l_told : Stmt := topS 18
abbrev N_l_told : List Str := ["_law_keys", "_law_handed", "_law_runs_here", "_law_order"]
theorem sc_l_told : FnScope N_l_told ["_law_keys"] (defScope s_l_told) := ⟨rfl, rfl, rfl, by decide +kernel, rfl, by decide +kernel, by decide +kernel⟩
abbrev s_law : Stmt := topS 19
abbrev N_law : List Str := ["_law_script", "_law_pool", "_law_keys"]
theorem sc_law : FnScope N_law ["_law_script"] (defScope s_law) := ⟨rfl, rfl, rfl, by decide +kernel, rfl, by decide +kernel, by decide +kernel⟩
/-- what the top has written -/
structure Txt (K : PySem.W.Frag) (mg : Str → Option Value) : Type where
  f_runs_of : Addr
  d_runs_of : FuncData
  g_runs_of : mg "runs_of" = some (.ref f_runs_of)
  F_runs_of : Fun K "runs_of" "runs_of" s_runs_of f_runs_of d_runs_of
  b_runs_of : Binds K d_runs_of ["keys"] []
  f_merge_two : Addr
  d_merge_two : FuncData
  g_merge_two : mg "merge_two" = some (.ref f_merge_two)
  F_merge_two : Fun K "merge_two" "merge_two" s_merge_two f_merge_two d_merge_two
  b_merge_two : Binds K d_merge_two ["keys", "left", "right"] []
  f_merge_round : Addr
  d_merge_round : FuncData
  g_merge_round : mg "merge_round" = some (.ref f_merge_round)
  F_merge_round : Fun K "merge_round" "merge_round" s_merge_round f_merge_round d_merge_round
  b_merge_round : Binds K d_merge_round ["keys", "lists"] []
  f_merge_order : Addr
  d_merge_order : FuncData
  g_merge_order : mg "merge_order" = some (.ref f_merge_order)
  F_merge_order : Fun K "merge_order" "merge_order" s_merge_order f_merge_order d_merge_order
  b_merge_order : Binds K d_merge_order ["keys"] []
  f_rounds_of : Addr
  d_rounds_of : FuncData
  g_rounds_of : mg "rounds_of" = some (.ref f_rounds_of)
  F_rounds_of : Fun K "rounds_of" "rounds_of" s_rounds_of f_rounds_of d_rounds_of
  b_rounds_of : Binds K d_rounds_of ["keys"] []
  f_l_digits : Addr
  d_l_digits : FuncData
  g_l_digits : mg "_law_digits" = some (.ref f_l_digits)
  F_l_digits : Fun K "_law_digits" "_law_digits" s_l_digits f_l_digits d_l_digits
  b_l_digits : Binds K d_l_digits ["_law_script"] []
  f_l_draw : Addr
  d_l_draw : FuncData
  g_l_draw : mg "_law_draw" = some (.ref f_l_draw)
  F_l_draw : Fun K "_law_draw" "_law_draw" s_l_draw f_l_draw d_l_draw
  b_l_draw : Binds K d_l_draw ["_law_pool", "_law_many"] []
  f_l_number : Addr
  d_l_number : FuncData
  g_l_number : mg "_law_number" = some (.ref f_l_number)
  F_l_number : Fun K "_law_number" "_law_number" s_l_number f_l_number d_l_number
  b_l_number : Binds K d_l_number ["_law_pool", "_law_k"] []
  f_l_word : Addr
  d_l_word : FuncData
  g_l_word : mg "_law_word" = some (.ref f_l_word)
  F_l_word : Fun K "_law_word" "_law_word" s_l_word f_l_word d_l_word
  b_l_word : Binds K d_l_word ["_law_pool", "_law_k"] []
  f_l_drawn : Addr
  d_l_drawn : FuncData
  g_l_drawn : mg "_law_drawn" = some (.ref f_l_drawn)
  F_l_drawn : Fun K "_law_drawn" "_law_drawn" s_l_drawn f_l_drawn d_l_drawn
  b_l_drawn : Binds K d_l_drawn ["_law_pool"] []
  f_l_int : Addr
  d_l_int : FuncData
  g_l_int : mg "_law_int" = some (.ref f_l_int)
  F_l_int : Fun K "_law_int" "_law_int" s_l_int f_l_int d_l_int
  b_l_int : Binds K d_l_int ["_law_told_here", "_law_due"] []
  f_l_ints : Addr
  d_l_ints : FuncData
  g_l_ints : mg "_law_ints" = some (.ref f_l_ints)
  F_l_ints : Fun K "_law_ints" "_law_ints" s_l_ints f_l_ints d_l_ints
  b_l_ints : Binds K d_l_ints ["_law_told_here", "_law_due"] []
  f_l_runs : Addr
  d_l_runs : FuncData
  g_l_runs : mg "_law_runs" = some (.ref f_l_runs)
  F_l_runs : Fun K "_law_runs" "_law_runs" s_l_runs f_l_runs d_l_runs
  b_l_runs : Binds K d_l_runs ["_law_keys"] []
  f_l_sorted : Addr
  d_l_sorted : FuncData
  g_l_sorted : mg "_law_sorted" = some (.ref f_l_sorted)
  F_l_sorted : Fun K "_law_sorted" "_law_sorted" s_l_sorted f_l_sorted d_l_sorted
  b_l_sorted : Binds K d_l_sorted ["_law_order", "_law_keys"] []
  f_l_rounds : Addr
  d_l_rounds : FuncData
  g_l_rounds : mg "_law_rounds" = some (.ref f_l_rounds)
  F_l_rounds : Fun K "_law_rounds" "_law_rounds" s_l_rounds f_l_rounds d_l_rounds
  b_l_rounds : Binds K d_l_rounds ["_law_many"] []
  f_l_pairs : Addr
  d_l_pairs : FuncData
  g_l_pairs : mg "_law_pairs" = some (.ref f_l_pairs)
  F_l_pairs : Fun K "_law_pairs" "_law_pairs" s_l_pairs f_l_pairs d_l_pairs
  b_l_pairs : Binds K d_l_pairs ["_law_told_here", "_law_due"] []
  f_l_told : Addr
  d_l_told : FuncData
  g_l_told : mg "_law_told" = some (.ref f_l_told)
  F_l_told : Fun K "_law_told" "_law_told" s_l_told f_l_told d_l_told
  b_l_told : Binds K d_l_told ["_law_keys"] []
  f_law : Addr
  d_law : FuncData
  g_law : mg "law" = some (.ref f_law)
  F_law : Fun K "law" "law" s_law f_law d_law
  b_law : Binds K d_law ["_law_script"] []
  n_abs : mg "abs" = none
  n_all : mg "all" = none
  n_bool : mg "bool" = none
  n_int : mg "int" = none
  n_isinstance : mg "isinstance" = none
  n_len : mg "len" = none
  n_list : mg "list" = none
  n_range : mg "range" = none
  n_tuple : mg "tuple" = none
  n_zip : mg "zip" = none
section
variable {P : Program} {w : World} {K : PySem.W.Frag} {mg : Str → Option Value} {base : Heap}
theorem ok_runs_of (T : Txt K mg) : FnOk P w K mg base CX0 1 T.f_runs_of T.d_runs_of ["keys"] (spOf K 1 fs_runs_of) := by
  exact fn_ok (ds := ds_runs_of) T.F_runs_of sc_runs_of rfl (by decide) (fun cdv A outer s H E hr => ⟨_, by exact (ss_cons (s_set 1 sc_runs_of.nd (x_lst xa_nil))
      (ss_cons (s_set 2 sc_runs_of.nd x_int)
      (ss_cons (s_for PassesOwn.never rfl (i_r2 T.n_range (xa_cons x_int (xa_cons (x_op op_add od_add (x_cb call_len_seq cd_len T.n_len (xa_cons (xv 0) xa_nil)) x_int) xa_nil))) (g_name 3 sc_runs_of.nd) (ss_one (s_if (t_w (w_or (t_cmp op_eq od_eq (xv 3) (x_cb call_len_seq cd_len T.n_len (xa_cons (xv 0) xa_nil))) (w_or1 (t_cmp (op_ltK hr.units0) od_ltK (x_ix ix_list od_ixL (xv 0) (xv 3)) (x_ix ix_list od_ixL (xv 0) (x_op op_sub od_sub (xv 3) x_int)))))) (ss_cons (s_expr (x_mut (fun h => pe_bm PySem.F.plainAttrs_list PySem.F.slot_list_append PySem.F.type_list_append mt_append (pv 1) h) md_append (xa_cons (x_tup (xa_cons (xvV 2) (xa_cons (xvV 3) xa_nil))) xa_nil)))
      (ss_one (s_set 2 sc_runs_of.nd (xvV 3)))) ss_nil)))
      (ss_one (s_ret (xvM 1))))))⟩) pure_runs_of
theorem ok_merge_two (T : Txt K mg) : FnOk P w K mg base CX0 1 T.f_merge_two T.d_merge_two ["keys", "left", "right"] (spOf K 3 fs_merge_two) := by
  exact fn_ok (ds := ds_merge_two) T.F_merge_two sc_merge_two rfl (by decide) (fun cdv A outer s H E hr => ⟨_, by exact (ss_cons (s_set 3 sc_merge_two.nd (x_lst xa_nil))
      (ss_cons (s_set 4 sc_merge_two.nd x_int)
      (ss_cons (s_for PassesOwn.never rfl (i_list (xvV 1)) (g_name 5 sc_merge_two.nd) (ss_cons (s_while PassesOwn.never (t_w (w_and (t_cmp op_lt od_lt (xv 4) (x_cb call_len_seq cd_len T.n_len (xa_cons (xv 2) xa_nil))) (w_and1 (t_cmp (op_ltK hr.units0) od_ltK (x_ix ix_list od_ixL (xv 0) (x_ix ix_list od_ixL (xv 2) (xv 4))) (x_ix ix_list od_ixL (xv 0) (xv 5)))))) (ss_cons (s_expr (x_mut (fun h => pe_bm PySem.F.plainAttrs_list PySem.F.slot_list_append PySem.F.type_list_append mt_append (pv 3) h) md_append (xa_cons (x_ix ix_list od_ixL (xv 2) (xv 4)) xa_nil)))
      (ss_one (s_aug 4 sc_merge_two.nd x_int ip_add))))
      (ss_one (s_expr (x_mut (fun h => pe_bm PySem.F.plainAttrs_list PySem.F.slot_list_append PySem.F.type_list_append mt_append (pv 3) h) md_append (xa_cons (xvV 5) xa_nil))))))
      (ss_one (s_ret (x_op op_cat od_cat (xv 3) (x_sl sl_list sd_list (xv 2) (xo_some (xv 4)) xo_none)))))))⟩) pure_merge_two
theorem ok_merge_round (T : Txt K mg) : FnOk P w K mg base CX0 2 T.f_merge_round T.d_merge_round ["keys", "lists"] (spOf K 2 fs_merge_round) := by
  have G_merge_two := ok_merge_two (P := P) (w := w) (base := base) T
  exact fn_ok (ds := ds_merge_round) T.F_merge_round sc_merge_round rfl (by decide) (fun cdv A outer s H E hr => ⟨_, by exact (ss_cons (s_set 2 sc_merge_round.nd (x_lst xa_nil))
      (ss_cons (s_for PassesOwn.never rfl (i_r3 T.n_range (xa_cons x_int (xa_cons (x_op op_sub od_sub (x_cb call_len_seq cd_len T.n_len (xa_cons (xv 1) xa_nil)) x_int) (xa_cons x_int xa_nil)))) (g_name 3 sc_merge_round.nd) (ss_one (s_expr (x_mut (fun h => pe_bm PySem.F.plainAttrs_list PySem.F.slot_list_append PySem.F.type_list_append mt_append (pv 2) h) md_append (xa_cons (x_fr (x_call G_merge_two (hr.mono (by decide)) T.g_merge_two T.F_merge_two.kp T.b_merge_two (xa_cons (xvV 0) (xa_cons (x_st (x_ix ix_list od_ixL (xv 1) (xv 3))) (xa_cons (x_st (x_ix ix_list od_ixL (xv 1) (x_op op_add od_add (xv 3) x_int))) xa_nil))))) xa_nil)))))
      (ss_cons (s_if (t_cmp op_eq od_eq (x_op op_mod od_mod (x_cb call_len_seq cd_len T.n_len (xa_cons (xv 1) xa_nil)) x_int) x_int) (ss_one (s_expr (x_mut (fun h => pe_bm PySem.F.plainAttrs_list PySem.F.slot_list_append PySem.F.type_list_append mt_append (pv 2) h) md_append (xa_cons (x_ix ix_list od_ixL (xv 1) (x_un un_neg ud_neg x_int)) xa_nil)))) ss_nil)
      (ss_one (s_ret (xvM 2))))))⟩) pure_merge_round
theorem ok_merge_order (T : Txt K mg) : FnOk P w K mg base CX0 3 T.f_merge_order T.d_merge_order ["keys"] (spOf K 1 fs_merge_order) := by
  have G_merge_round := ok_merge_round (P := P) (w := w) (base := base) T
  have G_runs_of := ok_runs_of (P := P) (w := w) (base := base) T
  exact fn_ok (ds := ds_merge_order) T.F_merge_order sc_merge_order rfl (by decide) (fun cdv A outer s H E hr => ⟨_, by exact (ss_cons (s_setLc 1 [("start", 2), ("end", 3)] rfl sc_merge_order.nd (i_list (x_call G_runs_of (hr.mono (by decide)) T.g_runs_of T.F_runs_of.kp T.b_runs_of (xa_cons (xvV 0) xa_nil))) (blkOk_by (N := N_merge_order) (sc := defScope s_merge_order) (by decide +kernel)) (fun _ _ _ _ _ => by exact (g_tupC K rfl rfl (gs_cons (g_name 2 sc_merge_order.nd) (gs_cons (g_name 3 sc_merge_order.nd) gs_nil)))) (fun _ _ _ _ _ => by exact ts_nil) (fun _ _ _ _ _ => by exact (x_fr (x_listRg2 rfl T.n_list T.n_range (xv 2) (xv 3)))) (by decide) (sw_true rfl rfl rfl (by decide +kernel)))
      (ss_cons (s_while PassesOwn.never (t_cmp op_gt od_gt (x_cb call_len_seq cd_len T.n_len (xa_cons (xv 1) xa_nil)) x_int) (ss_one (s_set 1 sc_merge_order.nd (x_call G_merge_round (hr.mono (by decide)) T.g_merge_round T.F_merge_round.kp T.b_merge_round (xa_cons (xvV 0) (xa_cons (xvV 1) xa_nil))))))
      (ss_cons (s_if (t_tru (xv 1)) (ss_one (s_ret (x_ix ix_list od_ixL (xv 1) x_int))) ss_nil)
      (ss_one (s_ret (x_lst xa_nil))))))⟩) pure_merge_order
theorem ok_rounds_of (T : Txt K mg) : FnOk P w K mg base CX0 2 T.f_rounds_of T.d_rounds_of ["keys"] (spOf K 1 fs_rounds_of) := by
  have G_runs_of := ok_runs_of (P := P) (w := w) (base := base) T
  exact fn_ok (ds := ds_rounds_of) T.F_rounds_of sc_rounds_of rfl (by decide) (fun cdv A outer s H E hr => ⟨_, by exact (ss_cons (s_set 1 sc_rounds_of.nd (x_cb call_len_seq cd_len T.n_len (xa_cons (x_call G_runs_of (hr.mono (by decide)) T.g_runs_of T.F_runs_of.kp T.b_runs_of (xa_cons (xvV 0) xa_nil)) xa_nil)))
      (ss_cons (s_set 2 sc_rounds_of.nd x_int)
      (ss_cons (s_set 3 sc_rounds_of.nd x_int)
      (ss_cons (s_while PassesOwn.never (t_cmp op_lt od_lt (xv 3) (xv 1)) (ss_cons (s_set 3 sc_rounds_of.nd (x_op op_mul od_mul (xv 3) x_int))
      (ss_one (s_aug 2 sc_rounds_of.nd x_int ip_add))))
      (ss_one (s_ret (xvM 2)))))))⟩) pure_rounds_of
theorem ok_l_digits (T : Txt K mg) : FnOk P w K mg base CX0 1 T.f_l_digits T.d_l_digits ["_law_script"] (spOf K 1 fs_l_digits) := by
  exact fn_ok (ds := ds_l_digits) T.F_l_digits sc_l_digits rfl (by decide) (fun cdv A outer s H E hr => ⟨_, by exact (ss_one (s_ret (x_lc [("_law_cell", 1)] rfl sc_l_digits.nd (i_list (x_sl sl_list sd_list (xv 0) xo_none (xo_some x_int))) (blkOk_by (N := N_l_digits) (sc := defScope s_l_digits) (by decide +kernel)) (fun _ _ _ _ _ => by exact (g_name 1 sc_l_digits.nd)) (fun _ _ _ _ _ => by exact ts_nil) (fun _ _ _ _ _ => by exact (x_op op_mod (od_mod (K := K)) (x_cb call_abs (cd_abs (K := K)) T.n_abs (xa_cons (xv 1) xa_nil)) (x_op op_pow (od_pow (K := K)) x_int x_int))) (by decide))))⟩) pure_l_digits
theorem ok_l_draw (T : Txt K mg) : FnOk P w K mg base CX0 1 T.f_l_draw T.d_l_draw ["_law_pool", "_law_many"] (spOf K 2 fs_l_draw) := by
  exact fn_ok (ds := ds_l_draw) T.F_l_draw sc_l_draw rfl (by decide) (fun cdv A outer s H E hr => ⟨_, by exact (ss_cons (s_if (t_cmp (op_eqD hr.units) od_eqD (xv 0) (x_lst xa_nil)) (ss_one (s_ret x_int)) ss_nil)
      (ss_cons (s_set 2 sc_l_draw.nd (x_op op_mod od_mod (x_ct call_int1 cd_int T.n_int (xa_cons (x_ix ix_list od_ixL (xv 0) x_int) xa_nil)) (xv 1)))
      (ss_cons (s_setI 0 (x_op op_fdivW od_fdivW (x_ix ix_list od_ixL (xv 0) x_int) (xv 1)) x_int)
      (ss_cons (s_if (t_cmp op_eq od_eq (x_ix ix_list od_ixL (xv 0) x_int) x_int) (ss_one (s_expr (x_mut (fun h => pe_bm PySem.F.plainAttrs_list PySem.F.slot_list_pop PySem.F.type_list_pop mt_popAt (pv 0) h) md_popAt (xa_cons x_int xa_nil)))) ss_nil)
      (ss_one (s_ret (xvM 2)))))))⟩) pure_l_draw
theorem ok_l_number (T : Txt K mg) : FnOk P w K mg base CX0 2 T.f_l_number T.d_l_number ["_law_pool", "_law_k"] (spOf K 2 fs_l_number) := by
  have G_l_draw := ok_l_draw (P := P) (w := w) (base := base) T
  exact fn_ok (ds := ds_l_number) T.F_l_number sc_l_number rfl (by decide) (fun cdv A outer s H E hr => ⟨_, by exact (ss_cons (s_set 2 sc_l_number.nd (x_call G_l_draw (hr.mono (by decide)) T.g_l_draw T.F_l_draw.kp T.b_l_draw (xa_cons (xv 0) (xa_cons x_int xa_nil))))
      (ss_cons (s_if (t_cmp op_eq od_eq (xv 2) x_int) (ss_cons (s_set 3 sc_l_number.nd (x_call G_l_draw (hr.mono (by decide)) T.g_l_draw T.F_l_draw.kp T.b_l_draw (xa_cons (xv 0) (xa_cons x_int xa_nil))))
      (ss_one (s_ret (x_if (t_cmp op_eq od_eq (x_op op_mod od_mod (x_ct call_int1 cd_int T.n_int (xa_cons (xv 3) xa_nil)) x_int) x_int) (x_op op_fdiv od_fdiv (xv 3) x_int) (x_op op_sub od_sub (x_un un_neg ud_neg x_int) (x_op op_fdiv od_fdiv (xv 3) x_int)))))) ss_nil)
      (ss_one (s_ret (x_op op_mod od_mod (x_ct call_int1 cd_int T.n_int (xa_cons (x_op op_add od_add (x_call G_l_draw (hr.mono (by decide)) T.g_l_draw T.F_l_draw.kp T.b_l_draw (xa_cons (xv 0) (xa_cons x_int xa_nil))) (x_op op_mul od_mul x_int (xv 1))) xa_nil)) x_int)))))⟩) pure_l_number
theorem ok_l_word (T : Txt K mg) : FnOk P w K mg base CX0 2 T.f_l_word T.d_l_word ["_law_pool", "_law_k"] (spOf K 2 fs_l_word) := by
  have G_l_draw := ok_l_draw (P := P) (w := w) (base := base) T
  exact fn_ok (ds := ds_l_word) T.F_l_word sc_l_word rfl (by decide) (fun cdv A outer s H E hr => ⟨_, by exact (ss_cons (s_if (t_cmp op_eq od_eq (x_call G_l_draw (hr.mono (by decide)) T.g_l_draw T.F_l_draw.kp T.b_l_draw (xa_cons (xv 0) (xa_cons x_int xa_nil))) x_int) (ss_cons (s_set 3 sc_l_word.nd x_str)
      (ss_cons (s_for PassesOwn.never rfl (i_r1 T.n_range (xa_cons (x_op op_add od_add x_int (x_call G_l_draw (hr.mono (by decide)) T.g_l_draw T.F_l_draw.kp T.b_l_draw (xa_cons (xv 0) (xa_cons x_int xa_nil)))) xa_nil)) (g_name 4 sc_l_word.nd) (ss_one (s_set 3 sc_l_word.nd (x_op op_add_str od_addS (xv 3) (x_ix ix_str od_ixS x_str (x_call G_l_draw (hr.mono (by decide)) T.g_l_draw T.F_l_draw.kp T.b_l_draw (xa_cons (xv 0) (xa_cons x_int xa_nil))))))))
      (ss_one (s_ret (xvM 3))))) ss_nil)
      (ss_cons (s_set 2 sc_l_word.nd (x_lst (xa_cons x_str (xa_cons x_str (xa_cons x_str (xa_cons x_str (xa_cons x_str (xa_cons x_str (xa_cons x_str (xa_cons x_str (xa_cons x_str (xa_cons x_str xa_nil))))))))))))
      (ss_one (s_ret (x_ix ix_list od_ixL (xv 2) (x_op op_mod od_mod (x_ct call_int1 cd_int T.n_int (xa_cons (x_op op_add od_add (x_call G_l_draw (hr.mono (by decide)) T.g_l_draw T.F_l_draw.kp T.b_l_draw (xa_cons (xv 0) (xa_cons x_int xa_nil))) (xv 1)) xa_nil)) x_int))))))⟩) pure_l_word
theorem ok_l_drawn (T : Txt K mg) : FnOk P w K mg base CX0 3 T.f_l_drawn T.d_l_drawn ["_law_pool"] (spOf K 1 fs_l_drawn) := by
  have G_l_draw := ok_l_draw (P := P) (w := w) (base := base) T
  have G_l_number := ok_l_number (P := P) (w := w) (base := base) T
  have G_l_word := ok_l_word (P := P) (w := w) (base := base) T
  exact fn_ok (ds := ds_l_drawn) T.F_l_drawn sc_l_drawn rfl (by decide) (fun cdv A outer s H E hr => ⟨_, by exact (ss_cons (s_set 1 sc_l_drawn.nd (x_call G_l_draw (hr.mono (by decide)) T.g_l_draw T.F_l_draw.kp T.b_l_draw (xa_cons (xv 0) (xa_cons x_int xa_nil))))
      (ss_cons (s_set 2 sc_l_drawn.nd (x_lst xa_nil))
      (ss_cons (s_for PassesOwn.never rfl (i_r1 T.n_range (xa_cons (x_op op_mod od_mod (x_ct call_int1 cd_int T.n_int (xa_cons (x_op op_add od_add (x_call G_l_draw (hr.mono (by decide)) T.g_l_draw T.F_l_draw.kp T.b_l_draw (xa_cons (xv 0) (xa_cons x_int xa_nil))) x_int) xa_nil)) x_int) xa_nil)) (g_name 3 sc_l_drawn.nd) (ss_one (s_if (t_cmp op_eq od_eq (xv 1) x_int) (ss_one (s_expr (x_mut (fun h => pe_bm PySem.F.plainAttrs_list PySem.F.slot_list_append PySem.F.type_list_append mt_append (pv 2) h) md_append (xa_cons (x_call G_l_number (hr.mono (by decide)) T.g_l_number T.F_l_number.kp T.b_l_number (xa_cons (xv 0) (xa_cons (xvV 3) xa_nil))) xa_nil)))) (ss_one (s_if (t_cmp op_eq od_eq (xv 1) x_int) (ss_one (s_expr (x_mut (fun h => pe_bm PySem.F.plainAttrs_list PySem.F.slot_list_append PySem.F.type_list_append mt_append (pv 2) h) md_append (xa_cons (x_call G_l_word (hr.mono (by decide)) T.g_l_word T.F_l_word.kp T.b_l_word (xa_cons (xv 0) (xa_cons (x_op op_mul od_mul x_int (xv 3)) xa_nil))) xa_nil)))) (ss_cons (s_set 4 sc_l_drawn.nd (x_call G_l_number (hr.mono (by decide)) T.g_l_number T.F_l_number.kp T.b_l_number (xa_cons (xv 0) (xa_cons (xvV 3) xa_nil))))
      (ss_one (s_expr (x_mut (fun h => pe_bm PySem.F.plainAttrs_list PySem.F.slot_list_append PySem.F.type_list_append mt_append (pv 2) h) md_append (xa_cons (x_tup (xa_cons (xvV 4) (xa_cons (x_call G_l_word (hr.mono (by decide)) T.g_l_word T.F_l_word.kp T.b_l_word (xa_cons (xv 0) (xa_cons (xvV 3) xa_nil))) xa_nil))) xa_nil))))))))))
      (ss_one (s_ret (xvM 2))))))⟩) pure_l_drawn
theorem ok_l_int (T : Txt K mg) : FnOk P w K mg base CX0 1 T.f_l_int T.d_l_int ["_law_told_here", "_law_due"] (spOf K 2 fs_l_int) := by
  exact fn_ok (ds := ds_l_int) T.F_l_int sc_l_int rfl (by decide) (fun cdv A outer s H E hr => ⟨_, by exact (ss_one (s_ret (x_and (x_cb call_isi cd_isi T.n_isinstance (xa_cons (xv 0) (xa_cons (x_bty T.n_int) xa_nil))) (x_and (x_not (x_cb call_isi cd_isi T.n_isinstance (xa_cons (xv 0) (xa_cons (x_bty T.n_bool) xa_nil)))) (x_one (x_cmp op_eq od_eq (xv 0) (xv 1)))))))⟩) pure_l_int
theorem ok_l_ints (T : Txt K mg) : FnOk P w K mg base CX0 2 T.f_l_ints T.d_l_ints ["_law_told_here", "_law_due"] (spOf K 2 fs_l_ints) := by
  have G_l_int := ok_l_int (P := P) (w := w) (base := base) T
  exact fn_ok (ds := ds_l_ints) T.F_l_ints sc_l_ints rfl (by decide) (fun cdv A outer s H E hr => ⟨_, by exact (ss_cons (s_if (t_w (w_or (t_not (t_val (x_cb call_isi cd_isi T.n_isinstance (xa_cons (xv 0) (xa_cons (x_bty T.n_list) xa_nil))))) (w_or1 (t_cmp op_ne od_ne (x_cb call_len_seq cd_len T.n_len (xa_cons (xv 0) xa_nil)) (x_cb call_len_seq cd_len T.n_len (xa_cons (xv 1) xa_nil)))))) (ss_one (s_ret x_bl)) ss_nil)
      (ss_one (s_ret (x_cb (cr_all rfl) cd_all T.n_all (xa_cons (x_lc [("_law_k", 2)] rfl sc_l_ints.nd (i_r1 T.n_range (xa_cons (x_cb call_len_seq cd_len T.n_len (xa_cons (xv 1) xa_nil)) xa_nil)) (blkOk_by (N := N_l_ints) (sc := defScope s_l_ints) (by decide +kernel)) (fun _ _ _ _ _ => by exact (g_name 2 sc_l_ints.nd)) (fun _ _ _ _ _ => by exact ts_nil) (fun _ _ _ _ _ => by exact (x_callC K rfl G_l_int (hr.mono (by decide)) T.g_l_int T.F_l_int.kp T.b_l_int (xa_cons (x_ix ix_list (od_ixL (K := K)) (xv 0) (xv 2)) (xa_cons (x_ix ix_list (od_ixL (K := K)) (xv 1) (xv 2)) xa_nil)))) (by decide)) xa_nil)))))⟩) pure_l_ints
theorem ok_l_runs (T : Txt K mg) : FnOk P w K mg base CX0 1 T.f_l_runs T.d_l_runs ["_law_keys"] (spOf K 1 fs_l_runs) := by
  exact fn_ok (ds := ds_l_runs) T.F_l_runs sc_l_runs rfl (by decide) (fun cdv A outer s H E hr => ⟨_, by exact (ss_cons (s_if (t_cmp (op_eqD hr.units) od_eqD (xv 0) (x_lst xa_nil)) (ss_one (s_ret (x_lst xa_nil))) ss_nil)
      (ss_cons (s_setLc 1 [("_law_k", 4)] rfl sc_l_runs.nd (i_r2 T.n_range (xa_cons x_int (xa_cons (x_cb call_len_seq cd_len T.n_len (xa_cons (xv 0) xa_nil)) xa_nil))) (blkOk_by (N := N_l_runs) (sc := defScope s_l_runs) (by decide +kernel)) (fun _ _ _ _ _ => by exact (g_name 4 sc_l_runs.nd)) (fun _ _ _ _ _ => by exact (ts_one (t_cmp (op_ltK hr.units0) (od_ltK (K := K)) (x_ix ix_list (od_ixL (K := K)) (xv 0) (xv 4)) (x_ix ix_list (od_ixL (K := K)) (xv 0) (x_op op_sub (od_sub (K := K)) (xv 4) x_int))))) (fun _ _ _ _ _ => by exact (xvV 4)) (by decide) (sw_true rfl rfl rfl (by decide +kernel)))
      (ss_cons (s_set 2 sc_l_runs.nd (x_op op_cat od_cat (x_lst (xa_cons x_int xa_nil)) (xv 1)))
      (ss_cons (s_set 3 sc_l_runs.nd (x_op op_cat od_cat (xv 1) (x_lst (xa_cons (x_cb call_len_seq cd_len T.n_len (xa_cons (xv 0) xa_nil)) xa_nil))))
      (ss_one (s_ret (x_lc [("_law_k", 4)] rfl sc_l_runs.nd (i_r1 T.n_range (xa_cons (x_cb call_len_seq cd_len T.n_len (xa_cons (xv 2) xa_nil)) xa_nil)) (blkOk_by (N := N_l_runs) (sc := defScope s_l_runs) (by decide +kernel)) (fun _ _ _ _ _ => by exact (g_name 4 sc_l_runs.nd)) (fun _ _ _ _ _ => by exact ts_nil) (fun _ _ _ _ _ => by exact (x_tup (xa_cons (x_ix ix_list (od_ixL (K := K)) (xv 2) (xv 4)) (xa_cons (x_ix ix_list (od_ixL (K := K)) (xv 3) (xv 4)) xa_nil)))) (by decide))))))))⟩) pure_l_runs
theorem ok_l_sorted (T : Txt K mg) : FnOk P w K mg base CX0 1 T.f_l_sorted T.d_l_sorted ["_law_order", "_law_keys"] (spOf K 2 fs_l_sorted) := by
  exact fn_ok (ds := ds_l_sorted) T.F_l_sorted sc_l_sorted rfl (by decide) (fun cdv A outer s H E hr => ⟨_, by exact (ss_cons (s_if (t_w (w_or (t_not (t_val (x_cb call_isi cd_isi T.n_isinstance (xa_cons (xv 0) (xa_cons (x_bty T.n_list) xa_nil))))) (w_or1 (t_cmp op_ne od_ne (x_cb call_len_seq cd_len T.n_len (xa_cons (xv 0) xa_nil)) (x_cb call_len_seq cd_len T.n_len (xa_cons (xv 1) xa_nil)))))) (ss_one (s_ret x_bl)) ss_nil)
      (ss_cons (s_set 2 sc_l_sorted.nd (x_un un_neg ud_neg x_int))
      (ss_cons (s_for PassesOwn.never rfl (i_list (xvV 0)) (g_name 3 sc_l_sorted.nd) (ss_cons (s_if (t_w (w_or (t_not (t_val (x_cb call_isi cd_isi T.n_isinstance (xa_cons (xv 3) (xa_cons (x_bty T.n_int) xa_nil))))) (w_or1 (t_val (x_cb call_isi cd_isi T.n_isinstance (xa_cons (xv 3) (xa_cons (x_bty T.n_bool) xa_nil))))))) (ss_one (s_ret x_bl)) ss_nil)
      (ss_cons (s_if (t_not (t_chain op_le op_lt od_le od_lt x_int (xv 3) (x_cb call_len_seq cd_len T.n_len (xa_cons (xv 1) xa_nil)))) (ss_one (s_ret x_bl)) ss_nil)
      (ss_cons (s_if (t_w (w_and (t_cmp op_ge od_ge (xv 2) x_int) (w_and1 (t_cmp (op_ltK hr.units0) od_ltK (x_ix ix_list od_ixL (xv 1) (xv 3)) (x_ix ix_list od_ixL (xv 1) (xv 2)))))) (ss_one (s_ret x_bl)) ss_nil)
      (ss_cons (s_if (t_w (w_and (t_cmp op_ge od_ge (xv 2) x_int) (w_and (t_cmp (op_eqD hr.units) od_eqD (x_ix ix_list od_ixL (xv 1) (xv 3)) (x_ix ix_list od_ixL (xv 1) (xv 2))) (w_and1 (t_cmp op_le od_le (xv 3) (xv 2)))))) (ss_one (s_ret x_bl)) ss_nil)
      (ss_one (s_set 2 sc_l_sorted.nd (xvV 3))))))))
      (ss_one (s_ret x_bl)))))⟩) pure_l_sorted
theorem ok_l_rounds (T : Txt K mg) : FnOk P w K mg base CX0 1 T.f_l_rounds T.d_l_rounds ["_law_many"] (spOf K 1 fs_l_rounds) := by
  exact fn_ok (ds := ds_l_rounds) T.F_l_rounds sc_l_rounds rfl (by decide) (fun cdv A outer s H E hr => ⟨_, by exact (ss_cons (s_set 1 sc_l_rounds.nd x_int)
      (ss_cons (s_for PassesOwn.never rfl (i_r1 T.n_range (xa_cons x_int xa_nil)) (g_name 2 sc_l_rounds.nd) (ss_one (s_if (t_cmp op_gt od_gt (xv 0) x_int) (ss_cons (s_set 1 sc_l_rounds.nd (x_op op_add od_add (xv 1) x_int))
      (ss_one (s_set 0 sc_l_rounds.nd (x_op op_sub od_sub (xv 0) (x_op op_fdiv od_fdiv (xv 0) x_int))))) ss_nil)))
      (ss_one (s_ret (xvM 1)))))⟩) pure_l_rounds
theorem ok_l_pairs (T : Txt K mg) : FnOk P w K mg base CX0 3 T.f_l_pairs T.d_l_pairs ["_law_told_here", "_law_due"] (spOf K 2 fs_l_pairs) := by
  have G_l_ints := ok_l_ints (P := P) (w := w) (base := base) T
  exact fn_ok (ds := ds_l_pairs) T.F_l_pairs sc_l_pairs rfl (by decide) (fun cdv A outer s H E hr => ⟨_, by exact (ss_cons (s_if (t_w (w_or (t_not (t_val (x_cb call_isi cd_isi T.n_isinstance (xa_cons (xv 0) (xa_cons (x_bty T.n_list) xa_nil))))) (w_or1 (t_cmp op_ne od_ne (x_cb call_len_seq cd_len T.n_len (xa_cons (xv 0) xa_nil)) (x_cb call_len_seq cd_len T.n_len (xa_cons (xv 1) xa_nil)))))) (ss_one (s_ret x_bl)) ss_nil)
      (ss_cons (s_for PassesOwn.never rfl (i_zip T.n_zip (xa_cons (xvV 0) (xa_cons (xvV 1) xa_nil))) (g_tup rfl (gs_cons (g_name 2 sc_l_pairs.nd) (gs_cons (g_name 3 sc_l_pairs.nd) gs_nil))) (ss_one (s_if (t_w (w_or (t_not (t_val (x_cb call_isi cd_isi T.n_isinstance (xa_cons (xv 2) (xa_cons (x_bty T.n_tuple) xa_nil))))) (w_or1 (t_not (t_val (x_call G_l_ints (hr.mono (by decide)) T.g_l_ints T.F_l_ints.kp T.b_l_ints (xa_cons (x_ct call_list_of cd_list T.n_list (xa_cons (xv 2) xa_nil)) (xa_cons (x_ct call_list_of cd_list T.n_list (xa_cons (xv 3) xa_nil)) xa_nil)))))))) (ss_one (s_ret x_bl)) ss_nil)))
      (ss_one (s_ret x_bl))))⟩) pure_l_pairs
theorem ok_l_told (T : Txt K mg) : FnOk P w K mg base CX0 4 T.f_l_told T.d_l_told ["_law_keys"] (spOf K 1 fs_l_told) := by
  have G_l_int := ok_l_int (P := P) (w := w) (base := base) T
  have G_l_pairs := ok_l_pairs (P := P) (w := w) (base := base) T
  have G_l_rounds := ok_l_rounds (P := P) (w := w) (base := base) T
  have G_l_runs := ok_l_runs (P := P) (w := w) (base := base) T
  have G_l_sorted := ok_l_sorted (P := P) (w := w) (base := base) T
  have G_merge_order := ok_merge_order (P := P) (w := w) (base := base) T
  have G_rounds_of := ok_rounds_of (P := P) (w := w) (base := base) T
  have G_runs_of := ok_runs_of (P := P) (w := w) (base := base) T
  exact fn_ok (ds := ds_l_told) T.F_l_told sc_l_told rfl (by decide) (fun cdv A outer s H E hr => ⟨_, by exact (ss_cons (s_set 1 sc_l_told.nd (x_ct call_list_of cd_list T.n_list (xa_cons (xv 0) xa_nil)))
      (ss_cons (s_set 2 sc_l_told.nd (x_call G_runs_of (hr.mono (by decide)) T.g_runs_of T.F_runs_of.kp T.b_runs_of (xa_cons (xvV 1) xa_nil)))
      (ss_cons (s_set 3 sc_l_told.nd (x_callZ G_merge_order (hr.mono (by decide)) T.g_merge_order T.F_merge_order.kp T.b_merge_order (xa_cons (xvV 1) xa_nil)))
      (ss_cons (s_if (t_w (w_or (t_cmp (op_neD hr.units) od_neD (xv 1) (xv 0)) (w_or1 (t_not (t_val (x_callB G_l_pairs (hr.mono (by decide)) T.g_l_pairs T.F_l_pairs.kp T.b_l_pairs (xa_cons (xv 2) (xa_cons (x_call G_l_runs (hr.mono (by decide)) T.g_l_runs T.F_l_runs.kp T.b_l_runs (xa_cons (xvV 0) xa_nil)) xa_nil)))))))) (ss_one (s_ret x_bl)) ss_nil)
      (ss_cons (s_if (t_not (t_val (x_callB G_l_sorted (hr.mono (by decide)) T.g_l_sorted T.F_l_sorted.kp T.b_l_sorted (xa_cons (xv 3) (xa_cons (xv 0) xa_nil))))) (ss_one (s_ret x_bl)) ss_nil)
      (ss_cons (s_if (t_not (t_val (x_call G_l_int (hr.mono (by decide)) T.g_l_int T.F_l_int.kp T.b_l_int (xa_cons (x_call G_rounds_of (hr.mono (by decide)) T.g_rounds_of T.F_rounds_of.kp T.b_rounds_of (xa_cons (xvV 1) xa_nil)) (xa_cons (x_call G_l_rounds (hr.mono (by decide)) T.g_l_rounds T.F_l_rounds.kp T.b_l_rounds (xa_cons (x_cb call_len_seq cd_len T.n_len (xa_cons (xv 2) xa_nil)) xa_nil)) xa_nil))))) (ss_one (s_ret x_bl)) ss_nil)
      (ss_cons (s_expr (x_mut (fun h => pe_bm PySem.F.plainAttrs_list PySem.F.slot_list_append PySem.F.type_list_append mt_append (pv 2) h) md_append (xa_cons (x_tup (xa_cons x_int (xa_cons x_int xa_nil))) xa_nil)))
      (ss_cons (s_expr (x_mut (fun h => pe_bm PySem.F.plainAttrs_list PySem.F.slot_list_append PySem.F.type_list_append mt_append (pv 3) h) md_append (xa_cons x_int xa_nil)))
      (ss_cons (s_if (t_not (t_val (x_callB G_l_pairs (hr.mono (by decide)) T.g_l_pairs T.F_l_pairs.kp T.b_l_pairs (xa_cons (x_call G_runs_of (hr.mono (by decide)) T.g_runs_of T.F_runs_of.kp T.b_runs_of (xa_cons (xvV 1) xa_nil)) (xa_cons (x_call G_l_runs (hr.mono (by decide)) T.g_l_runs T.F_l_runs.kp T.b_l_runs (xa_cons (xvV 0) xa_nil)) xa_nil))))) (ss_one (s_ret x_bl)) ss_nil)
      (ss_one (s_ret (x_and (x_callB G_l_sorted (hr.mono (by decide)) T.g_l_sorted T.F_l_sorted.kp T.b_l_sorted (xa_cons (x_callZ G_merge_order (hr.mono (by decide)) T.g_merge_order T.F_merge_order.kp T.b_merge_order (xa_cons (xvV 1) xa_nil)) (xa_cons (xv 0) xa_nil))) (x_one (x_cmp (op_eqD hr.units) od_eqD (xv 1) (xv 0)))))))))))))))⟩) pure_l_told
theorem ok_law (T : Txt K mg) : FnOk P w K mg base CX0 5 T.f_law T.d_law ["_law_script"] (spOf K 1 fs_law) := by
  have G_l_digits := ok_l_digits (P := P) (w := w) (base := base) T
  have G_l_draw := ok_l_draw (P := P) (w := w) (base := base) T
  have G_l_drawn := ok_l_drawn (P := P) (w := w) (base := base) T
  have G_l_told := ok_l_told (P := P) (w := w) (base := base) T
  exact fn_ok (ds := ds_law) T.F_law sc_law rfl (by decide) (fun cdv A outer s H E hr => ⟨_, by exact (ss_cons (s_set 1 sc_law.nd (x_call G_l_digits (hr.mono (by decide)) T.g_l_digits T.F_l_digits.kp T.b_l_digits (xa_cons (xvV 0) xa_nil)))
      (ss_cons (s_set 2 sc_law.nd (x_call G_l_drawn (hr.mono (by decide)) T.g_l_drawn T.F_l_drawn.kp T.b_l_drawn (xa_cons (xv 1) xa_nil)))
      (ss_cons (s_if (t_w (w_or (t_not (t_val (x_call G_l_told (hr.mono (by decide)) T.g_l_told T.F_l_told.kp T.b_l_told (xa_cons (xvV 2) xa_nil)))) (w_or1 (t_not (t_val (x_call G_l_told (hr.mono (by decide)) T.g_l_told T.F_l_told.kp T.b_l_told (xa_cons (x_revL (xv 2)) xa_nil))))))) (ss_one (s_ret x_bl)) ss_nil)
      (ss_cons (s_if (t_w (w_and (t_cmp op_eq od_eq (x_call G_l_draw (hr.mono (by decide)) T.g_l_draw T.F_l_draw.kp T.b_l_draw (xa_cons (xv 1) (xa_cons x_int xa_nil))) x_int) (w_and1 (t_not (t_val (x_call G_l_told (hr.mono (by decide)) T.g_l_told T.F_l_told.kp T.b_l_told (xa_cons (x_sl sl_list sd_list (x_op op_rep od_rep (xv 2) x_int) xo_none (xo_some (x_op op_sub od_sub x_int (x_call G_l_draw (hr.mono (by decide)) T.g_l_draw T.F_l_draw.kp T.b_l_draw (xa_cons (xv 1) (xa_cons x_int xa_nil)))))) xa_nil))))))) (ss_one (s_ret x_bl)) ss_nil)
      (ss_one (s_ret (x_and (x_call G_l_told (hr.mono (by decide)) T.g_l_told T.F_l_told.kp T.b_l_told (xa_cons (x_op op_cat od_cat (x_sl sl_list sd_list (xv 2) (xo_some x_int) xo_none) (x_sl sl_list sd_list (xv 2) xo_none (xo_some x_int))) xa_nil)) (x_one (x_call G_l_told (hr.mono (by decide)) T.g_l_told T.F_l_told.kp T.b_l_told (xa_cons (xvV 2) xa_nil))))))))))⟩) pure_law
end
theorem all_mk {l : PySem.W.OpenLaw} {w : World} {K : PySem.W.Frag} {h : Heap} {mg : Str → Option Value} {fa f1 f2 f3 f4 f5 f6 f7 f8 f9 f10 f11 f12 f13 f14 f15 f16 f17 f18 : Addr} (X : K.In h) (G : h.Ns mainGlobals mg) (hfa : mg "law" = some (.ref fa))
    {od1 an1 od2 an2 od3 an3 od4 an4 od5 an5 od6 an6 od7 an7 od8 an8 od9 an9 od10 an10 od11 an11 od12 an12 od13 an13 od14 an14 od15 an15 od16 an16 od17 an17 od18 an18 : Option Addr} {sl1 sl2 sl3 sl4 sl5 sl6 sl7 sl8 sl9 sl10 sl11 sl12 sl13 sl14 sl15 sl16 sl17 sl18 : Array (Option Value)} {oc1 kV1 dc1 pm1 cd1 ct1 oc2 kV2 dc2 pm2 cd2 ct2 oc3 kV3 dc3 pm3 cd3 ct3 oc4 kV4 dc4 pm4 cd4 ct4 oc5 kV5 dc5 pm5 cd5 ct5 oc6 kV6 dc6 pm6 cd6 ct6 oc7 kV7 dc7 pm7 cd7 ct7 oc8 kV8 dc8 pm8 cd8 ct8 oc9 kV9 dc9 pm9 cd9 ct9 oc10 kV10 dc10 pm10 cd10 ct10 oc11 kV11 dc11 pm11 cd11 ct11 oc12 kV12 dc12 pm12 cd12 ct12 oc13 kV13 dc13 pm13 cd13 ct13 oc14 kV14 dc14 pm14 cd14 ct14 oc15 kV15 dc15 pm15 cd15 ct15 oc16 kV16 dc16 pm16 cd16 ct16 oc17 kV17 dc17 pm17 cd17 ct17 oc18 kV18 dc18 pm18 cd18 ct18 : Value}
    (a1 : PySem.W.nsIn K mainGlobals "runs_of" = some (some (.ref f1))) (l1 : K.lookup f1 = some ⟨oc1, od1, .func (PySem.W.fnOf "runs_of" "runs_of" (defArgs s_runs_of) (defBody s_runs_of) (defScope s_runs_of) .none kV1 dc1 pm1 an1 cd1 ct1), sl1⟩) (c1 : PySem.W.codeIn K cd1 "runs_of" = true) (k1 : PySem.W.keepIn K (.ref f1) = true)
    (a2 : PySem.W.nsIn K mainGlobals "merge_two" = some (some (.ref f2))) (l2 : K.lookup f2 = some ⟨oc2, od2, .func (PySem.W.fnOf "merge_two" "merge_two" (defArgs s_merge_two) (defBody s_merge_two) (defScope s_merge_two) .none kV2 dc2 pm2 an2 cd2 ct2), sl2⟩) (c2 : PySem.W.codeIn K cd2 "merge_two" = true) (k2 : PySem.W.keepIn K (.ref f2) = true)
    (a3 : PySem.W.nsIn K mainGlobals "merge_round" = some (some (.ref f3))) (l3 : K.lookup f3 = some ⟨oc3, od3, .func (PySem.W.fnOf "merge_round" "merge_round" (defArgs s_merge_round) (defBody s_merge_round) (defScope s_merge_round) .none kV3 dc3 pm3 an3 cd3 ct3), sl3⟩) (c3 : PySem.W.codeIn K cd3 "merge_round" = true) (k3 : PySem.W.keepIn K (.ref f3) = true)
    (a4 : PySem.W.nsIn K mainGlobals "merge_order" = some (some (.ref f4))) (l4 : K.lookup f4 = some ⟨oc4, od4, .func (PySem.W.fnOf "merge_order" "merge_order" (defArgs s_merge_order) (defBody s_merge_order) (defScope s_merge_order) .none kV4 dc4 pm4 an4 cd4 ct4), sl4⟩) (c4 : PySem.W.codeIn K cd4 "merge_order" = true) (k4 : PySem.W.keepIn K (.ref f4) = true)
    (a5 : PySem.W.nsIn K mainGlobals "rounds_of" = some (some (.ref f5))) (l5 : K.lookup f5 = some ⟨oc5, od5, .func (PySem.W.fnOf "rounds_of" "rounds_of" (defArgs s_rounds_of) (defBody s_rounds_of) (defScope s_rounds_of) .none kV5 dc5 pm5 an5 cd5 ct5), sl5⟩) (c5 : PySem.W.codeIn K cd5 "rounds_of" = true) (k5 : PySem.W.keepIn K (.ref f5) = true)
    (a6 : PySem.W.nsIn K mainGlobals "_law_digits" = some (some (.ref f6))) (l6 : K.lookup f6 = some ⟨oc6, od6, .func (PySem.W.fnOf "_law_digits" "_law_digits" (defArgs s_l_digits) (defBody s_l_digits) (defScope s_l_digits) .none kV6 dc6 pm6 an6 cd6 ct6), sl6⟩) (c6 : PySem.W.codeIn K cd6 "_law_digits" = true) (k6 : PySem.W.keepIn K (.ref f6) = true)
    (a7 : PySem.W.nsIn K mainGlobals "_law_draw" = some (some (.ref f7))) (l7 : K.lookup f7 = some ⟨oc7, od7, .func (PySem.W.fnOf "_law_draw" "_law_draw" (defArgs s_l_draw) (defBody s_l_draw) (defScope s_l_draw) .none kV7 dc7 pm7 an7 cd7 ct7), sl7⟩) (c7 : PySem.W.codeIn K cd7 "_law_draw" = true) (k7 : PySem.W.keepIn K (.ref f7) = true)
    (a8 : PySem.W.nsIn K mainGlobals "_law_number" = some (some (.ref f8))) (l8 : K.lookup f8 = some ⟨oc8, od8, .func (PySem.W.fnOf "_law_number" "_law_number" (defArgs s_l_number) (defBody s_l_number) (defScope s_l_number) .none kV8 dc8 pm8 an8 cd8 ct8), sl8⟩) (c8 : PySem.W.codeIn K cd8 "_law_number" = true) (k8 : PySem.W.keepIn K (.ref f8) = true)
    (a9 : PySem.W.nsIn K mainGlobals "_law_word" = some (some (.ref f9))) (l9 : K.lookup f9 = some ⟨oc9, od9, .func (PySem.W.fnOf "_law_word" "_law_word" (defArgs s_l_word) (defBody s_l_word) (defScope s_l_word) .none kV9 dc9 pm9 an9 cd9 ct9), sl9⟩) (c9 : PySem.W.codeIn K cd9 "_law_word" = true) (k9 : PySem.W.keepIn K (.ref f9) = true)
    (a10 : PySem.W.nsIn K mainGlobals "_law_drawn" = some (some (.ref f10))) (l10 : K.lookup f10 = some ⟨oc10, od10, .func (PySem.W.fnOf "_law_drawn" "_law_drawn" (defArgs s_l_drawn) (defBody s_l_drawn) (defScope s_l_drawn) .none kV10 dc10 pm10 an10 cd10 ct10), sl10⟩) (c10 : PySem.W.codeIn K cd10 "_law_drawn" = true) (k10 : PySem.W.keepIn K (.ref f10) = true)
    (a11 : PySem.W.nsIn K mainGlobals "_law_int" = some (some (.ref f11))) (l11 : K.lookup f11 = some ⟨oc11, od11, .func (PySem.W.fnOf "_law_int" "_law_int" (defArgs s_l_int) (defBody s_l_int) (defScope s_l_int) .none kV11 dc11 pm11 an11 cd11 ct11), sl11⟩) (c11 : PySem.W.codeIn K cd11 "_law_int" = true) (k11 : PySem.W.keepIn K (.ref f11) = true)
    (a12 : PySem.W.nsIn K mainGlobals "_law_ints" = some (some (.ref f12))) (l12 : K.lookup f12 = some ⟨oc12, od12, .func (PySem.W.fnOf "_law_ints" "_law_ints" (defArgs s_l_ints) (defBody s_l_ints) (defScope s_l_ints) .none kV12 dc12 pm12 an12 cd12 ct12), sl12⟩) (c12 : PySem.W.codeIn K cd12 "_law_ints" = true) (k12 : PySem.W.keepIn K (.ref f12) = true)
    (a13 : PySem.W.nsIn K mainGlobals "_law_runs" = some (some (.ref f13))) (l13 : K.lookup f13 = some ⟨oc13, od13, .func (PySem.W.fnOf "_law_runs" "_law_runs" (defArgs s_l_runs) (defBody s_l_runs) (defScope s_l_runs) .none kV13 dc13 pm13 an13 cd13 ct13), sl13⟩) (c13 : PySem.W.codeIn K cd13 "_law_runs" = true) (k13 : PySem.W.keepIn K (.ref f13) = true)
    (a14 : PySem.W.nsIn K mainGlobals "_law_sorted" = some (some (.ref f14))) (l14 : K.lookup f14 = some ⟨oc14, od14, .func (PySem.W.fnOf "_law_sorted" "_law_sorted" (defArgs s_l_sorted) (defBody s_l_sorted) (defScope s_l_sorted) .none kV14 dc14 pm14 an14 cd14 ct14), sl14⟩) (c14 : PySem.W.codeIn K cd14 "_law_sorted" = true) (k14 : PySem.W.keepIn K (.ref f14) = true)
    (a15 : PySem.W.nsIn K mainGlobals "_law_rounds" = some (some (.ref f15))) (l15 : K.lookup f15 = some ⟨oc15, od15, .func (PySem.W.fnOf "_law_rounds" "_law_rounds" (defArgs s_l_rounds) (defBody s_l_rounds) (defScope s_l_rounds) .none kV15 dc15 pm15 an15 cd15 ct15), sl15⟩) (c15 : PySem.W.codeIn K cd15 "_law_rounds" = true) (k15 : PySem.W.keepIn K (.ref f15) = true)
    (a16 : PySem.W.nsIn K mainGlobals "_law_pairs" = some (some (.ref f16))) (l16 : K.lookup f16 = some ⟨oc16, od16, .func (PySem.W.fnOf "_law_pairs" "_law_pairs" (defArgs s_l_pairs) (defBody s_l_pairs) (defScope s_l_pairs) .none kV16 dc16 pm16 an16 cd16 ct16), sl16⟩) (c16 : PySem.W.codeIn K cd16 "_law_pairs" = true) (k16 : PySem.W.keepIn K (.ref f16) = true)
    (a17 : PySem.W.nsIn K mainGlobals "_law_told" = some (some (.ref f17))) (l17 : K.lookup f17 = some ⟨oc17, od17, .func (PySem.W.fnOf "_law_told" "_law_told" (defArgs s_l_told) (defBody s_l_told) (defScope s_l_told) .none kV17 dc17 pm17 an17 cd17 ct17), sl17⟩) (c17 : PySem.W.codeIn K cd17 "_law_told" = true) (k17 : PySem.W.keepIn K (.ref f17) = true)
    (a18 : PySem.W.nsIn K mainGlobals "law" = some (some (.ref f18))) (l18 : K.lookup f18 = some ⟨oc18, od18, .func (PySem.W.fnOf "law" "law" (defArgs s_law) (defBody s_law) (defScope s_law) .none kV18 dc18 pm18 an18 cd18 ct18), sl18⟩) (c18 : PySem.W.codeIn K cd18 "law" = true) (k18 : PySem.W.keepIn K (.ref f18) = true)
    (z0 : PySem.W.nsIn K mainGlobals "abs" = some none) (z1 : PySem.W.nsIn K mainGlobals "all" = some none) (z2 : PySem.W.nsIn K mainGlobals "bool" = some none) (z3 : PySem.W.nsIn K mainGlobals "int" = some none) (z4 : PySem.W.nsIn K mainGlobals "isinstance" = some none) (z5 : PySem.W.nsIn K mainGlobals "len" = some none) (z6 : PySem.W.nsIn K mainGlobals "list" = some none) (z7 : PySem.W.nsIn K mainGlobals "range" = some none) (z8 : PySem.W.nsIn K mainGlobals "tuple" = some none) (z9 : PySem.W.nsIn K mainGlobals "zip" = some none) :
    ∃ fd : FuncData, (∀ (s : Shared) (v : Value), BindsTo s fd ⟨[v], []⟩ [("_law_script", v)]) ∧ ∀ base : Heap, K.In base → base.Ns mainGlobals mg → FnOk l.prog w K mg base CX0 5 fa fd ["_law_script"] (spOf K 1 fsLaw) := by
  have e := hfa.symm.trans (PySem.W.mg_of X G a18)
  cases e
  have F1 := fun_mk (st := s_runs_of) l1 c1 k1
  have F2 := fun_mk (st := s_merge_two) l2 c2 k2
  have F3 := fun_mk (st := s_merge_round) l3 c3 k3
  have F4 := fun_mk (st := s_merge_order) l4 c4 k4
  have F5 := fun_mk (st := s_rounds_of) l5 c5 k5
  have F6 := fun_mk (st := s_l_digits) l6 c6 k6
  have F7 := fun_mk (st := s_l_draw) l7 c7 k7
  have F8 := fun_mk (st := s_l_number) l8 c8 k8
  have F9 := fun_mk (st := s_l_word) l9 c9 k9
  have F10 := fun_mk (st := s_l_drawn) l10 c10 k10
  have F11 := fun_mk (st := s_l_int) l11 c11 k11
  have F12 := fun_mk (st := s_l_ints) l12 c12 k12
  have F13 := fun_mk (st := s_l_runs) l13 c13 k13
  have F14 := fun_mk (st := s_l_sorted) l14 c14 k14
  have F15 := fun_mk (st := s_l_rounds) l15 c15 k15
  have F16 := fun_mk (st := s_l_pairs) l16 c16 k16
  have F17 := fun_mk (st := s_l_told) l17 c17 k17
  have F18 := fun_mk (st := s_law) l18 c18 k18
  let T : Txt K mg := {
    f_runs_of := _, d_runs_of := _, g_runs_of := PySem.W.mg_of X G a1, F_runs_of := F1, b_runs_of := F1.binds fun _ _ _ _ _ _ us hl => match us, hl with | [_], _ => rfl,
    f_merge_two := _, d_merge_two := _, g_merge_two := PySem.W.mg_of X G a2, F_merge_two := F2, b_merge_two := F2.binds fun _ _ _ _ _ _ us hl => match us, hl with | [_, _, _], _ => rfl,
    f_merge_round := _, d_merge_round := _, g_merge_round := PySem.W.mg_of X G a3, F_merge_round := F3, b_merge_round := F3.binds fun _ _ _ _ _ _ us hl => match us, hl with | [_, _], _ => rfl,
    f_merge_order := _, d_merge_order := _, g_merge_order := PySem.W.mg_of X G a4, F_merge_order := F4, b_merge_order := F4.binds fun _ _ _ _ _ _ us hl => match us, hl with | [_], _ => rfl,
    f_rounds_of := _, d_rounds_of := _, g_rounds_of := PySem.W.mg_of X G a5, F_rounds_of := F5, b_rounds_of := F5.binds fun _ _ _ _ _ _ us hl => match us, hl with | [_], _ => rfl,
    f_l_digits := _, d_l_digits := _, g_l_digits := PySem.W.mg_of X G a6, F_l_digits := F6, b_l_digits := F6.binds fun _ _ _ _ _ _ us hl => match us, hl with | [_], _ => rfl,
    f_l_draw := _, d_l_draw := _, g_l_draw := PySem.W.mg_of X G a7, F_l_draw := F7, b_l_draw := F7.binds fun _ _ _ _ _ _ us hl => match us, hl with | [_, _], _ => rfl,
    f_l_number := _, d_l_number := _, g_l_number := PySem.W.mg_of X G a8, F_l_number := F8, b_l_number := F8.binds fun _ _ _ _ _ _ us hl => match us, hl with | [_, _], _ => rfl,
    f_l_word := _, d_l_word := _, g_l_word := PySem.W.mg_of X G a9, F_l_word := F9, b_l_word := F9.binds fun _ _ _ _ _ _ us hl => match us, hl with | [_, _], _ => rfl,
    f_l_drawn := _, d_l_drawn := _, g_l_drawn := PySem.W.mg_of X G a10, F_l_drawn := F10, b_l_drawn := F10.binds fun _ _ _ _ _ _ us hl => match us, hl with | [_], _ => rfl,
    f_l_int := _, d_l_int := _, g_l_int := PySem.W.mg_of X G a11, F_l_int := F11, b_l_int := F11.binds fun _ _ _ _ _ _ us hl => match us, hl with | [_, _], _ => rfl,
    f_l_ints := _, d_l_ints := _, g_l_ints := PySem.W.mg_of X G a12, F_l_ints := F12, b_l_ints := F12.binds fun _ _ _ _ _ _ us hl => match us, hl with | [_, _], _ => rfl,
    f_l_runs := _, d_l_runs := _, g_l_runs := PySem.W.mg_of X G a13, F_l_runs := F13, b_l_runs := F13.binds fun _ _ _ _ _ _ us hl => match us, hl with | [_], _ => rfl,
    f_l_sorted := _, d_l_sorted := _, g_l_sorted := PySem.W.mg_of X G a14, F_l_sorted := F14, b_l_sorted := F14.binds fun _ _ _ _ _ _ us hl => match us, hl with | [_, _], _ => rfl,
    f_l_rounds := _, d_l_rounds := _, g_l_rounds := PySem.W.mg_of X G a15, F_l_rounds := F15, b_l_rounds := F15.binds fun _ _ _ _ _ _ us hl => match us, hl with | [_], _ => rfl,
    f_l_pairs := _, d_l_pairs := _, g_l_pairs := PySem.W.mg_of X G a16, F_l_pairs := F16, b_l_pairs := F16.binds fun _ _ _ _ _ _ us hl => match us, hl with | [_, _], _ => rfl,
    f_l_told := _, d_l_told := _, g_l_told := PySem.W.mg_of X G a17, F_l_told := F17, b_l_told := F17.binds fun _ _ _ _ _ _ us hl => match us, hl with | [_], _ => rfl,
    f_law := _, d_law := _, g_law := PySem.W.mg_of X G a18, F_law := F18, b_law := F18.binds fun _ _ _ _ _ _ us hl => match us, hl with | [_], _ => rfl,
    n_abs := PySem.W.mg_none_of X G z0,
    n_all := PySem.W.mg_none_of X G z1,
    n_bool := PySem.W.mg_none_of X G z2,
    n_int := PySem.W.mg_none_of X G z3,
    n_isinstance := PySem.W.mg_none_of X G z4,
    n_len := PySem.W.mg_none_of X G z5,
    n_list := PySem.W.mg_none_of X G z6,
    n_range := PySem.W.mg_none_of X G z7,
    n_tuple := PySem.W.mg_none_of X G z8,
    n_zip := PySem.W.mg_none_of X G z9 }
  exact ⟨_, fun s v => .of_eq rfl, fun base _ _ => ok_law T⟩
end K67
open PySem PySem.W PyProof.Rows
set_option maxHeartbeats 0 in
theorem PySem.Challenge.cw_colonnade_k67_runs_merged_holds : PySem.Challenge.rw_colonnade_k67_runs_merged.Holds := by
  w_on; o_law; k_head; (case hw => w_witness2)
  k_fill
  refine L2.walk_of (l := PySem.Challenge.rw_colonnade_k67_runs_merged) (n := 63) (k := 5) (x := "_law_script") (CX := fun _ => L2.CX0) (sp := fun w => DL.spOf _ 1 DL.fsLaw) rfl (by decide) rfl ⟨rfl, by decide, by decide⟩ (fun w h Y => PySem.W.kIn_of Y) ?F (fun _ _ a ns hl _ hS => DL.law_sp hl hS) (fun _ _ _ _ _ h => h)
  case F =>
    intro w mg fa h KX G hmg
    refine' K67.all_mk KX G hmg ?a1 ?l1 ?c1 ?k1 ?a2 ?l2 ?c2 ?k2 ?a3 ?l3 ?c3 ?k3 ?a4 ?l4 ?c4 ?k4 ?a5 ?l5 ?c5 ?k5 ?a6 ?l6 ?c6 ?k6 ?a7 ?l7 ?c7 ?k7 ?a8 ?l8 ?c8 ?k8 ?a9 ?l9 ?c9 ?k9 ?a10 ?l10 ?c10 ?k10 ?a11 ?l11 ?c11 ?k11 ?a12 ?l12 ?c12 ?k12 ?a13 ?l13 ?c13 ?k13 ?a14 ?l14 ?c14 ?k14 ?a15 ?l15 ?c15 ?k15 ?a16 ?l16 ?c16 ?k16 ?a17 ?l17 ?c17 ?k17 ?a18 ?l18 ?c18 ?k18 ?z0 ?z1 ?z2 ?z3 ?z4 ?z5 ?z6 ?z7 ?z8 ?z9
    (case a1 => k_is); (case l1 => k_is); (case c1 => k_is); (case k1 => k_is); (case a2 => k_is); (case l2 => k_is); (case c2 => k_is); (case k2 => k_is); (case a3 => k_is); (case l3 => k_is); (case c3 => k_is); (case k3 => k_is); (case a4 => k_is); (case l4 => k_is); (case c4 => k_is); (case k4 => k_is); (case a5 => k_is); (case l5 => k_is); (case c5 => k_is); (case k5 => k_is); (case a6 => k_is); (case l6 => k_is); (case c6 => k_is); (case k6 => k_is); (case a7 => k_is); (case l7 => k_is); (case c7 => k_is); (case k7 => k_is); (case a8 => k_is); (case l8 => k_is); (case c8 => k_is); (case k8 => k_is); (case a9 => k_is); (case l9 => k_is); (case c9 => k_is); (case k9 => k_is); (case a10 => k_is); (case l10 => k_is); (case c10 => k_is); (case k10 => k_is); (case a11 => k_is); (case l11 => k_is); (case c11 => k_is); (case k11 => k_is); (case a12 => k_is); (case l12 => k_is); (case c12 => k_is); (case k12 => k_is); (case a13 => k_is); (case l13 => k_is); (case c13 => k_is); (case k13 => k_is); (case a14 => k_is); (case l14 => k_is); (case c14 => k_is); (case k14 => k_is); (case a15 => k_is); (case l15 => k_is); (case c15 => k_is); (case k15 => k_is); (case a16 => k_is); (case l16 => k_is); (case c16 => k_is); (case k16 => k_is); (case a17 => k_is); (case l17 => k_is); (case c17 => k_is); (case k17 => k_is); (case a18 => k_is); (case l18 => k_is); (case c18 => k_is); (case k18 => k_is); (case z0 => k_is); (case z1 => k_is); (case z2 => k_is); (case z3 => k_is); (case z4 => k_is); (case z5 => k_is); (case z6 => k_is); (case z7 => k_is); (case z8 => k_is); (case z9 => k_is)
