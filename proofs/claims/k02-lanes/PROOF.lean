import PyProof.Rows.All
import HandS.CallSlots
import HandS.Conv
import HandS.Evl
import HandS.ExcCtx
import HandS.ExcField
import HandS.ExcInit
import HandS.ExcInitHot
import HandS.ExcIs
import HandS.ForExc
import HandS.ForMost
import HandS.HotCalls
import HandS.IsInst
import HandS.More
import HandS.Star
import HandS.Style
import HandS.TupAny
import HandS.TupLe
import HandS.Wide
import HandS.WideBits
import KE.KExcIs
import PySem.Challenge.RW_colonnade_k02_lanes
set_option Elab.async false
set_option linter.all false
set_option maxRecDepth 100000
set_option maxHeartbeats 2000000
/-! A layer over the heap's readings: what a def does is said of plain data, the heap is hidden. Own work. -/
namespace DL
open PySem PySem.Spec PyProof.Rows L2
open Evl (Ex ex_l ex_t)

/-! ### lists in pairs -/
section
variable {α β : Type} {G : α → β → Prop}
theorem P_get : ∀ {l : List α} {m : List β} {i : Nat} {b : β}, Paired G l m → m[i]? = some b → ∃ a, l[i]? = some a ∧ G a b
  | _, _, _, _, .nil, e => by simp at e
  | _, _, 0, _, .cons r _, e => by simp at e; subst e; exact ⟨_, rfl, r⟩
  | _, _, i + 1, b, .cons _ t, e => by
    obtain ⟨a, h1, h2⟩ := P_get (i := i) (b := b) t (by simpa using e)
    exact ⟨a, by simpa using h1, h2⟩
theorem P_getL : ∀ {l : List α} {m : List β} {i : Nat} {a : α}, Paired G l m → l[i]? = some a → ∃ b, m[i]? = some b ∧ G a b
  | _, _, _, _, .nil, e => by simp at e
  | _, _, 0, _, .cons r _, e => by simp at e; subst e; exact ⟨_, rfl, r⟩
  | _, _, i + 1, a, .cons _ t, e => by
    obtain ⟨b, h1, h2⟩ := P_getL (i := i) (a := a) t (by simpa using e)
    exact ⟨b, by simpa using h1, h2⟩
theorem P_len : ∀ {l : List α} {m : List β}, Paired G l m → l.length = m.length
  | _, _, .nil => rfl
  | _, _, .cons _ t => by rw [List.length_cons, List.length_cons, P_len t]
theorem P_app : ∀ {l l' : List α} {m m' : List β}, Paired G l m → Paired G l' m' → Paired G (l ++ l') (m ++ m')
  | _, _, _, _, .nil, s => s
  | _, _, _, _, .cons r t, s => .cons r (P_app t s)
theorem P_take : ∀ {l : List α} {m : List β} (n : Nat), Paired G l m → Paired G (l.take n) (m.take n)
  | _, _, 0, _ => .nil
  | _, _, _ + 1, .nil => .nil
  | _, _, n + 1, .cons r t => .cons r (P_take n t)
theorem P_drop : ∀ {l : List α} {m : List β} (n : Nat), Paired G l m → Paired G (l.drop n) (m.drop n)
  | _, _, 0, r => r
  | _, _, _ + 1, .nil => .nil
  | _, _, n + 1, .cons _ t => P_drop n t
theorem P_set {a : α} {b : β} (r : G a b) : ∀ {l : List α} {m : List β} (i : Nat), Paired G l m → Paired G (l.set i a) (m.set i b)
  | _, _, _, .nil => .nil
  | _, _, 0, .cons _ t => .cons r t
  | _, _, i + 1, .cons q t => .cons q (P_set r i t)
theorem P_rev : ∀ {l : List α} {m : List β}, Paired G l m → Paired G l.reverse m.reverse
  | _, _, .nil => .nil
  | _, _, .cons r t => by
    rw [List.reverse_cons, List.reverse_cons]
    exact P_app (P_rev t) (.cons r .nil)
theorem P_erase : ∀ {l : List α} {m : List β} (i : Nat), Paired G l m → Paired G (l.eraseIdx i) (m.eraseIdx i)
  | _, _, _, .nil => .nil
  | _, _, 0, .cons _ t => t
  | _, _, i + 1, .cons q t => .cons q (P_erase i t)
theorem P_mono {G' : α → β → Prop} (k : ∀ a b, G a b → G' a b) : ∀ {l : List α} {m : List β}, Paired G l m → Paired G' l m
  | _, _, .nil => .nil
  | _, _, .cons r t => .cons (k _ _ r) (P_mono k t)
theorem P_rep {l : List α} {m : List β} (h : Paired G l m) : ∀ k : Nat, Paired G (List.replicate k l).flatten (List.replicate k m).flatten
  | 0 => .nil
  | k + 1 => by
    rw [List.replicate_succ, List.replicate_succ, List.flatten_cons, List.flatten_cons]
    exact P_app h (P_rep h k)
theorem P_dropLast {l : List α} {m : List β} (h : Paired G l m) : Paired G l.dropLast m.dropLast := by
  rw [List.dropLast_eq_take, List.dropLast_eq_take, P_len h]
  exact P_take _ h
theorem P_of : ∀ {l : List α} {m : List β}, l.length = m.length → (∀ (i : Nat) (a : α) (b : β), l[i]? = some a → m[i]? = some b → G a b) → Paired G l m
  | [], [], _, _ => .nil
  | [], _ :: _, h, _ => by simp at h
  | _ :: _, [], h, _ => by simp at h
  | a :: l, b :: m, h, k => .cons (k 0 a b rfl rfl) (P_of (by simpa using h) fun i x y e1 e2 => k (i + 1) x y (by simpa using e1) (by simpa using e2))
theorem P_insert {a : α} {b : β} (r : G a b) : ∀ {l : List α} {m : List β} (i : Nat), Paired G l m → Paired G (l.take i ++ a :: l.drop i) (m.take i ++ b :: m.drop i) := fun i h =>
  P_app (P_take i h) (.cons r (P_drop i h))
end

/-! ### data -/
inductive D where
  | non | bl (b : Bool) | int (i : Int) | str (x : Str) | ref (a : Addr) | ty (n : String)
  | lst (xs : List D) | tup (xs : List D) | obj (C : String) (fs : List (Str × D)) | dct (kvs : List (Key × D))
  /-- a class of the text -/
  | kls (C : String)
  /-- the law's own script -/
  | scr (ns : List Int)
  /-- a thing that is newer than the line that was drawn -/
  | fr (d : D)

/-- the kit's fragment, and the addresses that were there before -/
structure KZ where
  fr : PySem.W.Frag
  z : Addr → Prop
instance : Coe KZ PySem.W.Frag := ⟨KZ.fr⟩
/-- where a class of the text stands -/
def ctOf (K : PySem.W.Frag) (n : String) : Addr := match PySem.W.nsIn K mainGlobals n with
  | some (some (.ref a)) => a
  | _ => 0
theorem ctOf_of {K : PySem.W.Frag} {n : String} {a : Addr} (h : PySem.W.nsIn K mainGlobals n = some (some (.ref a))) : ctOf K n = a := by
  unfold ctOf
  rw [h]
mutual
/-- v is the data d, all of it read off F -/
inductive Rp (K : KZ) (F : Hp) : V → D → Prop
  | non : Rp K F .non .non
  | bl (b : Bool) : Rp K F (.bl b) (.bl b)
  | int (i : Int) : Rp K F (.int i) (.int i)
  | str (x : Str) : Rp K F (.str x) (.str x)
  | ref (a : Addr) : Rp K F (.ref a) (.ref a)
  | ty (n : String) : Rp K F (.ty n) (.ty n)
  | lst {a : Addr} {vs : List V} {ds : List D} : F a = some (.lst vs) → RpAll K F vs ds → Rp K F (.ref a) (.lst ds)
  | scr {a : Addr} {ns : List Int} : SqL K.fr F a (ns.map V.int) → Rp K F (.ref a) (.scr ns)
  | tup {a : Addr} {vs : List V} {ds : List D} : SqT K.fr F a vs → RpAll K F vs ds → Rp K F (.ref a) (.tup ds)
  | kls (n : String) : Rp K F (.ref (ctOf K.fr n)) (.kls n)
  | obj {a dx : Addr} {C : String} {fv : List (Str × V)} {fs : List (Str × D)} : F a = some (.ins (ctOf K.fr C) dx fv) → F dx = some (.own a) → RpFs K F fv fs → Rp K F (.ref a) (.obj C fs)
  | dct {a : Addr} {kv : List (Key × V)} {kd : List (Key × D)} : F a = some (.dK kv) → RpKs K F kv kd → Rp K F (.ref a) (.dct kd)
  | fr {a : Addr} {d : D} : ¬ K.z a → Rp K F (.ref a) d → Rp K F (.ref a) (.fr d)
inductive RpAll (K : KZ) (F : Hp) : List V → List D → Prop
  | nil : RpAll K F [] []
  | cons {v : V} {vs : List V} {d : D} {ds : List D} : Rp K F v d → RpAll K F vs ds → RpAll K F (v :: vs) (d :: ds)
inductive RpFs (K : KZ) (F : Hp) : List (Str × V) → List (Str × D) → Prop
  | nil : RpFs K F [] []
  | cons {n : Str} {v : V} {vs : List (Str × V)} {d : D} {ds : List (Str × D)} : Rp K F v d → RpFs K F vs ds → RpFs K F ((n, v) :: vs) ((n, d) :: ds)
inductive RpKs (K : KZ) (F : Hp) : List (Key × V) → List (Key × D) → Prop
  | nil : RpKs K F [] []
  | cons {n : Key} {v : V} {vs : List (Key × V)} {d : D} {ds : List (Key × D)} : Rp K F v d → RpKs K F vs ds → RpKs K F ((n, v) :: vs) ((n, d) :: ds)
end
section
variable {K : KZ} {F F' : Hp}
mutual
theorem Rp.mono (e : Ex F F') : ∀ {v : V} {d : D}, Rp K F v d → Rp K F' v d
  | _, _, .non => .non
  | _, _, .bl b => .bl b
  | _, _, .int i => .int i
  | _, _, .str x => .str x
  | _, _, .ref a => .ref a
  | _, _, .ty n => .ty n
  | _, _, .kls n => .kls n
  | _, _, .lst h a => .lst (e _ _ h) (RpAll.mono e a)
  | _, _, .scr h => .scr (ex_l e h)
  | _, _, .tup h a => .tup (ex_t e h) (RpAll.mono e a)
  | _, _, .obj h1 h2 a => .obj (e _ _ h1) (e _ _ h2) (RpFs.mono e a)
  | _, _, .dct h1 a => .dct (e _ _ h1) (RpKs.mono e a)
  | _, _, .fr n a => .fr n (Rp.mono e a)
theorem RpAll.mono (e : Ex F F') : ∀ {v : List V} {d : List D}, RpAll K F v d → RpAll K F' v d
  | _, _, .nil => .nil
  | _, _, .cons h t => .cons (Rp.mono e h) (RpAll.mono e t)
theorem RpFs.mono (e : Ex F F') : ∀ {v : List (Str × V)} {d : List (Str × D)}, RpFs K F v d → RpFs K F' v d
  | _, _, .nil => .nil
  | _, _, .cons h t => .cons (Rp.mono e h) (RpFs.mono e t)
theorem RpKs.mono (e : Ex F F') : ∀ {v : List (Key × V)} {d : List (Key × D)}, RpKs K F v d → RpKs K F' v d
  | _, _, .nil => .nil
  | _, _, .cons h t => .cons (Rp.mono e h) (RpKs.mono e t)
end
theorem RpAll.p : ∀ {vs : List V} {ds : List D}, RpAll K F vs ds → Paired (Rp K F) vs ds
  | _, _, .nil => .nil
  | _, _, .cons h t => .cons h (RpAll.p t)
theorem RpAll.of : ∀ {vs : List V} {ds : List D}, Paired (Rp K F) vs ds → RpAll K F vs ds
  | _, _, .nil => .nil
  | _, _, .cons h t => .cons h (RpAll.of t)
theorem RpAll.length {vs : List V} {ds : List D} (h : RpAll K F vs ds) : vs.length = ds.length := P_len h.p
end

/-! ### what is owned: it may still change -/
inductive OC where
  | lst (xs : List D) | ins (C : String) (fs : List (Str × D)) | dct (kvs : List (Key × D))
def OC.data : OC → D
  | .lst xs => .lst xs
  | .ins C fs => .obj C fs
  | .dct k => .dct k
/-- a name's slot: nothing known; data that stays; a thing that this def may change (of a parameter: some k) -/
inductive Sx where
  | no | val (d : D) | own (p : Option Nat) (c : OC)
/-- a result: data that stays; what stands in slot j; a new thing that nobody else holds -/
inductive RS where
  | val (d : D) | own (j : Nat) (c : OC) | new (c : OC)
def RS.data : RS → D
  | .val d => d
  | .own _ c => c.data
  | .new c => c.data
abbrev Env := List Sx
def look : Env → Nat → Sx
  | [], _ => .no
  | s :: _, 0 => s
  | _ :: γ, i + 1 => look γ i
def put : Env → Nat → Sx → Env
  | [], _, _ => []
  | _ :: γ, 0, t => t :: γ
  | s :: γ, i + 1, t => s :: put γ i t
theorem look_of : ∀ {γ : Env} {i : Nat} {s : Sx}, γ[i]? = some s → look γ i = s
  | [], _, _, h => by simp at h
  | _ :: _, 0, _, h => by simpa [look] using h
  | _ :: γ, i + 1, _, h => look_of (γ := γ) (i := i) (by simpa using h)
theorem of_look : ∀ {γ : Env} {i : Nat} {s : Sx}, look γ i = s → s ≠ .no → γ[i]? = some s
  | [], _, _, h, n => absurd h.symm n
  | _ :: _, 0, _, h, _ => by simpa [look] using h
  | _ :: γ, i + 1, _, h, n => by
    have := of_look (γ := γ) (i := i) h n
    simpa using this
theorem put_set : ∀ {γ : Env} {i : Nat} {s : Sx}, put γ i s = γ.set i s
  | [], _, _ => rfl
  | _ :: _, 0, _ => rfl
  | _ :: γ, i + 1, _ => by rw [put, put_set, List.set_cons_succ]
theorem put_len {γ : Env} {i : Nat} {s : Sx} : (put γ i s).length = γ.length := by rw [put_set, List.length_set]

/-- a base: N the heap at the def's entry, pa its parameters' things; F, H the heaps that later ones are held against, m what may have changed since -/
structure Bs where
  N : Hp
  pa : Nat → Option Addr
  F : Hp
  H : Hp
  m : List Addr
  z : Addr → Prop
  zn : ∀ a, z a → ∃ o, N a = some o
abbrev Bs.kz (B : Bs) (K : PySem.W.Frag) : KZ := ⟨K, B.z⟩

def OCok (K : PySem.W.Frag) (B : Bs) (F H : Hp) (a : Addr) : OC → Prop
  | .lst ds => ∃ vs, H a = some (.lst vs) ∧ RpAll (B.kz K) F vs ds
  | .ins C fs => ∃ dx fv, H a = some (.ins (ctOf K C) dx fv) ∧ H dx = some (.own a) ∧ F dx = none ∧ (B.N a = none → B.N dx = none) ∧ (dx ∈ B.m ∨ B.H dx = none) ∧ RpFs (B.kz K) F fv fs
  | .dct kd => ∃ kv, H a = some (.dK kv) ∧ RpKs (B.kz K) F kv kd
def SlotOk (K : PySem.W.Frag) (B : Bs) (F H : Hp) (s : Option V) : Sx → Prop
  | .no => True
  | .val d => ∃ v, s = some v ∧ Rp (B.kz K) F v d
  | .own _ c => ∃ a, s = some (.ref a) ∧ F a = none ∧ OCok K B F H a c
/-- the kind of an object stays -/
def Kin : HO → HO → Prop
  | .ins C dx _, o => ∃ fs, o = .ins C dx fs
  | .lst _, o => ∃ xs, o = .lst xs
  | .dK _, o => ∃ xs, o = .dK xs
  | _, _ => True
theorem Kin.refl : ∀ o : HO, Kin o o
  | .ins _ _ fs => ⟨fs, rfl⟩
  | .lst xs => ⟨xs, rfl⟩
  | .dK xs => ⟨xs, rfl⟩
  | .tup _ => trivial | .dT _ => trivial | .set _ _ => trivial | .own _ => trivial | .xd _ => trivial | .met _ _ => trivial | .rng _ _ => trivial | .frz _ _ => trivial | .tbl _ => trivial | .ext _ => trivial
theorem Kin.trans : ∀ {a b c : HO}, Kin a b → Kin b c → Kin a c
  | .ins _ _ fs, _, _, ⟨_, rfl⟩, h => h
  | .lst xs, _, _, ⟨_, rfl⟩, h => h
  | .dK xs, _, _, ⟨_, rfl⟩, h => h
  | .tup _, _, _, _, _ => trivial | .dT _, _, _, _, _ => trivial | .set _ _, _, _, _, _ => trivial | .own _, _, _, _, _ => trivial | .xd _, _, _, _, _ => trivial | .met _ _, _, _, _, _ => trivial | .rng _ _, _, _, _, _ => trivial | .frz _ _, _, _, _, _ => trivial | .tbl _, _, _, _, _ => trivial | .ext _, _, _, _, _ => trivial
structure Rep (K : PySem.W.Frag) (B : Bs) (F H : Hp) (σ : L2.St) (γ : Env) : Prop where
  fh : Ex F H
  len : σ.length = γ.length
  sl : ∀ (i : Nat) s t, σ[i]? = some s → γ[i]? = some t → SlotOk K B F H s t
  nd : ∀ (i j : Nat) a p c q c', γ[i]? = some (.own p c) → γ[j]? = some (.own q c') → σ[i]? = some (some (.ref a)) → σ[j]? = some (some (.ref a)) → i = j
  b1 : ∀ b o, B.H b = some o → (b ∉ B.m → H b = some o) ∧ ∃ o', H b = some o'
  b2 : Ex B.F F
  b3 : ∀ b o, B.H b = some o → b ∉ B.m → F b = B.F b
  b4 : ∀ (i : Nat) a p c, γ[i]? = some (.own p c) → σ[i]? = some (some (.ref a)) → (∀ k, p = some k → B.pa k = some a) ∧ (p = none → B.N a = none)
  b5 : ∀ (i : Nat) a p c, γ[i]? = some (.own p c) → σ[i]? = some (some (.ref a)) → a ∈ B.m ∨ B.H a = none
  bN : ∀ b o, B.N b = some o → ∃ o', H b = some o'
  bd : ∀ a o, B.H a = some o → ∃ o', H a = some o' ∧ Kin o o'
structure RNew (K : PySem.W.Frag) (B : Bs) (F H : Hp) (σ : L2.St) (γ : Env) (a : Addr) (c : OC) : Prop where
  fa : F a = none
  ok : OCok K B F H a c
  bn : B.N a = none
  bm : a ∈ B.m ∨ B.H a = none
  na : ∀ (i : Nat) p c', γ[i]? = some (.own p c') → σ[i]? ≠ some (some (.ref a))
def RsOk (K : PySem.W.Frag) (B : Bs) (F H : Hp) (σ : L2.St) (γ : Env) (v : V) : RS → Prop
  | .val d => Rp (B.kz K) F v d
  | .own j c => σ[j]? = some (some v) ∧ ∃ p, γ[j]? = some (.own p c)
  | .new c => ∃ a, v = .ref a ∧ RNew K B F H σ γ a c
/-- the result still stands as it was told -/
def RS.ok (γ : Env) : RS → Prop
  | .own j c => ∃ p, look γ j = .own p c
  | _ => True

section
variable {K : PySem.W.Frag} {B : Bs} {F F' H H' : Hp} {σ : L2.St} {γ : Env} {v : V} {d : D}
theorem OCok.mono {a : Addr} {c : OC} (e : Ex F F') (hd : ∀ dx, H dx = some (.own a) → F dx = none → F' dx = none) (h : OCok K B F H a c) : OCok K B F' H a c := by
  cases c with
  | lst ds => obtain ⟨vs, h1, h2⟩ := h; exact ⟨vs, h1, h2.mono e⟩
  | ins C fs => obtain ⟨dx, fv, h1, h2, h3, h4, h5, h6⟩ := h; exact ⟨dx, fv, h1, h2, hd dx h2 h3, h4, h5, h6.mono e⟩
  | dct kd => obtain ⟨kv, h1, h2⟩ := h; exact ⟨kv, h1, h2.mono e⟩
theorem OCok.obj {a : Addr} {c : OC} (h : OCok K B F H a c) : ∃ o, H a = some o ∧ ∀ x, o ≠ .own x := by
  cases c with
  | lst ds => obtain ⟨vs, h1, h2⟩ := h; exact ⟨_, h1, fun x e => by cases e⟩
  | ins C fs => obtain ⟨dx, fv, h1, _⟩ := h; exact ⟨_, h1, fun x e => by cases e⟩
  | dct kd => obtain ⟨kv, h1, h2⟩ := h; exact ⟨_, h1, fun x e => by cases e⟩
/-- the heap may change elsewhere -/
theorem OCok.heap {a : Addr} {c : OC} (h : OCok K B F H a c) (ka : H' a = H a) (kd : ∀ dx, H dx = some (.own a) → H' dx = H dx) : OCok K B F H' a c := by
  cases c with
  | lst ds => obtain ⟨vs, h1, h2⟩ := h; exact ⟨vs, ka.trans h1, h2⟩
  | ins C fs => obtain ⟨dx, fv, h1, h2, h3⟩ := h; exact ⟨dx, fv, ka.trans h1, (kd dx h2).trans h2, h3⟩
  | dct kd => obtain ⟨kv, h1, h2⟩ := h; exact ⟨kv, ka.trans h1, h2⟩
theorem OCok.base {a : Addr} {c : OC} {B' : Bs} (h : OCok K B F H a c) (hN : B'.N = B.N) (hz : B'.z = B.z) (hm : ∀ dx, H dx = some (.own a) → dx ∈ B.m ∨ B.H dx = none → dx ∈ B'.m ∨ B'.H dx = none) : OCok K B' F H a c := by
  have e : B'.kz K = B.kz K := by unfold Bs.kz; rw [hz]
  cases c with
  | lst ds => obtain ⟨vs, h1, h2⟩ := h; exact ⟨vs, h1, by rw [e]; exact h2⟩
  | ins C fs => obtain ⟨dx, fv, h1, h2, h3, h4, h5, h6⟩ := h; exact ⟨dx, fv, h1, h2, h3, by rw [hN]; exact h4, hm dx h2 h5, by rw [e]; exact h6⟩
  | dct kd => obtain ⟨kv, h1, h2⟩ := h; exact ⟨kv, h1, by rw [e]; exact h2⟩

theorem Rep.val (R : Rep K B F H σ γ) {i : Nat} (h : look γ i = .val d) : ∃ v, σ[i]? = some (some v) ∧ Rp (B.kz K) F v d := by
  have hg := of_look h (by intro e; cases e)
  obtain ⟨h1, _⟩ := List.getElem?_eq_some_iff.mp hg
  have h2 : i < σ.length := by rw [R.len]; exact h1
  have hs : σ[i]? = some σ[i] := List.getElem?_eq_getElem h2
  obtain ⟨v, e, r⟩ := R.sl i _ _ hs hg
  exact ⟨v, by rw [hs, e], r⟩
theorem Rep.own (R : Rep K B F H σ γ) {i : Nat} {p : Option Nat} {c : OC} (h : look γ i = .own p c) : ∃ a, σ[i]? = some (some (.ref a)) ∧ γ[i]? = some (.own p c) ∧ F a = none ∧ OCok K B F H a c := by
  have hg := of_look h (by intro e; cases e)
  obtain ⟨h1, _⟩ := List.getElem?_eq_some_iff.mp hg
  have h2 : i < σ.length := by rw [R.len]; exact h1
  have hs : σ[i]? = some σ[i] := List.getElem?_eq_getElem h2
  obtain ⟨a, e, r, q⟩ := R.sl i _ _ hs hg
  exact ⟨a, by rw [hs, e], hg, r, q⟩
/-- a free address is free everywhere -/
theorem Rep.fresh (R : Rep K B F H σ γ) {p : Addr} (h : H p = none) : F p = none ∧ B.H p = none ∧ B.N p = none ∧ ∀ (i : Nat) q c', γ[i]? = some (.own q c') → σ[i]? ≠ some (some (.ref p)) := by
  refine ⟨?_, ?_, ?_, ?_⟩
  · cases e : F p with
    | none => rfl
    | some o => rw [R.fh p o e] at h; cases h
  · cases e : B.H p with
    | none => rfl
    | some o => obtain ⟨_, o', e'⟩ := R.b1 p o e; rw [e'] at h; cases h
  · cases e : B.N p with
    | none => rfl
    | some o => obtain ⟨o', e'⟩ := R.bN p o e; rw [e'] at h; cases h
  · intro i q c' hg hs
    obtain ⟨a, e, _, ok⟩ := R.sl i _ _ hs hg
    cases e
    obtain ⟨o, ho, _⟩ := ok.obj
    rw [ho] at h; cases h
/-- a slot's address, and that it is no own dict -/
theorem Rep.ownObj (R : Rep K B F H σ γ) {i : Nat} {p : Option Nat} {c : OC} {a : Addr} (hg : γ[i]? = some (.own p c)) (hs : σ[i]? = some (some (.ref a))) : F a = none ∧ OCok K B F H a c := by
  obtain ⟨a', e, f, ok⟩ := R.sl i _ _ hs hg
  cases e
  exact ⟨f, ok⟩
/-- a new object, not frozen -/
theorem Rep.alloc (R : Rep K B F H σ γ) {p : Addr} (o : HO) (h : H p = none) : Rep K B F (upd H p o) σ γ := by
  have hx : Ex H (upd H p o) := Ex.new h
  have nep : ∀ {b : Addr} {x : HO}, H b = some x → b ≠ p := fun e => ne_of_none e h
  refine ⟨R.fh.trans hx, R.len, fun i s t hs hg => ?_, R.nd, fun b x e => ?_, R.b2, R.b3, R.b4, R.b5, fun b x e => ?_, fun a x e => let ⟨o', h, k⟩ := R.bd a x e; ⟨o', hx _ _ h, k⟩⟩
  · have q := R.sl i s t hs hg
    cases t with
    | no => trivial
    | val d => exact q
    | own q' c =>
      obtain ⟨a, e, f, ok⟩ := q
      obtain ⟨o', ho', _⟩ := ok.obj
      exact ⟨a, e, f, ok.heap (upd_ne (nep ho')) fun dx hd => upd_ne (nep hd)⟩
  · obtain ⟨h1, o', h2⟩ := R.b1 b x e
    exact ⟨fun n => hx _ _ (h1 n), o', hx _ _ h2⟩
  · obtain ⟨o', h2⟩ := R.bN b x e
    exact ⟨o', hx _ _ h2⟩
/-- F takes up what H holds at a, which nobody owns -/
theorem Rep.freeze (R : Rep K B F H σ γ) {a : Addr} {o : HO} (h : H a = some o) (fa : F a = none) (bm : a ∈ B.m ∨ B.H a = none) (na : ∀ (i : Nat) q c', γ[i]? = some (.own q c') → σ[i]? ≠ some (some (.ref a)) ∧ ∀ x, σ[i]? = some (some (.ref x)) → o ≠ .own x) :
    Rep K B (upd F a o) H σ γ ∧ Ex F (upd F a o) := by
  have hx : Ex F (upd F a o) := Ex.new fa
  refine ⟨⟨fun b x e => ?_, R.len, fun i s t hs hg => ?_, R.nd, R.b1, R.b2.trans hx, fun b x e n => ?_, R.b4, R.b5, R.bN, R.bd⟩, hx⟩
  · by_cases hb : b = a
    · subst hb; rw [upd_same] at e; cases e; exact h
    · rw [upd_ne hb] at e; exact R.fh b x e
  · have q := R.sl i s t hs hg
    cases t with
    | no => trivial
    | val d => obtain ⟨v, e, r⟩ := q; exact ⟨v, e, r.mono hx⟩
    | own q' c =>
      obtain ⟨b, e, f, ok⟩ := q
      subst e
      obtain ⟨n1, n2⟩ := na i _ _ hg
      have nba : b ≠ a := fun z => n1 (by rw [hs, z])
      refine ⟨b, rfl, by rw [upd_ne nba]; exact f, ok.mono hx fun dx hd fd => ?_⟩
      have : dx ≠ a := fun z => by
        subst z
        rw [h] at hd
        exact n2 b hs (Option.some.inj hd)
      rw [upd_ne this]; exact fd
  · rcases bm with z | z
    · by_cases hb : b = a
      · subst hb; exact absurd z n
      · rw [upd_ne hb]; exact R.b3 b x e n
    · rw [upd_ne (ne_of_none e z)]; exact R.b3 b x e n
end
end DL

set_option Elab.async false
set_option linter.all false
set_option maxRecDepth 100000
set_option maxHeartbeats 2000000
namespace DL
open PySem PySem.Spec PyProof.Rows L2
open Evl (Ex ex_l ex_t)

abbrev DE := Env → (RS → Env → Prop) → Prop
abbrev DT := Env → (Bool → Env → Prop) → Prop
abbrev DA := Env → (List RS → Env → Prop) → Prop
def SE (K : PySem.W.Frag) (B : Bs) (te : TE) (de : DE) : Prop := ∀ (F H : Hp) (σ : L2.St) (γ : Env) (Q : VK) (q : RS → Env → Prop), Rep K B F H σ γ → de γ q →
  (∀ v F' H' γ' s, Rep K B F' H' σ γ' → Ex F F' → RsOk K B F' H' σ γ' v s → q s γ' → Q v H') → te σ H Q
def ST (K : PySem.W.Frag) (B : Bs) (tt : TT) (dt : DT) : Prop := ∀ (F H : Hp) (σ : L2.St) (γ : Env) (Q : Bool → Hp → Prop) (q : Bool → Env → Prop), Rep K B F H σ γ → dt γ q →
  (∀ b F' H' γ', Rep K B F' H' σ γ' → Ex F F' → q b γ' → Q b H') → tt σ H Q
def SA (K : PySem.W.Frag) (B : Bs) (ta : TA) (da : DA) : Prop := ∀ (F H : Hp) (σ : L2.St) (γ : Env) (Q : List V → Hp → Prop) (q : List RS → Env → Prop), Rep K B F H σ γ → da γ q →
  (∀ vs F' H' γ' rs, Rep K B F' H' σ γ' → Ex F F' → Paired (RsOk K B F' H' σ γ') vs rs → q rs γ' → Q vs H') → ta σ H Q
structure XE (X : Cx) (B : Bs) (e : Expr) (te : TE) (de : DE) : Prop where
  pe : PE X e te
  se : SE X.K B te de
structure XT (X : Cx) (B : Bs) (e : Expr) (tt : TT) (dt : DT) : Prop where
  pt : PT X e tt
  st : ST X.K B tt dt
structure XW (X : Cx) (B : Bs) (e : Expr) (tt : TT) (dt : DT) : Prop where
  pw : PW X e tt
  st : ST X.K B tt dt
structure XA (X : Cx) (B : Bs) (es : List Expr) (ta : TA) (da : DA) : Prop where
  pa : PA X es ta
  sa : SA X.K B ta da

/-- a new thing that is not given a name stays -/
def RS.fz : RS → RS
  | .new c => .val c.data
  | s => s
theorem RS.fz_data (s : RS) : s.fz.data = s.data := by cases s <;> rfl
section
variable {K : PySem.W.Frag} {B : Bs} {F F' H H' : Hp} {σ : L2.St} {γ γ' : Env} {v : V} {d : D}
theorem RsOk.fz (R : Rep K B F H σ γ) {s : RS} (h : RsOk K B F H σ γ v s) : ∃ F', Rep K B F' H σ γ ∧ Ex F F' ∧ RsOk K B F' H σ γ v s.fz := by
  cases s with
  | val d => exact ⟨F, R, Evl.Ex.refl F, h⟩
  | own j c => exact ⟨F, R, Evl.Ex.refl F, h⟩
  | new c =>
    obtain ⟨a, rfl, N⟩ := h
    have ok := N.ok
    cases c with
    | lst ds =>
      obtain ⟨vs, h1, h2⟩ := ok
      obtain ⟨R', e⟩ := R.freeze h1 N.fa N.bm fun i q c' hg => ⟨N.na i q c' hg, fun x _ z => by cases z⟩
      exact ⟨_, R', e, .lst upd_same (h2.mono e)⟩
    | dct kd =>
      obtain ⟨kv, h1, h2⟩ := ok
      obtain ⟨R', e⟩ := R.freeze h1 N.fa N.bm fun i q c' hg => ⟨N.na i q c' hg, fun x _ z => by cases z⟩
      exact ⟨_, R', e, .dct upd_same (h2.mono e)⟩
    | ins C fs =>
      obtain ⟨dx, fv, h1, h2, h3, h4, h5, h6⟩ := ok
      have na : a ≠ dx := ne_of h1 h2 (fun z => by cases z)
      obtain ⟨R', e⟩ := R.freeze h2 h3 h5 fun i q c' hg => ⟨fun hs => by
        obtain ⟨_, ok'⟩ := R.ownObj hg hs
        obtain ⟨o, ho, n⟩ := ok'.obj
        rw [h2] at ho
        exact n a (Option.some.inj ho).symm, fun x hs z => by
        injection z with z
        subst z
        exact N.na i q c' hg hs⟩
      obtain ⟨R2, e2⟩ := R'.freeze h1 (by rw [upd_ne na]; exact N.fa) N.bm fun i q c' hg => ⟨N.na i q c' hg, fun x _ z => by cases z⟩
      refine ⟨_, R2, e.trans e2, .obj upd_same (e2 dx _ upd_same) (h6.mono (e.trans e2))⟩
/-- read as it stands: frozen, or owned -/
def Rs (K : KZ) (F H : Hp) (v : V) (d : D) : Prop := Rp K F v d ∨ ∃ a, v = .ref a ∧
  ((∃ vs ds, d = .lst ds ∧ H a = some (.lst vs) ∧ RpAll K F vs ds) ∨ (∃ C dx fv fs, d = .obj C fs ∧ H a = some (.ins (ctOf K.fr C) dx fv) ∧ H dx = some (.own a) ∧ RpFs K F fv fs) ∨ ∃ kv kd, d = .dct kd ∧ H a = some (.dK kv) ∧ RpKs K F kv kd)
theorem OCok.rs {a : Addr} {c : OC} (h : OCok K B F H a c) : Rs (B.kz K) F H (.ref a) c.data := by
  cases c with
  | lst ds => obtain ⟨vs, h1, h2⟩ := h; exact .inr ⟨a, rfl, .inl ⟨vs, ds, rfl, h1, h2⟩⟩
  | ins C fs => obtain ⟨dx, fv, h1, h2, _, _, _, h6⟩ := h; exact .inr ⟨a, rfl, .inr (.inl ⟨C, dx, fv, fs, rfl, h1, h2, h6⟩)⟩
  | dct kd => obtain ⟨kv, h1, h2⟩ := h; exact .inr ⟨a, rfl, .inr (.inr ⟨kv, kd, rfl, h1, h2⟩)⟩
/-- what a result says later: val grows, own is asked again -/
theorem RsOk.later {s : RS} {F1 H1 F2 H2 : Hp} {γ1 γ2 : Env} (h : RsOk K B F1 H1 σ γ1 v s) (e : Ex F1 F2) (R2 : Rep K B F2 H2 σ γ2) (hok : s.ok γ2) (hf : s.fz = s) : RsOk K B F2 H2 σ γ2 v s := by
  cases s with
  | val d => exact Rp.mono e h
  | own j c =>
    obtain ⟨p, hp⟩ := hok
    obtain ⟨a, _, hg, _⟩ := R2.own hp
    exact ⟨h.1, p, hg⟩
  | new c => cases hf
theorem RsOk.rs (R : Rep K B F H σ γ) {s : RS} (h : RsOk K B F H σ γ v s) : Rs (B.kz K) F H v s.data := by
  cases s with
  | val d => exact .inl h
  | own j c =>
    obtain ⟨hs, p, hg⟩ := h
    obtain ⟨a, e, _, ok⟩ := R.sl j _ _ hs hg
    cases e
    exact ok.rs
  | new c =>
    obtain ⟨a, rfl, N⟩ := h
    exact N.ok.rs
theorem fz_idem (s : RS) : s.fz.fz = s.fz := by cases s <;> rfl
theorem fz_ok (s : RS) (γ : Env) : s.ok γ → s.fz.ok γ := by cases s <;> exact fun h => h
theorem ok_own {j : Nat} {c : OC} {p : Option Nat} (h : look γ j = .own p c) : RS.ok γ (.own j c) := ⟨p, h⟩
end
/-! inversions -/
section
variable {K : KZ} {F F' H H' : Hp} {v : V} {d : D}
theorem Rs.int {i : Int} (h : Rs K F H v (.int i)) : v = .int i := by
  rcases h with h | ⟨a, rfl, ⟨_, _, e, _⟩ | ⟨_, _, _, _, e, _⟩ | ⟨_, _, e, _⟩⟩
  · cases h; rfl
  all_goals cases e
theorem Rs.bl {i : Bool} (h : Rs K F H v (.bl i)) : v = .bl i := by
  rcases h with h | ⟨a, rfl, ⟨_, _, e, _⟩ | ⟨_, _, _, _, e, _⟩ | ⟨_, _, e, _⟩⟩
  · cases h; rfl
  all_goals cases e
theorem Rs.str {i : Str} (h : Rs K F H v (.str i)) : v = .str i := by
  rcases h with h | ⟨a, rfl, ⟨_, _, e, _⟩ | ⟨_, _, _, _, e, _⟩ | ⟨_, _, e, _⟩⟩
  · cases h; rfl
  all_goals cases e
theorem Rs.non (h : Rs K F H v .non) : v = .non := by
  rcases h with h | ⟨a, rfl, ⟨_, _, e, _⟩ | ⟨_, _, _, _, e, _⟩ | ⟨_, _, e, _⟩⟩
  · cases h; rfl
  all_goals cases e
theorem Rs.lst {ds : List D} (e : Ex F H) (h : Rs K F H v (.lst ds)) : ∃ a vs, v = .ref a ∧ H a = some (.lst vs) ∧ RpAll K F vs ds := by
  rcases h with h | ⟨a, rfl, ⟨vs, _, e, h1, h2⟩ | ⟨_, _, _, _, e, _⟩ | ⟨_, _, e, _⟩⟩
  · cases h with
    | lst h1 h2 => exact ⟨_, _, rfl, e _ _ h1, h2⟩
  · cases e; exact ⟨a, vs, rfl, h1, h2⟩
  all_goals cases e
theorem Rs.tup {ds : List D} (e : Ex F H) (h : Rs K F H v (.tup ds)) : ∃ a vs, v = .ref a ∧ SqT K H a vs ∧ RpAll K F vs ds := by
  rcases h with h | ⟨a, rfl, ⟨vs, _, e, h1, h2⟩ | ⟨_, _, _, _, e, _⟩ | ⟨_, _, e, _⟩⟩
  · cases h with
    | tup h1 h2 => exact ⟨_, _, rfl, ex_t e h1, h2⟩
  all_goals cases e
end

/-! ### names and constants -/
section
variable {X : Cx} {B : Bs} {pos : Pos}
def dC (d : D) (γ : Env) (q : RS → Env → Prop) : Prop := q (.val d) γ
/-- a name, as it stands -/
def dVar (i : Nat) (γ : Env) (q : RS → Env → Prop) : Prop := match look γ i with
  | .val d => q (.val d) γ
  | .own _ c => q (.own i c) γ
  | .no => False
/-- a name whose thing stays from here on -/
def dVarV (i : Nat) (γ : Env) (q : RS → Env → Prop) : Prop := match look γ i with
  | .val d => q (.val d) γ
  | .own _ c => q (.val c.data) (put γ i (.val c.data))
  | .no => False
/-- a name that is given away -/
def dVarM (i : Nat) (γ : Env) (q : RS → Env → Prop) : Prop := match look γ i with
  | .val d => q (.val d) γ
  | .own none c => q (.new c) (put γ i .no)
  | .own (some _) _ => False
  | .no => False
theorem se_c {K : PySem.W.Frag} {B : Bs} {v : V} {d : D} (h : ∀ z F, Rp ⟨K, z⟩ F v d) : SE K B (tC v) (dC d) := fun F H σ γ Q q R hq k => k v F H γ (.val d) R (Evl.Ex.refl F) (h B.z F) hq
theorem se_var {K : PySem.W.Frag} {B : Bs} {i : Nat} : SE K B (tVar i) (dVar i) := fun F H σ γ Q q R hq k => by
  unfold dVar at hq
  cases e : look γ i with
  | no => rw [e] at hq; exact hq.elim
  | val d =>
    rw [e] at hq
    obtain ⟨v, hs, r⟩ := R.val e
    exact ⟨v, hs, k v F H γ (.val d) R (Evl.Ex.refl F) r hq⟩
  | own p c =>
    rw [e] at hq
    obtain ⟨a, hs, hg, _⟩ := R.own e
    exact ⟨.ref a, hs, k _ F H γ (.own i c) R (Evl.Ex.refl F) ⟨hs, p, hg⟩ hq⟩
section
variable {K : PySem.W.Frag} {B : Bs} {F H : Hp} {σ : L2.St} {γ : Env}
theorem get_put {i j : Nat} {s t : Sx} (h : (put γ i s)[j]? = some t) : (j = i ∧ t = s) ∨ (j ≠ i ∧ γ[j]? = some t) := by
  rw [put_set] at h
  by_cases e : i = j
  · subst e
    by_cases hl : i < γ.length
    · rw [List.getElem?_set_self hl] at h; exact .inl ⟨rfl, (Option.some.inj h).symm⟩
    · rw [List.getElem?_eq_none (by rw [List.length_set]; omega)] at h; cases h
  · rw [List.getElem?_set_ne e] at h; exact .inr ⟨fun z => e z.symm, h⟩
/-- a slot told less, or by frozen data -/
theorem Rep.told (R : Rep K B F H σ γ) {i : Nat} {t : Sx} (ht : ∀ s, σ[i]? = some s → SlotOk K B F H s t) (hn : ∀ p c, t ≠ .own p c) : Rep K B F H σ (put γ i t) := by
  have key : ∀ {j : Nat} {p : Option Nat} {c : OC}, (put γ i t)[j]? = some (.own p c) → γ[j]? = some (.own p c) := fun h => by
    rcases get_put h with ⟨_, e⟩ | ⟨_, e⟩
    · exact absurd e.symm (hn _ _)
    · exact e
  refine ⟨R.fh, by rw [put_len]; exact R.len, fun j s u hs hg => ?_, fun i j a p c q c' h1 h2 => R.nd i j a p c q c' (key h1) (key h2), R.b1, R.b2, R.b3, fun j a p c h1 => R.b4 j a p c (key h1), fun j a p c h1 => R.b5 j a p c (key h1), R.bN, R.bd⟩
  rcases get_put hg with ⟨rfl, rfl⟩ | ⟨_, e⟩
  · exact ht s hs
  · exact R.sl j s u hs e
/-- the thing in slot i is given away -/
theorem Rep.move (R : Rep K B F H σ γ) {i : Nat} {c : OC} (e : look γ i = .own none c) : ∃ a, σ[i]? = some (some (.ref a)) ∧ Rep K B F H σ (put γ i .no) ∧ RNew K B F H σ (put γ i .no) a c := by
  obtain ⟨a, hs, hg, fa, ok⟩ := R.own e
  refine ⟨a, hs, R.told (fun _ _ => trivial) (fun _ _ z => by cases z), fa, ok, (R.b4 i a none c hg hs).2 rfl, R.b5 i a none c hg hs, fun j p c' h1 h2 => ?_⟩
  rcases get_put h1 with ⟨_, z⟩ | ⟨n, z⟩
  · cases z
  · exact n (R.nd j i a p c' none c z hg h2 hs)
/-- the thing in slot i stays from here on -/
theorem Rep.freezeVar (R : Rep K B F H σ γ) {i : Nat} {p : Option Nat} {c : OC} (e : look γ i = .own p c) : ∃ a F', σ[i]? = some (some (.ref a)) ∧ Rep K B F' H σ (put γ i (.val c.data)) ∧ Ex F F' ∧ Rp (B.kz K) F' (.ref a) c.data := by
  obtain ⟨a, hs, hg, fa, ok⟩ := R.own e
  have R0 : Rep K B F H σ (put γ i .no) := R.told (fun _ _ => trivial) (fun _ _ z => by cases z)
  have na : ∀ (j : Nat) q c', (put γ i .no)[j]? = some (.own q c') → σ[j]? ≠ some (some (.ref a)) := fun j q c' h1 h2 => by
    rcases get_put h1 with ⟨_, z⟩ | ⟨n, z⟩
    · cases z
    · exact n (R.nd j i a q c' p c z hg h2 hs)
  have b5 := R.b5 i a p c hg hs
  obtain ⟨F', R', ex, rp⟩ : ∃ F', Rep K B F' H σ (put γ i .no) ∧ Ex F F' ∧ Rp (B.kz K) F' (.ref a) c.data := by
    cases c with
    | lst ds =>
      obtain ⟨vs, h1, h2⟩ := ok
      obtain ⟨R', e⟩ := R0.freeze h1 fa b5 fun i q c' hg => ⟨na i q c' hg, fun x _ z => by cases z⟩
      exact ⟨_, R', e, .lst upd_same (h2.mono e)⟩
    | dct kd =>
      obtain ⟨kv, h1, h2⟩ := ok
      obtain ⟨R', e⟩ := R0.freeze h1 fa b5 fun i q c' hg => ⟨na i q c' hg, fun x _ z => by cases z⟩
      exact ⟨_, R', e, .dct upd_same (h2.mono e)⟩
    | ins C fs =>
      obtain ⟨dx, fv, h1, h2, h3, h4, h5, h6⟩ := ok
      have nad : a ≠ dx := ne_of h1 h2 (fun z => by cases z)
      obtain ⟨R', e⟩ := R0.freeze h2 h3 h5 fun i q c' hg => ⟨fun hs => by
        obtain ⟨_, ok'⟩ := R0.ownObj hg hs
        obtain ⟨o, ho, n⟩ := ok'.obj
        rw [h2] at ho
        exact n a (Option.some.inj ho).symm, fun x hs z => by
        injection z with z
        subst z
        exact na i q c' hg hs⟩
      obtain ⟨R2, e2⟩ := R'.freeze h1 (by rw [upd_ne nad]; exact fa) b5 fun i q c' hg => ⟨na i q c' hg, fun x _ z => by cases z⟩
      exact ⟨_, R2, e.trans e2, .obj upd_same (e2 dx _ upd_same) (h6.mono (e.trans e2))⟩
  refine ⟨a, F', hs, ?_, ex, rp⟩
  have q := R'.told (i := i) (t := .val c.data) (fun s hs' => by rw [hs] at hs'; cases hs'; exact ⟨_, rfl, rp⟩) (fun _ _ z => by cases z)
  have pp : put (put γ i .no) i (.val c.data) = put γ i (.val c.data) := by rw [put_set, put_set, put_set, List.set_set]
  rw [pp] at q
  exact q
end
theorem se_varV {K : PySem.W.Frag} {B : Bs} {i : Nat} : SE K B (tVar i) (dVarV i) := fun F H σ γ Q q R hq k => by
  unfold dVarV at hq
  cases e : look γ i with
  | no => rw [e] at hq; exact hq.elim
  | val d =>
    rw [e] at hq
    obtain ⟨v, hs, r⟩ := R.val e
    exact ⟨v, hs, k v F H γ (.val d) R (Evl.Ex.refl F) r hq⟩
  | own p c =>
    rw [e] at hq
    obtain ⟨a, F', hs, R', ex, rp⟩ := R.freezeVar e
    exact ⟨.ref a, hs, k _ F' H _ (.val c.data) R' ex rp hq⟩
theorem se_varM {K : PySem.W.Frag} {B : Bs} {i : Nat} : SE K B (tVar i) (dVarM i) := fun F H σ γ Q q R hq k => by
  unfold dVarM at hq
  cases e : look γ i with
  | no => rw [e] at hq; exact hq.elim
  | val d =>
    rw [e] at hq
    obtain ⟨v, hs, r⟩ := R.val e
    exact ⟨v, hs, k v F H γ (.val d) R (Evl.Ex.refl F) r hq⟩
  | own p c =>
    rw [e] at hq
    cases p with
    | some k' => exact hq.elim
    | none =>
      obtain ⟨a, hs, R', N⟩ := R.move e
      exact ⟨.ref a, hs, k _ F H _ (.new c) R' (Evl.Ex.refl F) ⟨a, rfl, N⟩ hq⟩
section
variable {x : Str}
theorem xv (i : Nat) (hN : X.N[i]? = some x := by rfl) (hv : Vis X.env.scope x := by first | exact Or.inl rfl | exact Or.inr (Or.inl rfl) | exact Or.inr (Or.inr rfl)) (hd : (x == ("__debug__" : Str)) = false := by decide)
    (hcd : (x == ("__classdict__" : Str)) = false := by decide) : XE X B (.Name x pos) (tVar i) (dVar i) := ⟨pe_var hN hv hd hcd, se_var⟩
theorem xvV (i : Nat) (hN : X.N[i]? = some x := by rfl) (hv : Vis X.env.scope x := by first | exact Or.inl rfl | exact Or.inr (Or.inl rfl) | exact Or.inr (Or.inr rfl)) (hd : (x == ("__debug__" : Str)) = false := by decide)
    (hcd : (x == ("__classdict__" : Str)) = false := by decide) : XE X B (.Name x pos) (tVar i) (dVarV i) := ⟨pe_var hN hv hd hcd, se_varV⟩
theorem xvM (i : Nat) (hN : X.N[i]? = some x := by rfl) (hv : Vis X.env.scope x := by first | exact Or.inl rfl | exact Or.inr (Or.inl rfl) | exact Or.inr (Or.inr rfl)) (hd : (x == ("__debug__" : Str)) = false := by decide)
    (hcd : (x == ("__classdict__" : Str)) = false := by decide) : XE X B (.Name x pos) (tVar i) (dVarM i) := ⟨pe_var hN hv hd hcd, se_varM⟩
end
theorem x_int {i j} : XE X B (.Constant (.int i) j pos) (tC (.int i)) (dC (.int i)) := ⟨pe_int, se_c fun _ _ => .int i⟩
theorem x_bl {i j} : XE X B (.Constant (.bool i) j pos) (tC (.bl i)) (dC (.bl i)) := ⟨pe_bl, se_c fun _ _ => .bl i⟩
theorem x_non {j} : XE X B (.Constant .none j pos) (tC .non) (dC .non) := ⟨pe_non, se_c fun _ _ => .non⟩
theorem x_str {i j} : XE X B (.Constant (.str i) j pos) (tC (.str i)) (dC (.str i)) := ⟨pe_str, se_c fun _ _ => .str i⟩
theorem x_glob {x : Str} {v : V} {d : D} {u : Value} (hg : Gl X x) (hm : X.mg x = some u) (r : RelV v u) (h : ∀ z F, Rp ⟨X.K, z⟩ F v d) (hd : (x == ("__debug__" : Str)) = false := by decide) : XE X B (.Name x pos) (tC v) (dC d) := ⟨pe_glob hg hm r hd, se_c h⟩
end

/-! ### operations -/
def OpD (K : PySem.W.Frag) (r : R2) (f : D → D → (RS → Prop) → Prop) : Prop := ∀ (B : Bs) (F H : Hp) (σ : L2.St) (γ : Env) (x y : V) (d e : D) (Q : VK) (q : RS → Prop), Rep K B F H σ γ → Rs (B.kz K) F H x d → Rs (B.kz K) F H y e → f d e q →
  (∀ v F' H' s, Rep K B F' H' σ γ → Ex F F' → RsOk K B F' H' σ γ v s → q s → Q v H') → r x y H Q
def UnD (K : PySem.W.Frag) (r : V → Hp → VK → Prop) (f : D → (RS → Prop) → Prop) : Prop := ∀ (B : Bs) (F H : Hp) (σ : L2.St) (γ : Env) (x : V) (d : D) (Q : VK) (q : RS → Prop), Rep K B F H σ γ → Rs (B.kz K) F H x d → f d q →
  (∀ v F' H' s, Rep K B F' H' σ γ → Ex F F' → RsOk K B F' H' σ γ v s → q s → Q v H') → r x H Q
def CallD (K : PySem.W.Frag) (r : List V → Hp → VK → Prop) (f : List D → (RS → Prop) → Prop) : Prop := ∀ (B : Bs) (F H : Hp) (σ : L2.St) (γ : Env) (xs : List V) (ds : List D) (Q : VK) (q : RS → Prop), Rep K B F H σ γ → Paired (Rs (B.kz K) F H) xs ds → f ds q →
  (∀ v F' H' s, Rep K B F' H' σ γ → Ex F F' → RsOk K B F' H' σ γ v s → q s → Q v H') → r xs H Q
def d2 (f : D → D → (RS → Prop) → Prop) (da db : DE) (γ : Env) (q : RS → Env → Prop) : Prop := da γ fun s γ1 => db γ1 fun t γ2 => s.ok γ2 ∧ f s.data t.data fun r => q r γ2
def d1 (f : D → (RS → Prop) → Prop) (da : DE) (γ : Env) (q : RS → Env → Prop) : Prop := da γ fun s γ1 => f s.data fun r => q r γ1
section
variable {K : PySem.W.Frag} {B : Bs} {ta tb : TE} {da db : DE}
theorem se_op {r : R2} {f : D → D → (RS → Prop) → Prop} (ho : OpD K r f) (sa : SE K B ta da) (sb : SE K B tb db) : SE K B (tOp r ta tb) (d2 f da db) := fun F H σ γ Q q R hq k => by
  refine sa F H σ γ _ _ R hq fun x F1 H1 γ1 s R1 e1 o1 h1 => ?_
  obtain ⟨F2, R2, e2, o2⟩ := o1.fz R1
  refine sb F2 H1 σ γ1 _ _ R2 h1 fun y F3 H3 γ3 t R3 e3 o3 ⟨h3, h4⟩ => ?_
  obtain ⟨F4, R4, e4, o4⟩ := o3.fz R3
  have ox := o2.later (e3.trans e4) R4 (fz_ok s γ3 h3) (fz_idem s)
  have rx := ox.rs R4
  have ry := o4.rs R4
  rw [RS.fz_data] at rx ry
  exact ho B F4 H3 σ γ3 x y _ _ Q _ R4 rx ry h4 fun v F5 H5 u R5 e5 o5 h5 => k v F5 H5 γ3 u R5 ((((e1.trans e2).trans e3).trans e4).trans e5) o5 h5
theorem se_un {r : V → Hp → VK → Prop} {f : D → (RS → Prop) → Prop} (ho : UnD K r f) (sa : SE K B ta da) : SE K B (tUn r ta) (d1 f da) := fun F H σ γ Q q R hq k => by
  refine sa F H σ γ _ _ R hq fun x F1 H1 γ1 s R1 e1 o1 h1 => ?_
  obtain ⟨F2, R2, e2, o2⟩ := o1.fz R1
  have rx := o2.rs R2
  rw [RS.fz_data] at rx
  exact ho B F2 H1 σ γ1 x _ Q _ R2 rx h1 fun v F5 H5 u R5 e5 o5 h5 => k v F5 H5 γ1 u R5 ((e1.trans e2).trans e5) o5 h5
def dNil (γ : Env) (q : List RS → Env → Prop) : Prop := q [] γ
/-- what a result is by now -/
def RS.now (γ : Env) : RS → (RS → Prop) → Prop
  | .own j _, q => match look γ j with
    | .own _ c => q (.own j c)
    | .val d => q (.val d)
    | .no => False
  | .val d, q => q (.val d)
  | .new c, q => q (.val c.data)
theorem RsOk.now {B : Bs} {F1 H1 F2 H2 : Hp} {σ : L2.St} {γ1 γ2 : Env} {v : V} {s : RS} {q : RS → Prop} (h : RsOk K B F1 H1 σ γ1 v s.fz) (e : Ex F1 F2) (R2 : Rep K B F2 H2 σ γ2) (hq : s.now γ2 q) : ∃ s', RsOk K B F2 H2 σ γ2 v s' ∧ q s' := by
  cases s with
  | val d => exact ⟨.val d, Rp.mono e h, hq⟩
  | new c => exact ⟨.val c.data, Rp.mono e h, hq⟩
  | own j c =>
    obtain ⟨hs, p, hg⟩ := h
    unfold RS.now at hq
    cases el : look γ2 j with
    | no => simp only [el] at hq
    | val d =>
      simp only [el] at hq
      obtain ⟨v', hs', r⟩ := R2.val el
      rw [hs] at hs'
      cases hs'
      exact ⟨.val d, r, hq⟩
    | own p' c' =>
      simp only [el] at hq
      obtain ⟨a, hs', hg', _⟩ := R2.own el
      exact ⟨.own j c', ⟨hs, p', hg'⟩, hq⟩
def dCons (da : DE) (dr : DA) (γ : Env) (q : List RS → Env → Prop) : Prop := da γ fun s γ1 => dr γ1 fun rs γ2 => s.now γ2 fun s' => q (s' :: rs) γ2
theorem sa_nil : SA K B tNil dNil := fun F H σ γ Q q R hq k => k [] F H γ [] R (Evl.Ex.refl F) .nil hq
theorem sa_cons {tr : TA} {dr : DA} (sa : SE K B ta da) (sr : SA K B tr dr) : SA K B (tCons ta tr) (dCons da dr) := fun F H σ γ Q q R hq k => by
  refine sa F H σ γ _ _ R hq fun x F1 H1 γ1 s R1 e1 o1 h1 => ?_
  obtain ⟨F2, R2, e2, o2⟩ := o1.fz R1
  refine sr F2 H1 σ γ1 _ _ R2 h1 fun vs F3 H3 γ3 rs R3 e3 o3 h3 => ?_
  obtain ⟨s', o4, h4⟩ := o2.now e3 R3 h3
  exact k _ F3 H3 γ3 _ R3 ((e1.trans e2).trans e3) (.cons o4 o3) h4
/-- the data of arguments -/
def dCB (f : List D → (RS → Prop) → Prop) (da : DA) (γ : Env) (q : RS → Env → Prop) : Prop := da γ fun rs γ1 => f (rs.map RS.data) fun r => q r γ1
theorem rs_all {B : Bs} {F H : Hp} {σ : L2.St} {γ : Env} (R : Rep K B F H σ γ) : ∀ {vs : List V} {rs : List RS}, Paired (RsOk K B F H σ γ) vs rs → Paired (Rs (B.kz K) F H) vs (rs.map RS.data)
  | _, _, .nil => .nil
  | _, _, .cons h t => .cons (h.rs R) (rs_all R t)
theorem se_cb {ta : TA} {da : DA} {r : List V → Hp → VK → Prop} {f : List D → (RS → Prop) → Prop} (ho : CallD K r f) (sa : SA K B ta da) : SE K B (tCB r ta) (dCB f da) := fun F H σ γ Q q R hq k => by
  refine sa F H σ γ _ _ R hq fun vs F1 H1 γ1 rs R1 e1 o1 h1 => ?_
  exact ho B F1 H1 σ γ1 vs _ Q _ R1 (rs_all R1 o1) h1 fun v F5 H5 u R5 e5 o5 h5 => k v F5 H5 γ1 u R5 (e1.trans e5) o5 h5
end
section
variable {X : Cx} {B : Bs} {pos : Pos} {a b : Expr} {ta tb : TE} {da db : DE}
theorem x_op {op : Operator} {r : R2} {f : D → D → (RS → Prop) → Prop} (ho : OpR X (binaryOp op) r) (hd : OpD X.K r f) (ha : XE X B a ta da) (hb : XE X B b tb db) : XE X B (.BinOp a op b pos) (tOp r ta tb) (d2 f da db) := ⟨pe_op ho ha.pe hb.pe, se_op hd ha.se hb.se⟩
theorem x_un {op : UnaryOp} {r : V → Hp → VK → Prop} {f : D → (RS → Prop) → Prop} (ho : UnR X (unaryOp op) r) (hd : UnD X.K r f) (ha : XE X B a ta da) : XE X B (.UnaryOp op a pos) (tUn r ta) (d1 f da) := ⟨pe_un ho ha.pe, se_un hd ha.se⟩
theorem x_cmp {op : CmpOp} {r : R2} {f : D → D → (RS → Prop) → Prop} (ho : OpR X (compareOp op) r) (hd : OpD X.K r f) (ha : XE X B a ta da) (hb : XE X B b tb db) (hm : behindInMarks op b = false := by first | exact nomark _ | rfl) : XE X B (.Compare a [op] [b] pos) (tOp r ta tb) (d2 f da db) := ⟨pe_cmpR ho ha.pe hb.pe hm, se_op hd ha.se hb.se⟩
theorem x_ix {r : R2} {f : D → D → (RS → Prop) → Prop} (ho : IxR X r) (hd : OpD X.K r f) (ha : XE X B a ta da) (hb : XE X B b tb db) (hs : PlainIx b := by exact fun _ _ => rfl) : XE X B (.Subscript a b pos) (tOp r ta tb) (d2 f da db) := ⟨pe_ix ho ha.pe hb.pe hs, se_op hd ha.se hb.se⟩
theorem xa_nil : XA X B [] tNil dNil := ⟨pa_nil, sa_nil⟩
theorem xa_cons {es : List Expr} {tr : TA} {dr : DA} (ha : XE X B a ta da) (hr : XA X B es tr dr) (hs : starEach (a :: es) X.env = (false, eval a X.env) :: starEach es X.env := by rfl) : XA X B (a :: es) (tCons ta tr) (dCons da dr) := ⟨pa_cons ha.pe hr.pa hs, sa_cons ha.se hr.sa⟩
theorem x_cb {id : String} {es : List Expr} {x : Str} {p : Pos} {tl : TA} {dl : DA} {r : List V → Hp → VK → Prop} {f : List D → (RS → Prop) → Prop} (hc : CallR X (.builtin id) r) (hd : CallD X.K r f) (hm : X.mg x = none) (hl : XA X B (a :: es) tl dl)
    (hg : Gl X x := by rfl) (hv : bootBuiltins x = some (.builtin id) := by decide +kernel) (hn : x ≠ "__name__" := by decide) (hdb : (x == ("__debug__" : Str)) = false := by decide)
    (he : starEach (a :: es) X.env = (false, eval a X.env) :: starEach es X.env := by rfl) (hpl : (backTo pos (starEach es X.env)).any (·.1) = false := by rfl) : XE X B (.Call (.Name x p) (a :: es) [] pos) (tCB r tl) (dCB f dl) := ⟨pe_callB hc hg hm hv hl.pa hn hdb he hpl, se_cb hd hl.sa⟩
theorem x_ct {T : String} {es : List Expr} {x : Str} {p : Pos} {tl : TA} {dl : DA} {r : List V → Hp → VK → Prop} {f : List D → (RS → Prop) → Prop} (hc : CallR X (.type T) r) (hd : CallD X.K r f) (hm : X.mg x = none) (hl : XA X B (a :: es) tl dl)
    (hg : Gl X x := by rfl) (hv : bootBuiltins x = some (.type T) := by decide +kernel) (hn : x ≠ "__name__" := by decide) (hdb : (x == ("__debug__" : Str)) = false := by decide)
    (he : starEach (a :: es) X.env = (false, eval a X.env) :: starEach es X.env := by rfl) (hpl : (backTo pos (starEach es X.env)).any (·.1) = false := by rfl) : XE X B (.Call (.Name x p) (a :: es) [] pos) (tCB r tl) (dCB f dl) := ⟨pe_callTy hc hg hm hv hl.pa hn hdb he hpl, se_cb hd hl.sa⟩
end
end DL

set_option Elab.async false
set_option linter.all false
set_option maxRecDepth 100000
set_option maxHeartbeats 2000000
namespace DL
open PySem PySem.Spec PyProof.Rows L2
open Evl (Ex ex_l ex_t)
theorem sz_le {n : Nat} (h : n ≤ 1000000) : n ≤ sizeLine := Nat.le_trans h (by decide)

/-! ### new things -/
section
variable {K : PySem.W.Frag} {B : Bs} {F H : Hp} {σ : L2.St} {γ : Env} {p : Addr} {vs : List V} {ds : List D}
theorem Rep.newL (R : Rep K B F H σ γ) (hp : H p = none) (h : RpAll (B.kz K) F vs ds) : Rep K B F (upd H p (.lst vs)) σ γ ∧ RsOk K B F (upd H p (.lst vs)) σ γ (.ref p) (.new (.lst ds)) := by
  obtain ⟨f1, f2, f3, f4⟩ := R.fresh hp
  exact ⟨R.alloc _ hp, p, rfl, f1, ⟨vs, upd_same, h⟩, f3, .inr f2, f4⟩
theorem Rep.newT (R : Rep K B F H σ γ) (hp : H p = none) (h : RpAll (B.kz K) F vs ds) : Rep K B (upd F p (.tup vs)) (upd H p (.tup vs)) σ γ ∧ Ex F (upd F p (.tup vs)) ∧ Rp (B.kz K) (upd F p (.tup vs)) (.ref p) (.tup ds) := by
  obtain ⟨f1, f2, f3, f4⟩ := R.fresh hp
  obtain ⟨R2, e⟩ := (R.alloc (.tup vs) hp).freeze (a := p) (o := .tup vs) upd_same f1 (.inr f2) fun i q c' hg => ⟨f4 i q c' hg, fun x _ z => by cases z⟩
  exact ⟨R2, e, .tup (Evl.st_of upd_same) (h.mono e)⟩
end

/-! ### operations on numbers, texts, truths -/
theorem vk {K : PySem.W.Frag} {B : Bs} {F H : Hp} {σ : L2.St} {γ : Env} {v : V} {d : D} {Q : VK} {q : RS → Prop} (R : Rep K B F H σ γ) (k : ∀ v F' H' s, Rep K B F' H' σ γ → Ex F F' → RsOk K B F' H' σ γ v s → q s → Q v H')
    (r : Rp (B.kz K) F v d) (hq : q (.val d)) : Q v H := k v F H (.val d) R (Evl.Ex.refl F) r hq
def fI0 (g : Int → Int → D) : D → D → (RS → Prop) → Prop
  | .int i, .int j, q => q (.val (g i j))
  | _, _, _ => False
def fI (C : Int → Int → Prop) (g : Int → Int → D) : D → D → (RS → Prop) → Prop
  | .int i, .int j, q => C i j ∧ q (.val (g i j))
  | _, _, _ => False
def fU (g : Int → D) : D → (RS → Prop) → Prop
  | .int i, q => q (.val (g i))
  | _, _ => False
section
variable {K : PySem.W.Frag} {B : Bs}
theorem od_I0 {gv : Int → Int → V} {g : Int → Int → D} (h : ∀ i j z F, Rp ⟨K, z⟩ F (gv i j) (g i j)) : OpD K (rI0 gv) (fI0 g) := fun B F H σ γ x y d e Q q R rx ry hf k => by
  unfold fI0 at hf
  split at hf
  · exact ⟨_, _, rx.int, ry.int, vk R k (h _ _ _ F) hf⟩
  · exact hf.elim
theorem od_I {C : Int → Int → Prop} {gv : Int → Int → V} {g : Int → Int → D} (h : ∀ i j z F, Rp ⟨K, z⟩ F (gv i j) (g i j)) : OpD K (rI C gv) (fI C g) := fun B F H σ γ x y d e Q q R rx ry hf k => by
  unfold fI at hf
  split at hf
  · exact ⟨_, _, rx.int, ry.int, hf.1, vk R k (h _ _ _ F) hf.2⟩
  · exact hf.elim
theorem ud_U {gv : Int → V} {g : Int → D} (h : ∀ i z F, Rp ⟨K, z⟩ F (gv i) (g i)) : UnD K (rU gv) (fU g) := fun B F H σ γ x d Q q R rx hf k => by
  unfold fU at hf
  split at hf
  · exact ⟨_, rx.int, vk R k (h _ _ F) hf⟩
  · exact hf.elim
theorem od_add : OpD K (rI0 fun i j => .int (i + j)) (fI0 fun i j => .int (i + j)) := od_I0 fun _ _ _ _ => .int _
theorem od_sub : OpD K (rI0 fun i j => .int (i - j)) (fI0 fun i j => .int (i - j)) := od_I0 fun _ _ _ _ => .int _
theorem od_mul : OpD K (rI CMul fun i j => .int (i * j)) (fI CMul fun i j => .int (i * j)) := od_I fun _ _ _ _ => .int _
theorem od_fdiv : OpD K (rI CDiv fun i j => .int (i / j)) (fI CDiv fun i j => .int (i / j)) := od_I fun _ _ _ _ => .int _
theorem od_mod : OpD K (rI (fun _ j => 0 < j) fun i j => .int (i % j)) (fI (fun _ j => 0 < j) fun i j => .int (i % j)) := od_I fun _ _ _ _ => .int _
theorem od_mulW : OpD K (rI CMulW fun i j => .int (i * j)) (fI CMulW fun i j => .int (i * j)) := od_I fun _ _ _ _ => .int _
theorem od_fdivW : OpD K (rI CDivW fun i j => .int (i / j)) (fI CDivW fun i j => .int (i / j)) := od_I fun _ _ _ _ => .int _
theorem od_pow : OpD K (rI CPow fun i j => .int (i ^ j.toNat)) (fI CPow fun i j => .int (i ^ j.toNat)) := od_I fun _ _ _ _ => .int _
theorem od_shl : OpD K (rI CPow fun i j => .int (i * 2 ^ j.toNat)) (fI CPow fun i j => .int (i * 2 ^ j.toNat)) := od_I fun _ _ _ _ => .int _
theorem od_shr : OpD K (rI (fun _ j => 0 ≤ j) fun i j => .int (i / 2 ^ j.toNat)) (fI (fun _ j => 0 ≤ j) fun i j => .int (i / 2 ^ j.toNat)) := od_I fun _ _ _ _ => .int _
theorem od_bit {g : Int → Int → Int} : OpD K (rI0 fun i j => .int (g i j)) (fI0 fun i j => .int (g i j)) := od_I0 fun _ _ _ _ => .int _
theorem od_lt : OpD K (rI0 fun i j => .bl (decide (i < j))) (fI0 fun i j => .bl (decide (i < j))) := od_I0 fun _ _ _ _ => .bl _
theorem od_le : OpD K (rI0 fun i j => .bl (decide (i ≤ j))) (fI0 fun i j => .bl (decide (i ≤ j))) := od_I0 fun _ _ _ _ => .bl _
theorem od_gt : OpD K (rI0 fun i j => .bl (decide (j < i))) (fI0 fun i j => .bl (decide (j < i))) := od_I0 fun _ _ _ _ => .bl _
theorem od_ge : OpD K (rI0 fun i j => .bl (decide (j ≤ i))) (fI0 fun i j => .bl (decide (j ≤ i))) := od_I0 fun _ _ _ _ => .bl _
theorem ud_neg : UnD K (rU fun i => .int (-i)) (fU fun i => .int (-i)) := ud_U fun _ _ _ => .int _
/-- == of flat things of the kinds that are met -/
def fEq : D → D → (RS → Prop) → Prop
  | .int i, .int j, q => q (.val (.bl (decide (i = j))))
  | .str i, .str j, q => q (.val (.bl (decide (i = j))))
  | .bl i, .bl j, q => q (.val (.bl (decide (i = j))))
  | .non, .non, q => q (.val (.bl true))
  | .int _, .non, q => q (.val (.bl false))
  | .non, .int _, q => q (.val (.bl false))
  | .str _, .non, q => q (.val (.bl false))
  | .non, .str _, q => q (.val (.bl false))
  | .int _, .str _, q => q (.val (.bl false))
  | .str _, .int _, q => q (.val (.bl false))
  | _, _, _ => False
def fNe : D → D → (RS → Prop) → Prop
  | .int i, .int j, q => q (.val (.bl (!decide (i = j))))
  | .str i, .str j, q => q (.val (.bl (!decide (i = j))))
  | .bl i, .bl j, q => q (.val (.bl (!decide (i = j))))
  | .non, .non, q => q (.val (.bl false))
  | .int _, .non, q => q (.val (.bl true))
  | .non, .int _, q => q (.val (.bl true))
  | .str _, .non, q => q (.val (.bl true))
  | .non, .str _, q => q (.val (.bl true))
  | .int _, .str _, q => q (.val (.bl true))
  | .str _, .int _, q => q (.val (.bl true))
  | _, _, _ => False
theorem dec_inj {α : Type} [DecidableEq α] (f : α → V) (h : ∀ a b, f a = f b → a = b) (a b : α) : decide (f a = f b) = decide (a = b) := by
  by_cases e : a = b
  · subst e; simp
  · rw [decide_eq_false e, decide_eq_false fun z => e (h _ _ z)]
theorem od_eq : OpD K rEq fEq := fun B F H σ γ x y d e Q q R rx ry hf k => by
  unfold fEq at hf
  split at hf
  all_goals first
    | exact hf.elim
    | (rw [rx.int, ry.int]; exact ⟨rfl, by rw [dec_inj V.int (fun _ _ e => V.int.inj e)]; exact vk R k (.bl _) hf⟩)
    | (rw [rx.str, ry.str]; exact ⟨rfl, by rw [dec_inj V.str (fun _ _ e => V.str.inj e)]; exact vk R k (.bl _) hf⟩)
    | (rw [rx.bl, ry.bl]; exact ⟨rfl, by rw [dec_inj V.bl (fun _ _ e => V.bl.inj e)]; exact vk R k (.bl _) hf⟩)
    | (rw [rx.non, ry.non]; exact ⟨rfl, vk R k (.bl _) hf⟩)
    | (rw [rx.int, ry.non]; exact ⟨rfl, vk R k (.bl _) hf⟩)
    | (rw [rx.non, ry.int]; exact ⟨rfl, vk R k (.bl _) hf⟩)
    | (rw [rx.str, ry.non]; exact ⟨rfl, vk R k (.bl _) hf⟩)
    | (rw [rx.non, ry.str]; exact ⟨rfl, vk R k (.bl _) hf⟩)
    | (rw [rx.int, ry.str]; exact ⟨rfl, vk R k (.bl _) hf⟩)
    | (rw [rx.str, ry.int]; exact ⟨rfl, vk R k (.bl _) hf⟩)
theorem od_ne : OpD K rNe fNe := fun B F H σ γ x y d e Q q R rx ry hf k => by
  unfold fNe at hf
  split at hf
  all_goals first
    | exact hf.elim
    | (rw [rx.int, ry.int]; exact ⟨rfl, by rw [dec_inj V.int (fun _ _ e => V.int.inj e)]; exact vk R k (.bl _) hf⟩)
    | (rw [rx.str, ry.str]; exact ⟨rfl, by rw [dec_inj V.str (fun _ _ e => V.str.inj e)]; exact vk R k (.bl _) hf⟩)
    | (rw [rx.bl, ry.bl]; exact ⟨rfl, by rw [dec_inj V.bl (fun _ _ e => V.bl.inj e)]; exact vk R k (.bl _) hf⟩)
    | (rw [rx.non, ry.non]; exact ⟨rfl, vk R k (.bl _) hf⟩)
    | (rw [rx.int, ry.non]; exact ⟨rfl, vk R k (.bl _) hf⟩)
    | (rw [rx.non, ry.int]; exact ⟨rfl, vk R k (.bl _) hf⟩)
    | (rw [rx.str, ry.non]; exact ⟨rfl, vk R k (.bl _) hf⟩)
    | (rw [rx.non, ry.str]; exact ⟨rfl, vk R k (.bl _) hf⟩)
    | (rw [rx.int, ry.str]; exact ⟨rfl, vk R k (.bl _) hf⟩)
    | (rw [rx.str, ry.int]; exact ⟨rfl, vk R k (.bl _) hf⟩)
def fIsN : D → D → (RS → Prop) → Prop
  | .non, .non, q => q (.val (.bl true))
  | _, .non, q => q (.val (.bl false))
  | _, _, _ => False
def fNotN : D → D → (RS → Prop) → Prop
  | .non, .non, q => q (.val (.bl false))
  | _, .non, q => q (.val (.bl true))
  | _, _, _ => False
theorem Rs.ne_non {K : KZ} {F H : Hp} {v : V} {d : D} (h : Rs K F H v d) (n : d ≠ .non) : v ≠ .non := fun e => by
  subst e
  rcases h with h | ⟨a, z, _⟩
  · cases h; exact n rfl
  · cases z
theorem od_isN : OpD K (fun x y H Q => y = .non ∧ Q (.bl (decide (x = .non))) H) fIsN := fun B F H σ γ x y d e Q q R rx ry hf k => by
  unfold fIsN at hf
  split at hf
  · rw [rx.non]; exact ⟨ry.non, vk R k (.bl _) hf⟩
  · rename_i n
    refine ⟨ry.non, ?_⟩
    rw [decide_eq_false (rx.ne_non fun z => n z)]
    exact vk R k (.bl _) hf
  · exact hf.elim
theorem od_notN : OpD K (fun x y H Q => y = .non ∧ Q (.bl (!decide (x = .non))) H) fNotN := fun B F H σ γ x y d e Q q R rx ry hf k => by
  unfold fNotN at hf
  split at hf
  · rw [rx.non]; exact ⟨ry.non, vk R k (.bl _) hf⟩
  · rename_i n
    refine ⟨ry.non, ?_⟩
    rw [decide_eq_false (rx.ne_non fun z => n z)]
    exact vk R k (.bl _) hf
  · exact hf.elim
def fAddS : D → D → (RS → Prop) → Prop
  | .str i, .str j, q => i.length + j.length ≤ 1000000 ∧ q (.val (.str (i ++ j)))
  | _, _, _ => False
theorem od_addS : OpD K (fun x y H Q => ∃ i j, x = .str i ∧ y = .str j ∧ i.length + j.length ≤ sizeLine ∧ Q (.str (i ++ j)) H) fAddS := fun B F H σ γ x y d e Q q R rx ry hf k => by
  unfold fAddS at hf
  split at hf
  · exact ⟨_, _, rx.str, ry.str, sz_le hf.1, vk R k (.str _) hf.2⟩
  · exact hf.elim
def fLtS : D → D → (RS → Prop) → Prop
  | .str i, .str j, q => q (.val (.bl (decide (i.cps.toList < j.cps.toList))))
  | _, _, _ => False
theorem od_ltS : OpD K (fun x y H Q => ∃ i j, x = .str i ∧ y = .str j ∧ Q (.bl (decide (i.cps.toList < j.cps.toList))) H) fLtS := fun B F H σ γ x y d e Q q R rx ry hf k => by
  unfold fLtS at hf
  split at hf
  · exact ⟨_, _, rx.str, ry.str, vk R k (.bl _) hf⟩
  · exact hf.elim
end

/-! ### lists and tuples -/
section
variable {K : PySem.W.Frag} {B : Bs} {F H : Hp}
theorem rp_ints {K : KZ} : ∀ {vs : List V} {ns : List Int}, RpAll K F vs (ns.map D.int) → vs = ns.map V.int
  | _, [], .nil => rfl
  | _, n :: ns, .cons h t => by
    cases h
    rw [List.map_cons, rp_ints t]
theorem rp_bls {K : KZ} : ∀ {vs : List V} {ns : List Bool}, RpAll K F vs (ns.map D.bl) → vs = ns.map V.bl
  | _, [], .nil => rfl
  | _, n :: ns, .cons h t => by
    cases h
    rw [List.map_cons, rp_bls t]
theorem rp_strs {K : KZ} : ∀ {vs : List V} {ns : List Str}, RpAll K F vs (ns.map D.str) → vs = ns.map V.str
  | _, [], .nil => rfl
  | _, n :: ns, .cons h t => by
    cases h
    rw [List.map_cons, rp_strs t]
theorem ints_rp {K : KZ} : ∀ ns : List Int, RpAll K F (ns.map V.int) (ns.map D.int)
  | [] => .nil
  | n :: ns => .cons (.int n) (ints_rp ns)
theorem strs_rp {K : KZ} : ∀ ns : List Str, RpAll K F (ns.map V.str) (ns.map D.str)
  | [] => .nil
  | n :: ns => .cons (.str n) (strs_rp ns)
theorem bls_rp {K : KZ} : ∀ ns : List Bool, RpAll K F (ns.map V.bl) (ns.map D.bl)
  | [] => .nil
  | n :: ns => .cons (.bl n) (bls_rp ns)
theorem Rs.scr {K : KZ} {ns : List Int} {v : V} (e : Ex F H) (h : Rs K F H v (.scr ns)) : ∃ a, v = .ref a ∧ SqL K H a (ns.map V.int) := by
  rcases h with h | ⟨a, rfl, ⟨_, _, e, _⟩ | ⟨_, _, _, _, e, _⟩ | ⟨_, _, e, _⟩⟩
  · cases h with
    | scr h1 => exact ⟨_, rfl, ex_l e h1⟩
  all_goals cases e
theorem Rs.seq {K : KZ} {ds : List D} {v : V} {d : D} (e : Ex F H) (h : Rs K F H v d) (hd : d = .lst ds ∨ d = .tup ds ∨ (∃ ns, d = .scr ns ∧ ds = ns.map D.int)) : ∃ a vs, v = .ref a ∧ (SqL K H a vs ∨ SqT K H a vs) ∧ RpAll K F vs ds := by
  rcases hd with rfl | rfl | ⟨ns, rfl, rfl⟩
  · obtain ⟨a, vs, h1, h2, h3⟩ := h.lst e; exact ⟨a, vs, h1, .inl (Evl.sq_of h2), h3⟩
  · obtain ⟨a, vs, h1, h2, h3⟩ := h.tup e; exact ⟨a, vs, h1, .inr h2, h3⟩
  · obtain ⟨a, h1, h2⟩ := h.scr e; exact ⟨a, _, h1, .inl h2, ints_rp ns⟩
def fCat : D → D → (RS → Prop) → Prop
  | .lst xs, .lst ys, q => xs.length + ys.length ≤ 1000000 ∧ q (.new (.lst (xs ++ ys)))
  | _, _, _ => False
theorem od_cat : OpD K rCat fCat := fun B F H σ γ x y d e Q q R rx ry hf k => by
  unfold fCat at hf
  split at hf
  · obtain ⟨a, vs, rfl, h1, r1⟩ := rx.lst R.fh
    obtain ⟨b, ws, rfl, h2, r2⟩ := ry.lst R.fh
    refine ⟨a, b, vs, ws, rfl, rfl, h1, h2, sz_le (by rw [r1.length, r2.length]; exact hf.1), fun p hp => ?_⟩
    obtain ⟨R', ok⟩ := R.newL hp (RpAll.of (P_app r1.p r2.p))
    exact k _ F _ _ R' (Evl.Ex.refl F) ok hf.2
  · exact hf.elim
def fRep : D → D → (RS → Prop) → Prop
  | .lst xs, .int n, q => -1000000 ≤ n ∧ n ≤ 1000000 ∧ xs.length * n.toNat ≤ 1000000 ∧ q (.new (.lst (List.replicate n.toNat xs).flatten))
  | _, _, _ => False
theorem od_rep : OpD K rRep fRep := fun B F H σ γ x y d e Q q R rx ry hf k => by
  unfold fRep at hf
  split at hf
  · obtain ⟨a, vs, rfl, h1, r1⟩ := rx.lst R.fh
    obtain ⟨n1, n2, n3, hq⟩ := hf
    refine ⟨a, _, vs, rfl, ry.int, h1, by omega, by omega, sz_le (by rw [r1.length]; exact n3), fun p hp => ?_⟩
    obtain ⟨R', ok⟩ := R.newL hp (RpAll.of (P_rep r1.p _))
    exact k _ F _ _ R' (Evl.Ex.refl F) ok hq
  · exact hf.elim
theorem atI_p {G : V → D → Prop} {vs : List V} {ds : List D} {i : Int} {d : D} (h : Paired G vs ds) (e : atI ds i = some d) : ∃ v, atI vs i = some v ∧ G v d := by
  unfold atI at e ⊢
  rw [P_len h]
  cases hn : ixN ds.length i with
  | none => rw [hn] at e; cases e
  | some j =>
    rw [hn] at e
    exact P_get h e
def fIxL : D → D → (RS → Prop) → Prop
  | .lst xs, .int i, q => ∃ d, atI xs i = some d ∧ q (.val d)
  | .scr ns, .int i, q => ∃ n, atI ns i = some n ∧ q (.val (.int n))
  | _, _, _ => False
theorem atI_map {α β : Type} {f : α → β} {xs : List α} {i : Int} {x : α} (h : atI xs i = some x) : atI (xs.map f) i = some (f x) := by
  unfold atI at h ⊢
  rw [List.length_map]
  cases hn : ixN xs.length i with
  | none => rw [hn] at h; cases h
  | some j =>
    rw [hn] at h
    show (xs.map f)[j]? = _
    rw [List.getElem?_map, show xs[j]? = some x from h]; rfl
theorem od_ixL : OpD K (rIxL K) fIxL := fun B F H σ γ x y d e Q q R rx ry hf k => by
  unfold fIxL at hf
  split at hf
  · obtain ⟨a, vs, rfl, h1, r1⟩ := rx.lst R.fh
    obtain ⟨d, hd, hq⟩ := hf
    obtain ⟨v, hv, rv⟩ := atI_p r1.p hd
    exact ⟨a, vs, _, v, rfl, ry.int, Evl.sq_of h1, hv, vk R k rv hq⟩
  · obtain ⟨a, rfl, h1⟩ := rx.scr R.fh
    obtain ⟨n, hn, hq⟩ := hf
    exact ⟨a, _, _, .int n, rfl, ry.int, h1, atI_map hn, vk R k (.int n) hq⟩
  · exact hf.elim
def fIxT : D → D → (RS → Prop) → Prop
  | .tup xs, .int i, q => ∃ d, atI xs i = some d ∧ q (.val d)
  | _, _, _ => False
theorem od_ixT : OpD K (rIxT K) fIxT := fun B F H σ γ x y d e Q q R rx ry hf k => by
  unfold fIxT at hf
  split at hf
  · obtain ⟨a, vs, rfl, h1, r1⟩ := rx.tup R.fh
    obtain ⟨d, hd, hq⟩ := hf
    obtain ⟨v, hv, rv⟩ := atI_p r1.p hd
    exact ⟨a, vs, _, v, rfl, ry.int, h1, hv, vk R k rv hq⟩
  · exact hf.elim
def fIxS : D → D → (RS → Prop) → Prop
  | .str z, .int i, q => z.length ≤ 1000000 ∧ ∃ c, atI z.cps.toList i = some c ∧ q (.val (.str ⟨#[c]⟩))
  | _, _, _ => False
theorem od_ixS : OpD K rIxS fIxS := fun B F H σ γ x y d e Q q R rx ry hf k => by
  unfold fIxS at hf
  split at hf
  · obtain ⟨hz, c, hc, hq⟩ := hf
    exact ⟨_, _, c, rx.str, ry.int, sz_le hz, hc, vk R k (.str _) hq⟩
  · exact hf.elim

/-! ### built-in calls -/
def fLen : List D → (RS → Prop) → Prop
  | [.lst xs], q => q (.val (.int xs.length))
  | [.tup xs], q => q (.val (.int xs.length))
  | [.scr xs], q => q (.val (.int xs.length))
  | _, _ => False
theorem one_rs {P : V → D → Prop} {xs : List V} {d : D} (h : Paired P xs [d]) : ∃ x, xs = [x] ∧ P x d := by
  cases h with
  | cons r t => cases t; exact ⟨_, rfl, r⟩
theorem two_rs {P : V → D → Prop} {xs : List V} {d e : D} (h : Paired P xs [d, e]) : ∃ x y, xs = [x, y] ∧ P x d ∧ P y e := by
  cases h with
  | cons r t =>
    obtain ⟨y, rfl, ry⟩ := one_rs t
    exact ⟨_, _, rfl, r, ry⟩
theorem cd_len : CallD K (fun xs H Q => ∃ p ys, xs = [.ref p] ∧ (SqL K H p ys ∨ SqT K H p ys) ∧ Q (.int ys.length) H) fLen := fun B F H σ γ xs ds Q q R rx hf k => by
  unfold fLen at hf
  split at hf
  · obtain ⟨x, rfl, r⟩ := one_rs rx
    obtain ⟨a, vs, rfl, h1, r1⟩ := r.seq R.fh (.inl rfl)
    exact ⟨a, vs, rfl, h1, by rw [r1.length]; exact vk R k (.int _) hf⟩
  · obtain ⟨x, rfl, r⟩ := one_rs rx
    obtain ⟨a, vs, rfl, h1, r1⟩ := r.seq R.fh (.inr (.inl rfl))
    exact ⟨a, vs, rfl, h1, by rw [r1.length]; exact vk R k (.int _) hf⟩
  · obtain ⟨x, rfl, r⟩ := one_rs rx
    obtain ⟨a, vs, rfl, h1, r1⟩ := r.seq R.fh (.inr (.inr ⟨_, rfl, rfl⟩))
    refine ⟨a, vs, rfl, h1, ?_⟩
    have e := r1.length
    rw [List.length_map] at e
    rw [e]; exact vk R k (.int _) hf
  · exact hf.elim
def fLenS : List D → (RS → Prop) → Prop
  | [.str x], q => x.length ≤ 1000000 ∧ q (.val (.int x.length))
  | _, _ => False
theorem cd_lenS : CallD K (fun xs H Q => ∃ z, xs = [.str z] ∧ z.length ≤ sizeLine ∧ Q (.int z.length) H) fLenS := fun B F H σ γ xs ds Q q R rx hf k => by
  unfold fLenS at hf
  split at hf
  · obtain ⟨x, rfl, r⟩ := one_rs rx
    rw [r.str]
    exact ⟨_, rfl, sz_le hf.1, vk R k (.int _) hf.2⟩
  · exact hf.elim
def fInt : List D → (RS → Prop) → Prop
  | [.int i], q => q (.val (.int i))
  | [.bl b], q => q (.val (.int (if b then 1 else 0)))
  | _, _ => False
theorem cd_int : CallD K (fun xs H Q => (∃ i, xs = [.int i] ∧ Q (.int i) H) ∨ ∃ k, xs = [.bl k] ∧ Q (.int (if k then 1 else 0)) H) fInt := fun B F H σ γ xs ds Q q R rx hf k => by
  unfold fInt at hf
  split at hf
  · obtain ⟨x, rfl, r⟩ := one_rs rx
    rw [r.int]
    exact .inl ⟨_, rfl, vk R k (.int _) hf⟩
  · obtain ⟨x, rfl, r⟩ := one_rs rx
    rw [r.bl]
    exact .inr ⟨_, rfl, vk R k (.int _) hf⟩
  · exact hf.elim
def fAbs : List D → (RS → Prop) → Prop
  | [.int i], q => q (.val (.int (if i < 0 then -i else i)))
  | _, _ => False
theorem cd_abs : CallD K (fun xs H Q => ∃ i, xs = [.int i] ∧ Q (.int (if i < 0 then -i else i)) H) fAbs := fun B F H σ γ xs ds Q q R rx hf k => by
  unfold fAbs at hf
  split at hf
  · obtain ⟨x, rfl, r⟩ := one_rs rx
    rw [r.int]
    exact ⟨_, rfl, vk R k (.int _) hf⟩
  · exact hf.elim
def fI2 (g : Int → Int → Int) : List D → (RS → Prop) → Prop
  | [.int i, .int j], q => q (.val (.int (g i j)))
  | _, _ => False
theorem cd_I2 {g : Int → Int → Int} : CallD K (fun xs H Q => ∃ i j, xs = [.int i, .int j] ∧ Q (.int (g i j)) H) (fI2 g) := fun B F H σ γ xs ds Q q R rx hf k => by
  unfold fI2 at hf
  split at hf
  · obtain ⟨x, y, rfl, r, r'⟩ := two_rs rx
    rw [r.int, r'.int]
    exact ⟨_, _, rfl, vk R k (.int _) hf⟩
  · exact hf.elim
def fSum : List D → (RS → Prop) → Prop
  | [.lst ds], q => ∃ ns : List Int, ds = ns.map D.int ∧ q (.val (.int ns.sum))
  | _, _ => False
theorem cd_sum : CallD K (rSum K) fSum := fun B F H σ γ xs ds Q q R rx hf k => by
  unfold fSum at hf
  split at hf
  · obtain ⟨x, rfl, r⟩ := one_rs rx
    obtain ⟨ns, rfl, hq⟩ := hf
    obtain ⟨a, vs, rfl, h1, r1⟩ := r.lst R.fh
    rw [rp_ints r1] at h1
    exact ⟨a, ns, rfl, Evl.sq_of h1, vk R k (.int _) hq⟩
  · exact hf.elim
def fMin : List D → (RS → Prop) → Prop
  | [.lst ds], q => ∃ ns : List Int, ds = ns.map D.int ∧ 0 < ns.length ∧ ∀ m, m ∈ ns → (∀ y, y ∈ ns → m ≤ y) → q (.val (.int m))
  | _, _ => False
theorem cd_min : CallD K (rMin K) fMin := fun B F H σ γ xs ds Q q R rx hf k => by
  unfold fMin at hf
  split at hf
  · obtain ⟨x, rfl, r⟩ := one_rs rx
    obtain ⟨ns, rfl, hl, hq⟩ := hf
    obtain ⟨a, vs, rfl, h1, r1⟩ := r.lst R.fh
    rw [rp_ints r1] at h1
    exact ⟨a, ns, rfl, Evl.sq_of h1, hl, fun m h2 h3 => vk R k (.int _) (hq m h2 h3)⟩
  · exact hf.elim
def fMax : List D → (RS → Prop) → Prop
  | [.lst ds], q => ∃ ns : List Int, ds = ns.map D.int ∧ 0 < ns.length ∧ ∀ m, m ∈ ns → (∀ y, y ∈ ns → y ≤ m) → q (.val (.int m))
  | _, _ => False
theorem cd_max : CallD K (rMax K) fMax := fun B F H σ γ xs ds Q q R rx hf k => by
  unfold fMax at hf
  split at hf
  · obtain ⟨x, rfl, r⟩ := one_rs rx
    obtain ⟨ns, rfl, hl, hq⟩ := hf
    obtain ⟨a, vs, rfl, h1, r1⟩ := r.lst R.fh
    rw [rp_ints r1] at h1
    exact ⟨a, ns, rfl, Evl.sq_of h1, hl, fun m h2 h3 => vk R k (.int _) (hq m h2 h3)⟩
  · exact hf.elim
def fAll : List D → (RS → Prop) → Prop
  | [.lst ds], q => ∃ bs : List Bool, ds = bs.map D.bl ∧ q (.val (.bl (bs.all id)))
  | _, _ => False
theorem cd_all : CallD K (rAll K) fAll := fun B F H σ γ xs ds Q q R rx hf k => by
  unfold fAll at hf
  split at hf
  · obtain ⟨x, rfl, r⟩ := one_rs rx
    obtain ⟨ns, rfl, hq⟩ := hf
    obtain ⟨a, vs, rfl, h1, r1⟩ := r.lst R.fh
    rw [rp_bls r1] at h1
    exact ⟨a, ns, rfl, Evl.sq_of h1, vk R k (.bl _) hq⟩
  · exact hf.elim
def fAny : List D → (RS → Prop) → Prop
  | [.lst ds], q => ∃ bs : List Bool, ds = bs.map D.bl ∧ q (.val (.bl (bs.any id)))
  | _, _ => False
theorem cd_any : CallD K (rAny K) fAny := fun B F H σ γ xs ds Q q R rx hf k => by
  unfold fAny at hf
  split at hf
  · obtain ⟨x, rfl, r⟩ := one_rs rx
    obtain ⟨ns, rfl, hq⟩ := hf
    obtain ⟨a, vs, rfl, h1, r1⟩ := r.lst R.fh
    rw [rp_bls r1] at h1
    exact ⟨a, ns, rfl, Evl.sq_of h1, vk R k (.bl _) hq⟩
  · exact hf.elim
def fList : List D → (RS → Prop) → Prop
  | [.lst xs], q => q (.new (.lst xs))
  | [.tup xs], q => q (.new (.lst xs))
  | [.scr ns], q => q (.new (.lst (ns.map D.int)))
  | _, _ => False
theorem cd_list : CallD K (fun xs H Q => ∃ p ys, xs = [.ref p] ∧ (SqL K H p ys ∨ SqT K H p ys) ∧ ∀ l, H l = none → Q (.ref l) (upd H l (.lst ys))) fList := fun B F H σ γ xs ds Q q R rx hf k => by
  have key : ∀ {d : D} {ys : List D}, Paired (Rs (B.kz K) F H) xs [d] → (d = .lst ys ∨ d = .tup ys ∨ (∃ ns, d = .scr ns ∧ ys = ns.map D.int)) → q (.new (.lst ys)) → ∃ p ys, xs = [.ref p] ∧ (SqL K H p ys ∨ SqT K H p ys) ∧ ∀ l, H l = none → Q (.ref l) (upd H l (.lst ys)) := fun rx hd hq => by
    obtain ⟨x, rfl, r⟩ := one_rs rx
    obtain ⟨a, vs, rfl, h1, r1⟩ := r.seq R.fh hd
    refine ⟨a, vs, rfl, h1, fun l hl => ?_⟩
    obtain ⟨R', ok⟩ := R.newL hl r1
    exact k _ F _ _ R' (Evl.Ex.refl F) ok hq
  unfold fList at hf
  split at hf
  · exact key rx (.inl rfl) hf
  · exact key rx (.inr (.inl rfl)) hf
  · exact key rx (.inr (.inr ⟨_, rfl, rfl⟩)) hf
  · exact hf.elim
def fTuple : List D → (RS → Prop) → Prop
  | [.lst xs], q => q (.val (.tup xs))
  | [.tup xs], q => q (.val (.tup xs))
  | _, _ => False
/-- a tuple that is handed on is itself frozen -/
theorem Rs.tupF {K : KZ} {F H : Hp} {v : V} {ds : List D} (h : Rs K F H v (.tup ds)) : Rp K F v (.tup ds) := by
  rcases h with h | ⟨a, rfl, ⟨_, _, e, _⟩ | ⟨_, _, _, _, e, _⟩ | ⟨_, _, e, _⟩⟩
  · exact h
  all_goals cases e
theorem cd_tuple : CallD K (fun xs H Q => ∃ p ys, xs = [.ref p] ∧ ((SqL K H p ys ∧ ∀ l, H l = none → Q (.ref l) (upd H l (.tup ys))) ∨ (SqT K H p ys ∧ Q (.ref p) H))) fTuple := fun B F H σ γ xs ds Q q R rx hf k => by
  unfold fTuple at hf
  split at hf
  · obtain ⟨x, rfl, r⟩ := one_rs rx
    obtain ⟨a, vs, rfl, h1, r1⟩ := r.lst R.fh
    refine ⟨a, vs, rfl, .inl ⟨Evl.sq_of h1, fun l hl => ?_⟩⟩
    obtain ⟨R', ex, rp⟩ := R.newT hl r1
    exact k _ _ _ (.val _) R' ex rp hf
  · obtain ⟨x, rfl, r⟩ := one_rs rx
    have rf := r.tupF
    obtain ⟨a, vs, rfl, h1, r1⟩ := r.tup R.fh
    exact ⟨a, vs, rfl, .inr ⟨h1, vk R k rf hf⟩⟩
  · exact hf.elim
/-! isinstance -/
def D.cls : D → String
  | .non => "NoneType" | .bl _ => "bool" | .int _ => "int" | .str _ => "str" | .lst _ => "list" | .tup _ => "tuple" | .dct _ => "dict" | .scr _ => "list" | .ref _ => "" | .ty _ => "" | .obj _ _ => "" | .fr _ => "" | .kls _ => ""
theorem kb_ii : kitB "int" "int" = some true := by decide +kernel
theorem kb_ib : kitB "int" "bool" = some false := by decide +kernel
theorem kb_il : kitB "int" "list" = some false := by decide +kernel
theorem kb_it : kitB "int" "tuple" = some false := by decide +kernel
theorem kb_is : kitB "int" "str" = some false := by decide +kernel
theorem kb_bi : kitB "bool" "int" = some true := by decide +kernel
theorem kb_bb : kitB "bool" "bool" = some true := by decide +kernel
theorem kb_li : kitB "list" "int" = some false := by decide +kernel
theorem kb_ll : kitB "list" "list" = some true := by decide +kernel
theorem kb_lt : kitB "list" "tuple" = some false := by decide +kernel
theorem kb_ti : kitB "tuple" "int" = some false := by decide +kernel
theorem kb_tt : kitB "tuple" "tuple" = some true := by decide +kernel
theorem kb_tl : kitB "tuple" "list" = some false := by decide +kernel
theorem kb_si : kitB "str" "int" = some false := by decide +kernel
theorem kb_sb : kitB "str" "bool" = some false := by decide +kernel
theorem kb_ss : kitB "str" "str" = some true := by decide +kernel
theorem kb_ni : kitB "NoneType" "int" = some false := by decide +kernel
theorem kb_nl : kitB "NoneType" "list" = some false := by decide +kernel
theorem kb_nt : kitB "NoneType" "tuple" = some false := by decide +kernel
def fIsi : List D → (RS → Prop) → Prop
  | [.int _, .ty n], q => ∃ r, kitB "int" n = some r ∧ q (.val (.bl r))
  | [.bl _, .ty n], q => ∃ r, kitB "bool" n = some r ∧ q (.val (.bl r))
  | [.str _, .ty n], q => ∃ r, kitB "str" n = some r ∧ q (.val (.bl r))
  | [.non, .ty n], q => ∃ r, kitB "NoneType" n = some r ∧ q (.val (.bl r))
  | [.lst _, .ty n], q => ∃ r, kitB "list" n = some r ∧ q (.val (.bl r))
  | [.tup _, .ty n], q => ∃ r, kitB "tuple" n = some r ∧ q (.val (.bl r))
  | [.dct _, .ty n], q => ∃ r, kitB "dict" n = some r ∧ q (.val (.bl r))
  | _, _ => False
theorem Rs.ty {K : KZ} {n : String} {v : V} (h : Rs K F H v (.ty n)) : v = .ty n := by
  rcases h with h | ⟨a, rfl, ⟨_, _, e, _⟩ | ⟨_, _, _, _, e, _⟩ | ⟨_, _, e, _⟩⟩
  · cases h; rfl
  all_goals cases e
theorem tyx_tup {a : Addr} {vs : List V} (h : SqT K H a vs) : TyX K H (.ref a) (.type "tuple") := by
  rcases h with (h | ⟨o, h⟩) | ⟨o, its, n, h1, h2, _⟩
  · exact .base (.tup h)
  · exact .fTuple h
  · exact .kTuple h1 h2
theorem Rs.dct {K : KZ} {kd : List (Key × D)} {v : V} (e : Ex F H) (h : Rs K F H v (.dct kd)) : ∃ a kv, v = .ref a ∧ H a = some (.dK kv) ∧ RpKs K F kv kd := by
  rcases h with h | ⟨a, rfl, ⟨vs, _, e, h1, h2⟩ | ⟨_, _, _, _, e, _⟩ | ⟨kv, kd', e1, h1, h2⟩⟩
  · cases h with
    | dct h1 h2 => exact ⟨_, _, rfl, e _ _ h1, h2⟩
  · cases e
  · cases e
  · cases e1; exact ⟨a, kv, rfl, h1, h2⟩
theorem cd_isi : CallD K (rIsi K) fIsi := fun B F H σ γ xs ds Q q R rx hf k => by
  have go : ∀ {x : V} {n a : String} {r : Bool}, TyX K H x (.type a) → kitB a n = some r → q (.val (.bl r)) → rIsi K [x, .ty n] H Q := fun t hi hq =>
    ⟨_, _, _, _, _, rfl, .ty _, t, kit_ty hi, vk R k (.bl _) hq⟩
  unfold fIsi at hf
  split at hf
  all_goals first
    | exact hf.elim
    | (obtain ⟨x, y, rfl, r, r'⟩ := two_rs rx; obtain ⟨b, hi, hq⟩ := hf; rw [r'.ty])
  · rw [r.int]; exact go (.base (.int _)) hi hq
  · rw [r.bl]; exact go (.base (.bl _)) hi hq
  · rw [r.str]; exact go (.base (.str _)) hi hq
  · rw [r.non]; exact go (.base .non) hi hq
  · obtain ⟨a, vs, rfl, h1, r1⟩ := r.lst R.fh; exact go (.base (.lst h1)) hi hq
  · obtain ⟨a, vs, rfl, h1, r1⟩ := r.tup R.fh; exact go (tyx_tup h1) hi hq
  · obtain ⟨a, vs, rfl, h1, r1⟩ := r.dct R.fh; exact go (.base (.dK h1)) hi hq
end
end DL

set_option Elab.async false
set_option linter.all false
set_option maxRecDepth 100000
set_option maxHeartbeats 2000000
namespace DL
open PySem PySem.Spec PyProof.Rows L2
open Evl (Ex ex_l ex_t)

/-! ### == at any depth -/
mutual
def D.py : D → PyData
  | .non => .none | .bl b => .bool b | .int i => .int i | .str x => .str x | .ref _ => .none | .ty _ => .none | .kls _ => .none
  | .lst xs => .list (pyAll xs) | .tup xs => .tuple (pyAll xs) | .obj _ _ => .none | .dct _ => .none | .fr _ => .none | .scr ns => .list (ns.map PyData.int)
def pyAll : List D → List PyData
  | [] => []
  | x :: xs => x.py :: pyAll xs
end
mutual
def D.pure : D → Bool
  | .non => true | .bl _ => true | .int _ => true | .str _ => true | .ref _ => false | .ty _ => false | .kls _ => false
  | .lst xs => pureAll xs | .tup xs => pureAll xs | .obj _ _ => false | .dct _ => false | .fr _ => false | .scr _ => true
def pureAll : List D → Bool
  | [] => true
  | x :: xs => x.pure && pureAll xs
end
theorem pyAll_map {α : Type} (f : α → D) (g : α → PyData) (h : ∀ x, (f x).py = g x) : ∀ xs : List α, pyAll (xs.map f) = xs.map g
  | [] => rfl
  | x :: xs => by rw [List.map_cons, List.map_cons, pyAll, h, pyAll_map f g h xs]
theorem pureAll_map {α : Type} (f : α → D) (h : ∀ x, (f x).pure = true) : ∀ xs : List α, pureAll (xs.map f) = true
  | [] => rfl
  | x :: xs => by rw [List.map_cons, pureAll, h, pureAll_map f h xs]; rfl
def dOk (d : D) : Bool := d.pure && SeqAt.shaped d.py
def deq (d e : D) : Bool := PyData.eqv d.py e.py
section
variable {K : PySem.W.Frag} {B : Bs} {F H : Hp}
theorem dp_ints : ∀ ns : List Int, DpAll K H (ns.map V.int) (ns.map PyData.int)
  | [] => .nil
  | n :: ns => .cons (.int n) (dp_ints ns)
mutual
theorem Rp.dp {K : KZ} (e : Ex F H) : ∀ {v : V} {d : D}, Rp K F v d → d.pure = true → Dp K H v d.py
  | _, _, .non, _ => .non
  | _, _, .bl b, _ => .bl b
  | _, _, .int i, _ => .int i
  | _, _, .str x, _ => .str x
  | _, _, .lst h a, p => .lst (Evl.sq_of (e _ _ h)) (RpAll.dp e a p)
  | _, _, .tup h a, p => .tup (ex_t e h) (RpAll.dp e a p)
  | _, _, .scr h, _ => .lst (ex_l e h) (dp_ints _)
theorem RpAll.dp {K : KZ} (e : Ex F H) : ∀ {v : List V} {d : List D}, RpAll K F v d → pureAll d = true → DpAll K H v (pyAll d)
  | _, _, .nil, _ => .nil
  | _, _, .cons h t, p => .cons (Rp.dp e h (Bool.and_eq_true_iff.mp p).1) (RpAll.dp e t (Bool.and_eq_true_iff.mp p).2)
end
theorem Rs.dp {K : KZ} {v : V} {d : D} (e : Ex F H) (h : Rs K F H v d) (p : d.pure = true) : Dp K H v d.py := by
  rcases h with h | ⟨a, rfl, ⟨vs, ds, rfl, h1, h2⟩ | ⟨_, _, _, _, rfl, _⟩ | ⟨_, _, rfl, _⟩⟩
  · exact h.dp e p
  · exact .lst (Evl.sq_of h1) (h2.dp e p)
  · cases p
  · cases p
def fEqD (d e : D) (q : RS → Prop) : Prop := dOk d = true ∧ dOk e = true ∧ q (.val (.bl (deq d e)))
def fNeD (d e : D) (q : RS → Prop) : Prop := dOk d = true ∧ dOk e = true ∧ q (.val (.bl (!deq d e)))
theorem od_eqD : OpD K (rEqD K) fEqD := fun B F H σ γ x y d e Q q R rx ry hf k => by
  obtain ⟨h1, h2, h3⟩ := hf
  obtain ⟨p1, s1⟩ := Bool.and_eq_true_iff.mp h1
  obtain ⟨p2, s2⟩ := Bool.and_eq_true_iff.mp h2
  exact ⟨_, _, rx.dp R.fh p1, ry.dp R.fh p2, s1, s2, vk R k (.bl _) h3⟩
theorem od_neD : OpD K (rNeD K) fNeD := fun B F H σ γ x y d e Q q R rx ry hf k => by
  obtain ⟨h1, h2, h3⟩ := hf
  obtain ⟨p1, s1⟩ := Bool.and_eq_true_iff.mp h1
  obtain ⟨p2, s2⟩ := Bool.and_eq_true_iff.mp h2
  exact ⟨_, _, rx.dp R.fh p1, ry.dp R.fh p2, s1, s2, vk R k (.bl _) h3⟩
end

/-! ### slices -/
def cut {α : Type} (xs : List α) (lo hi : Option Int) : List α := (xs.drop (HT.sIx xs.length 0 lo)).take (HT.sIx xs.length xs.length hi - HT.sIx xs.length 0 lo)
theorem cut_p {G : V → D → Prop} {vs : List V} {ds : List D} {lo hi : Option Int} (h : Paired G vs ds) : Paired G (cutV vs lo hi) (cut ds lo hi) := by
  unfold cutV cut
  rw [P_len h]
  exact P_take _ (P_drop _ h)
theorem cut_map {α β : Type} (f : α → β) (xs : List α) (lo hi : Option Int) : cut (xs.map f) lo hi = (cut xs lo hi).map f := by
  unfold cut
  rw [List.length_map, List.map_take, List.map_drop]
abbrev DO := Env → (Option Int → Env → Prop) → Prop
def SO (K : PySem.W.Frag) (B : Bs) (to : TO) (dd : DO) : Prop := ∀ (F H : Hp) (σ : L2.St) (γ : Env) (Q : Option Int → Hp → Prop) (q : Option Int → Env → Prop), Rep K B F H σ γ → dd γ q →
  (∀ b F' H' γ', Rep K B F' H' σ γ' → Ex F F' → q b γ' → Q b H') → to σ H Q
structure XO (X : Cx) (B : Bs) (e : Option Expr) (to : TO) (dd : DO) : Prop where
  po : PO X e to
  so : SO X.K B to dd
def dNo (γ : Env) (q : Option Int → Env → Prop) : Prop := q none γ
def dPart (de : DE) (γ : Env) (q : Option Int → Env → Prop) : Prop := de γ fun s γ1 => match s.data with
  | .int i => q (some i) γ1
  | _ => False
theorem xo_none {X : Cx} {B : Bs} : XO X B none tNoPart dNo := ⟨po_none, fun F H σ γ Q q R hq k => k none F H γ R (Evl.Ex.refl F) hq⟩
theorem xo_some {X : Cx} {B : Bs} {e : Expr} {te : TE} {de : DE} (h : XE X B e te de) : XO X B (some e) (tPart te) (dPart de) := ⟨po_some h.pe, fun F H σ γ Q q R hq k => by
  refine h.se F H σ γ _ _ R hq fun v F1 H1 γ1 s R1 e1 o1 h1 => ?_
  split at h1
  · rename_i i es
    have r := o1.rs R1
    rw [es] at r
    exact ⟨i, r.int, k _ F1 H1 γ1 R1 e1 h1⟩
  · exact h1.elim⟩
def dSl (f : D → Option Int → Option Int → (RS → Prop) → Prop) (de : DE) (dl dh : DO) (γ : Env) (q : RS → Env → Prop) : Prop := de γ fun s γ1 => dl γ1 fun lo γ2 => dh γ2 fun hi γ3 => s.ok γ3 ∧ f s.data lo hi fun r => q r γ3
def SlD (K : PySem.W.Frag) (r : V → Option Int → Option Int → Hp → VK → Prop) (f : D → Option Int → Option Int → (RS → Prop) → Prop) : Prop := ∀ (B : Bs) (F H : Hp) (σ : L2.St) (γ : Env) (x : V) (d : D) (lo hi : Option Int) (Q : VK) (q : RS → Prop), Rep K B F H σ γ → Rs (B.kz K) F H x d → f d lo hi q →
  (∀ v F' H' s, Rep K B F' H' σ γ → Ex F F' → RsOk K B F' H' σ γ v s → q s → Q v H') → r x lo hi H Q
theorem x_sl {X : Cx} {B : Bs} {e : Expr} {lo hi : Option Expr} {p2 pos : Pos} {te : TE} {de : DE} {tl th : TO} {dl dh : DO} {r : V → Option Int → Option Int → Hp → VK → Prop} {f : D → Option Int → Option Int → (RS → Prop) → Prop} (hr : SlR X r) (hf : SlD X.K r f) (he : XE X B e te de) (hl : XO X B lo tl dl) (hh : XO X B hi th dh) :
    XE X B (.Subscript e (.Slice lo hi none p2) pos) (tSl r te tl th) (dSl f de dl dh) := ⟨pe_slice hr he.pe hl.po hh.po, fun F H σ γ Q q R hq k => by
  refine he.se F H σ γ _ _ R hq fun x F1 H1 γ1 s R1 e1 o1 h1 => ?_
  obtain ⟨F2, R2, e2, o2⟩ := o1.fz R1
  refine hl.so F2 H1 σ γ1 _ _ R2 h1 fun a F3 H3 γ3 R3 e3 h3 => ?_
  refine hh.so F3 H3 σ γ3 _ _ R3 h3 fun b F4 H4 γ4 R4 e4 ⟨h4, h5⟩ => ?_
  have ox := (o2.later (e3.trans e4) R4 (fz_ok s γ4 h4) (fz_idem s)).rs R4
  rw [RS.fz_data] at ox
  exact hf B F4 H4 σ γ4 x _ a b Q _ R4 ox h5 fun v F5 H5 u R5 e5 o5 h6 => k v F5 H5 γ4 u R5 ((((e1.trans e2).trans e3).trans e4).trans e5) o5 h6⟩
def fSlL : D → Option Int → Option Int → (RS → Prop) → Prop
  | .lst xs, lo, hi, q => q (.new (.lst (cut xs lo hi)))
  | .scr ns, lo, hi, q => q (.new (.lst ((cut ns lo hi).map D.int)))
  | _, _, _, _ => False
theorem sd_list {K : PySem.W.Frag} : SlD K (rSlL K) fSlL := fun B F H σ γ x d lo hi Q q R rx hf k => by
  unfold fSlL at hf
  split at hf
  · obtain ⟨a, vs, rfl, h1, r1⟩ := rx.lst R.fh
    refine ⟨a, vs, rfl, Evl.sq_of h1, fun p hp => ?_⟩
    obtain ⟨R', ok⟩ := R.newL hp (RpAll.of (cut_p r1.p))
    exact k _ F _ _ R' (Evl.Ex.refl F) ok hf
  · obtain ⟨a, rfl, h1⟩ := rx.scr R.fh
    refine ⟨a, _, rfl, h1, fun p hp => ?_⟩
    obtain ⟨R', ok⟩ := R.newL hp (RpAll.of (cut_p (ints_rp (K := B.kz K) (F := F) _).p))
    rw [cut_map] at ok
    exact k _ F _ _ R' (Evl.Ex.refl F) ok hf
  · exact hf.elim
def fSlT : D → Option Int → Option Int → (RS → Prop) → Prop
  | .tup xs, lo, hi, q => q (.val (.tup (cut xs lo hi)))
  | _, _, _, _ => False
def fRev : D → (RS → Prop) → Prop
  | .lst xs, q => q (.new (.lst xs.reverse))
  | _, _ => False
theorem x_revL {X : Cx} {B : Bs} {e : Expr} {te : TE} {de : DE} {k : Nat} {p1 p2 p3 pos : Pos} (he : XE X B e te de) : XE X B (.Subscript e (.Slice none none (some (.UnaryOp .USub (.Constant (.int 1) k p1) p2)) p3) pos) (tRevL X.K te)
    (d1 fRev de) := ⟨pe_revL he.pe, fun F H σ γ Q q R hq k => by
  refine he.se F H σ γ _ _ R hq fun x F1 H1 γ1 s R1 e1 o1 h1 => ?_
  unfold fRev at h1
  split at h1
  · rename_i xs es
    obtain ⟨F2, R2, e2, o2⟩ := o1.fz R1
    have r := o2.rs R2
    rw [RS.fz_data, es] at r
    obtain ⟨a, vs, rfl, h2, r1⟩ := r.lst R2.fh
    refine ⟨a, vs, rfl, Evl.sq_of h2, fun p hp => ?_⟩
    obtain ⟨R', ok⟩ := R2.newL hp (RpAll.of (P_rev r1.p))
    exact k _ F2 _ γ1 _ R' (e1.trans e2) ok h1
  · exact h1.elim⟩

/-! ### displays -/
def allV : List RS → Prop
  | [] => True
  | .val _ :: r => allV r
  | _ :: _ => False
theorem allV_rp {K : PySem.W.Frag} {B : Bs} {F H : Hp} {σ : L2.St} {γ : Env} : ∀ {vs : List V} {rs : List RS}, Paired (RsOk K B F H σ γ) vs rs → allV rs → RpAll (B.kz K) F vs (rs.map RS.data)
  | _, _, .nil, _ => .nil
  | _, .val d :: _, .cons h t, a => .cons h (allV_rp t a)
def dLst (da : DA) (γ : Env) (q : RS → Env → Prop) : Prop := da γ fun rs γ1 => allV rs ∧ rs.length ≤ 1000000 ∧ q (.new (.lst (rs.map RS.data))) γ1
def dTup (da : DA) (γ : Env) (q : RS → Env → Prop) : Prop := da γ fun rs γ1 => allV rs ∧ rs.length ≤ 1000000 ∧ q (.val (.tup (rs.map RS.data))) γ1
section
variable {X : Cx} {B : Bs} {es : List Expr} {ta : TA} {da : DA} {pos : Pos}
theorem x_lst (h : XA X B es ta da) : XE X B (.List es pos) (tLst ta) (dLst da) := ⟨pe_lst h.pa, fun F H σ γ Q q R hq k => by
  refine h.sa F H σ γ _ _ R hq fun vs F1 H1 γ1 rs R1 e1 o1 ⟨h1, h2, h3⟩ => ?_
  have ra := allV_rp o1 h1
  refine ⟨sz_le (by rw [P_len o1]; exact h2), fun p hp => ?_⟩
  obtain ⟨R', ok⟩ := R1.newL hp ra
  exact k _ F1 _ γ1 _ R' e1 ok h3⟩
theorem x_tup {x1} (h : XA X B es ta da) : XE X B (.Tuple es x1 pos) (tTup ta) (dTup da) := ⟨pe_tup h.pa, fun F H σ γ Q q R hq k => by
  refine h.sa F H σ γ _ _ R hq fun vs F1 H1 γ1 rs R1 e1 o1 ⟨h1, h2, h3⟩ => ?_
  have ra := allV_rp o1 h1
  refine ⟨sz_le (by rw [P_len o1]; exact h2), fun p hp => ?_⟩
  obtain ⟨R', ex, rp⟩ := R1.newT hp ra
  exact k _ _ _ γ1 (.val _) R' (e1.trans ex) rp h3⟩
end

/-! ### tests -/
def dB (de : DE) (γ : Env) (q : Bool → Env → Prop) : Prop := de γ fun s γ1 => match s.data with
  | .bl b => q b γ1
  | _ => False
def dAnd (t u : DT) (γ : Env) (q : Bool → Env → Prop) : Prop := t γ fun b γ1 => (b = true → u γ1 q) ∧ (b = false → q false γ1)
def dOr (t u : DT) (γ : Env) (q : Bool → Env → Prop) : Prop := t γ fun b γ1 => (b = true → q true γ1) ∧ (b = false → u γ1 q)
def dNot (t : DT) (γ : Env) (q : Bool → Env → Prop) : Prop := t γ fun b γ1 => q (!b) γ1
def dAndV (da db : DE) (γ : Env) (q : RS → Env → Prop) : Prop := da γ fun s γ1 => match s.data with
  | .bl b => (b = true → db γ1 q) ∧ (b = false → q (.val (.bl false)) γ1)
  | _ => False
def dOrV (da db : DE) (γ : Env) (q : RS → Env → Prop) : Prop := da γ fun s γ1 => match s.data with
  | .bl b => (b = true → q (.val (.bl true)) γ1) ∧ (b = false → db γ1 q)
  | _ => False
def dNotV (da : DE) (γ : Env) (q : RS → Env → Prop) : Prop := da γ fun s γ1 => match s.data with
  | .bl b => q (.val (.bl (!b))) γ1
  | _ => False
def dIfE (t : DT) (da db : DE) (γ : Env) (q : RS → Env → Prop) : Prop := t γ fun b γ1 => (b = true → da γ1 q) ∧ (b = false → db γ1 q)
def dTru (de : DE) (γ : Env) (q : Bool → Env → Prop) : Prop := de γ fun s γ1 => match s.data with
  | .lst xs => q (!xs.isEmpty) γ1
  | .tup xs => q (!xs.isEmpty) γ1
  | .int i => q (i != 0) γ1
  | .bl b => q b γ1
  | .non => q false γ1
  | .str x => x.length ≤ 1000000 ∧ q ((x.length : Int) != 0) γ1
  | _ => False
section
variable {K : PySem.W.Frag} {B : Bs} {te : TE} {de : DE} {t u : TT} {dt du : DT}
theorem st_B (h : SE K B te de) : ST K B (tTest te) (dB de) := fun F H σ γ Q q R hq k => by
  refine h F H σ γ _ _ R hq fun v F1 H1 γ1 s R1 e1 o1 h1 => ?_
  split at h1
  · rename_i b es
    have r := o1.rs R1
    rw [es] at r
    exact ⟨b, r.bl, k _ F1 H1 γ1 R1 e1 h1⟩
  · exact h1.elim
theorem st_and (h1 : ST K B t dt) (h2 : ST K B u du) : ST K B (tAnd t u) (dAnd dt du) := fun F H σ γ Q q R hq k => by
  refine h1 F H σ γ _ _ R hq fun b F1 H1 γ1 R1 e1 ⟨q1, q2⟩ => ?_
  cases b with
  | true =>
    show u σ H1 Q
    exact h2 F1 H1 σ γ1 _ _ R1 (q1 rfl) fun c F2 H2 γ2 R2 e2 q3 => k c F2 H2 γ2 R2 (e1.trans e2) q3
  | false => exact k false F1 H1 γ1 R1 e1 (q2 rfl)
theorem st_or (h1 : ST K B t dt) (h2 : ST K B u du) : ST K B (tOr t u) (dOr dt du) := fun F H σ γ Q q R hq k => by
  refine h1 F H σ γ _ _ R hq fun b F1 H1 γ1 R1 e1 ⟨q1, q2⟩ => ?_
  cases b with
  | false =>
    show u σ H1 Q
    exact h2 F1 H1 σ γ1 _ _ R1 (q2 rfl) fun c F2 H2 γ2 R2 e2 q3 => k c F2 H2 γ2 R2 (e1.trans e2) q3
  | true => exact k true F1 H1 γ1 R1 e1 (q1 rfl)
theorem st_not (h1 : ST K B t dt) : ST K B (tNot t) (dNot dt) := fun F H σ γ Q q R hq k =>
  h1 F H σ γ _ _ R hq fun b F1 H1 γ1 R1 e1 q1 => k _ F1 H1 γ1 R1 e1 q1
theorem st_tru (h : SE K B te de) : ST K B (fun σ H Q => te σ H fun x H' => ∃ k, TruV K x H' k ∧ Q k H') (dTru de) := fun F H σ γ Q q R hq k => by
  refine h F H σ γ _ _ R hq fun v F1 H1 γ1 s R1 e1 o1 h1 => ?_
  have r := o1.rs R1
  split at h1
  · rename_i xs es
    rw [es] at r
    obtain ⟨a, vs, rfl, h2, r1⟩ := r.lst R1.fh
    refine ⟨_, .inl ⟨vs, Evl.sq_of h2, rfl⟩, ?_⟩
    have e : vs.isEmpty = xs.isEmpty := by
      have := r1.length
      cases vs <;> cases xs <;> first | rfl | (simp at this)
    rw [e]
    exact k _ F1 H1 γ1 R1 e1 h1
  · rename_i xs es
    rw [es] at r
    obtain ⟨a, vs, rfl, h2, r1⟩ := r.tup R1.fh
    refine ⟨_, .inr (.inl ⟨vs, h2, rfl⟩), ?_⟩
    have e : vs.isEmpty = xs.isEmpty := by
      have := r1.length
      cases vs <;> cases xs <;> first | rfl | (simp at this)
    rw [e]
    exact k _ F1 H1 γ1 R1 e1 h1
  · rename_i i es
    rw [es] at r
    rw [r.int]
    exact ⟨_, rfl, k _ F1 H1 γ1 R1 e1 h1⟩
  · rename_i i es
    rw [es] at r
    rw [r.bl]
    exact ⟨_, rfl, k _ F1 H1 γ1 R1 e1 h1⟩
  · rename_i es
    rw [es] at r
    rw [r.non]
    exact ⟨_, rfl, k _ F1 H1 γ1 R1 e1 h1⟩
  · rename_i i es
    rw [es] at r
    rw [r.str]
    exact ⟨_, ⟨sz_le h1.1, rfl⟩, k _ F1 H1 γ1 R1 e1 h1.2⟩
  · exact h1.elim
theorem se_and {ta tb : TE} {da db : DE} (h1 : SE K B ta da) (h2 : SE K B tb db) : SE K B (tAndV ta tb) (dAndV da db) := fun F H σ γ Q q R hq k => by
  refine h1 F H σ γ _ _ R hq fun v F1 H1 γ1 s R1 e1 o1 q1 => ?_
  split at q1
  · rename_i b es
    have r := o1.rs R1
    rw [es] at r
    refine ⟨b, r.bl, ?_⟩
    cases b with
    | true =>
      show tb σ H1 Q
      exact h2 F1 H1 σ γ1 _ _ R1 (q1.1 rfl) fun v F2 H2 γ2 s R2 e2 o2 q3 => k v F2 H2 γ2 s R2 (e1.trans e2) o2 q3
    | false => exact k _ F1 H1 γ1 (.val (.bl false)) R1 e1 (.bl _) (q1.2 rfl)
  · exact q1.elim
theorem se_or {ta tb : TE} {da db : DE} (h1 : SE K B ta da) (h2 : SE K B tb db) : SE K B (tOrV ta tb) (dOrV da db) := fun F H σ γ Q q R hq k => by
  refine h1 F H σ γ _ _ R hq fun v F1 H1 γ1 s R1 e1 o1 q1 => ?_
  split at q1
  · rename_i b es
    have r := o1.rs R1
    rw [es] at r
    refine ⟨b, r.bl, ?_⟩
    cases b with
    | false =>
      show tb σ H1 Q
      exact h2 F1 H1 σ γ1 _ _ R1 (q1.2 rfl) fun v F2 H2 γ2 s R2 e2 o2 q3 => k v F2 H2 γ2 s R2 (e1.trans e2) o2 q3
    | true => exact k _ F1 H1 γ1 (.val (.bl true)) R1 e1 (.bl _) (q1.1 rfl)
  · exact q1.elim
theorem se_not {ta : TE} {da : DE} (h1 : SE K B ta da) : SE K B (tNotV ta) (dNotV da) := fun F H σ γ Q q R hq k => by
  refine h1 F H σ γ _ _ R hq fun v F1 H1 γ1 s R1 e1 o1 q1 => ?_
  split at q1
  · rename_i b es
    have r := o1.rs R1
    rw [es] at r
    exact ⟨b, r.bl, k _ F1 H1 γ1 (.val (.bl (!b))) R1 e1 (.bl _) q1⟩
  · exact q1.elim
theorem se_if {ta tb : TE} {da db : DE} (h : ST K B t dt) (h1 : SE K B ta da) (h2 : SE K B tb db) : SE K B (tIf t ta tb) (dIfE dt da db) := fun F H σ γ Q q R hq k => by
  refine h F H σ γ _ _ R hq fun b F1 H1 γ1 R1 e1 q1 => ?_
  cases b with
  | true =>
    show ta σ H1 Q
    exact h1 F1 H1 σ γ1 _ _ R1 (q1.1 rfl) fun v F2 H2 γ2 s R2 e2 o2 q3 => k v F2 H2 γ2 s R2 (e1.trans e2) o2 q3
  | false =>
    show tb σ H1 Q
    exact h2 F1 H1 σ γ1 _ _ R1 (q1.2 rfl) fun v F2 H2 γ2 s R2 e2 o2 q3 => k v F2 H2 γ2 s R2 (e1.trans e2) o2 q3
/-- a op b op' c -/
def dChain (f g : D → D → (RS → Prop) → Prop) (da db dc : DE) (γ : Env) (q : RS → Env → Prop) : Prop := da γ fun s γ1 => db γ1 fun t γ2 => s.ok γ2 ∧ f s.data t.data fun r => match r with
  | .val (.bl b) => (b = true → dc γ2 fun u γ3 => t.ok γ3 ∧ g t.data u.data fun r' => q r' γ3) ∧ (b = false → q (.val (.bl false)) γ2)
  | _ => False
theorem se_chain {ta tb tc : TE} {da db dc : DE} {r r' : R2} {f g : D → D → (RS → Prop) → Prop} (hf : OpD K r f) (hg : OpD K r' g) (ha : SE K B ta da) (hb : SE K B tb db) (hc : SE K B tc dc) : SE K B (tChain r r' ta tb tc) (dChain f g da db dc) := fun F H σ γ Q q R hq k => by
  refine ha F H σ γ _ _ R hq fun x F1 H1 γ1 s R1 e1 o1 h1 => ?_
  obtain ⟨F2, R2, e2, o2⟩ := o1.fz R1
  refine hb F2 H1 σ γ1 _ _ R2 h1 fun y F3 H3 γ3 t R3 e3 o3 ⟨h3, h4⟩ => ?_
  obtain ⟨F4, R4, e4, o4⟩ := o3.fz R3
  have ox := o2.later (e3.trans e4) R4 (fz_ok s γ3 h3) (fz_idem s)
  have rx := ox.rs R4
  have ry := o4.rs R4
  rw [RS.fz_data] at rx ry
  refine hf B F4 H3 σ γ3 x y _ _ _ _ R4 rx ry h4 fun v F5 H5 u R5 e5 o5 h5 => ?_
  split at h5
  · rename_i b
    have ev : v = .bl b := (o5.rs R5).bl
    refine ⟨b, ev, ?_⟩
    cases b with
    | true =>
      show tc σ H5 _
      refine hc F5 H5 σ γ3 _ _ R5 (h5.1 rfl) fun z F6 H6 γ6 u R6 e6 o6 ⟨h6, h7⟩ => ?_
      obtain ⟨F7, R7, e7, o7⟩ := o6.fz R6
      have oy := (o4.later ((e5.trans e6).trans e7) R7 (fz_ok t γ6 h6) (fz_idem t)).rs R7
      have oz := o7.rs R7
      rw [RS.fz_data] at oy oz
      exact hg B F7 H6 σ γ6 y z _ _ Q _ R7 oy oz h7 fun v F8 H8 u R8 e8 o8 h8 => k v F8 H8 γ6 u R8 (((((((e1.trans e2).trans e3).trans e4).trans e5).trans e6).trans e7).trans e8) o8 h8
    | false => exact k _ F5 H5 γ3 (.val (.bl false)) R5 ((((e1.trans e2).trans e3).trans e4).trans e5) (.bl _) (h5.2 rfl)
  · exact h5.elim
end
section
variable {X : Cx} {B : Bs} {pos : Pos} {a b c : Expr} {ta tb tc : TE} {da db dc : DE} {t u : TT} {dt du : DT} {rest : List Expr}
theorem t_cmp {op : CmpOp} {r : R2} {f : D → D → (RS → Prop) → Prop} (ho : OpR X (compareOp op) r) (hd : OpD X.K r f) (ha : XE X B a ta da) (hb : XE X B b tb db) (hm : behindInMarks op b = false := by first | exact nomark _ | rfl) : XT X B (.Compare a [op] [b] pos) (tTest (tOp r ta tb)) (dB (d2 f da db)) :=
  ⟨pt_cmpR ho ha.pe hb.pe hm, st_B (se_op hd ha.se hb.se)⟩
theorem t_val {e : Expr} {te : TE} {de : DE} (h : XE X B e te de) (he : ∀ whole, isTrue e X.env whole = (do let v ← whole; standAt e.pos; holding [v] (truthy v)) := by intro _; rfl) : XT X B e (tB te) (dB de) := ⟨pt_val h.pe he, st_B h.se⟩
theorem t_tru {e : Expr} {te : TE} {de : DE} (h : XE X B e te de) (he : ∀ whole, isTrue e X.env whole = (do let v ← whole; standAt e.pos; holding [v] (truthy v)) := by intro _; rfl) : XT X B e (fun σ H Q => te σ H fun x H' => ∃ k, TruV X.K x H' k ∧ Q k H') (dTru de) := ⟨pt_truth h.pe he, st_tru h.se⟩
theorem w_and1 (h : XT X B a t dt) : XW X B (.BoolOp .And [a] pos) t dt := ⟨pw_and1 h.pt, h.st⟩
theorem w_or1 (h : XT X B a t dt) : XW X B (.BoolOp .Or [a] pos) t dt := ⟨pw_or1 h.pt, h.st⟩
theorem w_and (h : XT X B a t dt) (h2 : XW X B (.BoolOp .And (b :: rest) pos) u du) : XW X B (.BoolOp .And (a :: b :: rest) pos) (tAnd t u) (dAnd dt du) := ⟨pw_and h.pt h2.pw, st_and h.st h2.st⟩
theorem w_or (h : XT X B a t dt) (h2 : XW X B (.BoolOp .Or (b :: rest) pos) u du) : XW X B (.BoolOp .Or (a :: b :: rest) pos) (tOr t u) (dOr dt du) := ⟨pw_or h.pt h2.pw, st_or h.st h2.st⟩
theorem t_w {e : Expr} (h : XW X B e t dt) : XT X B e t dt := ⟨h.pw.pt, h.st⟩
theorem t_not (h : XT X B a t dt) : XT X B (.UnaryOp .Not a pos) (tNot t) (dNot dt) := ⟨pt_not h.pt, st_not h.st⟩
theorem t_chain {op op' : CmpOp} {r r' : R2} {f g : D → D → (RS → Prop) → Prop} (ho : OpR X (compareOp op) r) (ho' : OpR X (compareOp op') r') (hd : OpD X.K r f) (hd' : OpD X.K r' g) (ha : XE X B a ta da) (hb : XE X B b tb db) (hc : XE X B c tc dc) (hm : lastMarks [op, op'] [b, c] = false := by with_unfolding_all rfl) :
    XT X B (.Compare a [op, op'] [b, c] pos) (tTest (tChain r r' ta tb tc)) (dB (dChain f g da db dc)) := ⟨pt_chain ho ho' ha.pe hb.pe hc.pe hm, st_B (se_chain hd hd' ha.se hb.se hc.se)⟩
theorem x_chain {op op' : CmpOp} {r r' : R2} {f g : D → D → (RS → Prop) → Prop} (ho : OpR X (compareOp op) r) (ho' : OpR X (compareOp op') r') (hd : OpD X.K r f) (hd' : OpD X.K r' g) (ha : XE X B a ta da) (hb : XE X B b tb db) (hc : XE X B c tc dc) (hm : lastMarks [op, op'] [b, c] = false := by with_unfolding_all rfl) :
    XE X B (.Compare a [op, op'] [b, c] pos) (tChain r r' ta tb tc) (dChain f g da db dc) := ⟨pe_chain ho ho' ha.pe hb.pe hc.pe hm, se_chain hd hd' ha.se hb.se hc.se⟩
theorem x_one {op} (h : XE X B a ta da) : XE X B (.BoolOp op [a] pos) ta da := ⟨pe_one h.pe, h.se⟩
theorem x_and (h : XE X B a ta da) (h2 : XE X B (.BoolOp .And (b :: rest) pos) tb db) : XE X B (.BoolOp .And (a :: b :: rest) pos) (tAndV ta tb) (dAndV da db) := ⟨pe_and h.pe h2.pe, se_and h.se h2.se⟩
theorem x_or (h : XE X B a ta da) (h2 : XE X B (.BoolOp .Or (b :: rest) pos) tb db) : XE X B (.BoolOp .Or (a :: b :: rest) pos) (tOrV ta tb) (dOrV da db) := ⟨pe_or h.pe h2.pe, se_or h.se h2.se⟩
theorem x_not (h : XE X B a ta da) : XE X B (.UnaryOp .Not a pos) (tNotV ta) (dNotV da) := ⟨pe_not h.pe, se_not h.se⟩
theorem x_if (h : XT X B c t dt) (h1 : XE X B a ta da) (h2 : XE X B b tb db) : XE X B (.IfExp c a b pos) (tIf t ta tb) (dIfE dt da db) := ⟨pe_ifExp h.pt h1.pe h2.pe, se_if h.st h1.se h2.se⟩
end
end DL

set_option Elab.async false
set_option linter.all false
set_option maxRecDepth 100000
set_option maxHeartbeats 2000000
namespace DL
open PySem PySem.Spec PyProof.Rows L2
open Evl (Ex ex_l ex_t)

structure DEnds where
  nx : Env → Prop
  rt : RS → Env → Prop
  bk : Env → Prop := fun _ => False
  ct : Env → Prop := fun _ => False
abbrev DS := DEnds → Env → Prop
structure EndsOk (K : PySem.W.Frag) (B : Bs) (F0 : Hp) (E : Ends) (d : DEnds) : Prop where
  nx : ∀ F H σ γ, Rep K B F H σ γ → Ex F0 F → d.nx γ → E.nx σ H
  rt : ∀ F H σ γ v s, Rep K B F H σ γ → Ex F0 F → RsOk K B F H σ γ v s → d.rt s γ → E.rt v H
  bk : ∀ F H σ γ, Rep K B F H σ γ → Ex F0 F → d.bk γ → E.bk σ H
  ct : ∀ F H σ γ, Rep K B F H σ γ → Ex F0 F → d.ct γ → E.ct σ H
def SS (K : PySem.W.Frag) (B : Bs) (ts : TS) (ds : DS) : Prop := ∀ (F H : Hp) (σ : L2.St) (γ : Env) (E : Ends) (d : DEnds), Rep K B F H σ γ → ds d γ → EndsOk K B F E d → ts E σ H
structure XS (X : Cx) (B : Bs) (st : Stmt) (ts : TS) (ds : DS) : Prop where
  ps : PS X st ts
  ss : SS X.K B ts ds
structure XSs (X : Cx) (B : Bs) (st : List Stmt) (ts : TS) (ds : DS) : Prop where
  ps : PSs X st ts
  ss : SS X.K B ts ds
section
variable {K : PySem.W.Frag} {B : Bs} {F F' H : Hp} {σ : L2.St} {γ : Env} {E : Ends} {d : DEnds}
theorem EndsOk.mono (h : EndsOk K B F E d) (e : Ex F F') : EndsOk K B F' E d :=
  ⟨fun F2 H2 σ2 γ2 R x => h.nx F2 H2 σ2 γ2 R (e.trans x), fun F2 H2 σ2 γ2 v s R x => h.rt F2 H2 σ2 γ2 v s R (e.trans x), fun F2 H2 σ2 γ2 R x => h.bk F2 H2 σ2 γ2 R (e.trans x), fun F2 H2 σ2 γ2 R x => h.ct F2 H2 σ2 γ2 R (e.trans x)⟩
theorem get_set {i j : Nat} {v : V} {s : Option V} (h : (σ.set i (some v))[j]? = some s) : (j = i ∧ s = some v) ∨ (j ≠ i ∧ σ[j]? = some s) := by
  by_cases e : i = j
  · subst e
    by_cases hl : i < σ.length
    · rw [List.getElem?_set_self hl] at h; exact .inl ⟨rfl, (Option.some.inj h).symm⟩
    · rw [List.getElem?_eq_none (by rw [List.length_set]; omega)] at h; cases h
  · rw [List.getElem?_set_ne e] at h; exact .inr ⟨fun z => e z.symm, h⟩
theorem Rep.setVal (R : Rep K B F H σ γ) (i : Nat) {v : V} {x : D} (r : Rp (B.kz K) F v x) : Rep K B F H (σ.set i (some v)) (put γ i (.val x)) := by
  have key : ∀ {j : Nat} {p : Option Nat} {c : OC} {a : Addr}, (put γ i (.val x))[j]? = some (.own p c) → (σ.set i (some v))[j]? = some (some (.ref a)) → γ[j]? = some (.own p c) ∧ σ[j]? = some (some (.ref a)) := fun h h2 => by
    rcases get_put h with ⟨_, e⟩ | ⟨n, e⟩
    · cases e
    · rcases get_set h2 with ⟨z, _⟩ | ⟨_, e2⟩
      · exact absurd z n
      · exact ⟨e, e2⟩
  refine ⟨R.fh, by rw [put_len, List.length_set]; exact R.len, fun j s u hs hg => ?_, fun i j a p c q c' h1 h2 h3 h4 => R.nd i j a p c q c' (key h1 h3).1 (key h2 h4).1 (key h1 h3).2 (key h2 h4).2, R.b1, R.b2, R.b3,
    fun j a p c h1 h2 => R.b4 j a p c (key h1 h2).1 (key h1 h2).2, fun j a p c h1 h2 => R.b5 j a p c (key h1 h2).1 (key h1 h2).2, R.bN, R.bd⟩
  rcases get_put hg with ⟨rfl, rfl⟩ | ⟨n, e⟩
  · rcases get_set hs with ⟨_, rfl⟩ | ⟨z, _⟩
    · exact ⟨v, rfl, r⟩
    · exact absurd rfl z
  · rcases get_set hs with ⟨z, _⟩ | ⟨_, e2⟩
    · exact absurd z n
    · exact R.sl j s u e2 e
theorem Rep.setNew (R : Rep K B F H σ γ) (i : Nat) {a : Addr} {c : OC} (N : RNew K B F H σ γ a c) : Rep K B F H (σ.set i (some (.ref a))) (put γ i (.own none c)) := by
  have key : ∀ {j : Nat} {p : Option Nat} {c' : OC} {b : Addr}, (put γ i (.own none c))[j]? = some (.own p c') → (σ.set i (some (.ref a)))[j]? = some (some (.ref b)) → (j = i ∧ p = none ∧ b = a) ∨ (j ≠ i ∧ γ[j]? = some (.own p c') ∧ σ[j]? = some (some (.ref b))) := fun h h2 => by
    rcases get_put h with ⟨z, e⟩ | ⟨n, e⟩
    · rcases get_set h2 with ⟨_, e2⟩ | ⟨z2, _⟩
      · injection e with e1 _
        injection e2 with e2
        injection e2 with e2
        exact .inl ⟨z, e1, e2⟩
      · exact absurd z z2
    · rcases get_set h2 with ⟨z, _⟩ | ⟨_, e2⟩
      · exact absurd z n
      · exact .inr ⟨n, e, e2⟩
  refine ⟨R.fh, by rw [put_len, List.length_set]; exact R.len, fun j s u hs hg => ?_, fun i' j' b p c1 q c2 h1 h2 h3 h4 => ?_, R.b1, R.b2, R.b3, fun j b p c1 h1 h2 => ?_, fun j b p c1 h1 h2 => ?_, R.bN, R.bd⟩
  · rcases get_put hg with ⟨rfl, rfl⟩ | ⟨n, e⟩
    · rcases get_set hs with ⟨_, rfl⟩ | ⟨z, _⟩
      · exact ⟨a, rfl, N.fa, N.ok⟩
      · exact absurd rfl z
    · rcases get_set hs with ⟨z, _⟩ | ⟨_, e2⟩
      · exact absurd z n
      · exact R.sl j s u e2 e
  · rcases key h1 h3 with ⟨z1, _, z2⟩ | ⟨n1, y1, y2⟩
    · rcases key h2 h4 with ⟨z3, _, _⟩ | ⟨_, y3, y4⟩
      · rw [z1, z3]
      · rw [z2] at y4
        exact absurd y4 (N.na j' q c2 y3)
    · rcases key h2 h4 with ⟨_, _, z4⟩ | ⟨_, y3, y4⟩
      · rw [z4] at y2
        exact absurd y2 (N.na i' p c1 y1)
      · exact R.nd i' j' b p c1 q c2 y1 y3 y2 y4
  · rcases key h1 h2 with ⟨_, rfl, rfl⟩ | ⟨_, y1, y2⟩
    · exact ⟨fun k z => (by cases z), fun _ => N.bn⟩
    · exact R.b4 j b p c1 y1 y2
  · rcases key h1 h2 with ⟨_, _, rfl⟩ | ⟨_, y1, y2⟩
    · exact N.bm
    · exact R.b5 j b p c1 y1 y2
end

/-! ### blocks and small statements -/
def dNext (d : DEnds) (γ : Env) : Prop := d.nx γ
def dSeq (s t : DS) (d : DEnds) (γ : Env) : Prop := s { d with nx := t d } γ
def dDrop (de : DE) (d : DEnds) (γ : Env) : Prop := de γ fun _ γ1 => d.nx γ1
def dRet (de : DE) (d : DEnds) (γ : Env) : Prop := de γ d.rt
def dRetN (d : DEnds) (γ : Env) : Prop := d.rt (.val .non) γ
def dBreak (d : DEnds) (γ : Env) : Prop := d.bk γ
def dCont (d : DEnds) (γ : Env) : Prop := d.ct γ
def dIf (t : DT) (a b : DS) (d : DEnds) (γ : Env) : Prop := t γ fun c γ1 => (c = true → a d γ1) ∧ (c = false → b d γ1)
def dAsg (i : Nat) (de : DE) (d : DEnds) (γ : Env) : Prop := de γ fun s γ1 => match s with
  | .val x => d.nx (put γ1 i (.val x))
  | .new c => d.nx (put γ1 i (.own none c))
  | .own _ _ => False
/-- targets -/
abbrev DG := D → Env → (Env → Prop) → Prop
abbrev DGs := List D → Env → (Env → Prop) → Prop
/-- outside of ix the slots stay -/
def Off (ix : List Nat) (σ σ' : L2.St) : Prop := σ'.length = σ.length ∧ ∀ j, j ∉ ix → σ'[j]? = σ[j]?
def SG (K : PySem.W.Frag) (B : Bs) (g : TG) (dg : DG) (ix : List Nat) : Prop := ∀ (F H : Hp) (σ : L2.St) (γ : Env) (v : V) (x : D) (Q : L2.St → Hp → Prop) (q : Env → Prop), Rep K B F H σ γ → Rp (B.kz K) F v x → dg x γ q →
  (∀ σ' γ', Rep K B F H σ' γ' → Off ix σ σ' → q γ' → Q σ' H) → g v σ H Q
def SGs (K : PySem.W.Frag) (B : Bs) (g : TGs) (dg : DGs) (ix : List Nat) : Prop := ∀ (F H : Hp) (σ : L2.St) (γ : Env) (vs : List V) (xs : List D) (Q : L2.St → Hp → Prop) (q : Env → Prop), Rep K B F H σ γ → RpAll (B.kz K) F vs xs → dg xs γ q →
  (∀ σ' γ', Rep K B F H σ' γ' → Off ix σ σ' → q γ' → Q σ' H) → g vs σ H Q
structure XG (X : Cx) (B : Bs) (tg : Expr) (g : TG) (dg : DG) (ix : List Nat) : Prop where
  pg : PG X tg g
  sg : SG X.K B g dg ix
structure XGs (X : Cx) (B : Bs) (tg : List Expr) (g : TGs) (dg : DGs) (ix : List Nat) : Prop where
  pg : PGs X tg g
  sg : SGs X.K B g dg ix
def gN (i : Nat) (x : D) (γ : Env) (q : Env → Prop) : Prop := q (put γ i (.val x))
def gsNil (xs : List D) (γ : Env) (q : Env → Prop) : Prop := xs = [] ∧ q γ
def gsCons (g : DG) (r : DGs) (xs : List D) (γ : Env) (q : Env → Prop) : Prop := match xs with
  | x :: ys => g x γ fun γ1 => r ys γ1 q
  | [] => False
def gT (n : Nat) (gs : DGs) (x : D) (γ : Env) (q : Env → Prop) : Prop := match x with
  | .tup xs => xs.length = n ∧ gs xs γ q
  | _ => False
def dAsgG (de : DE) (g : DG) (d : DEnds) (γ : Env) : Prop := de γ fun s γ1 => match s with
  | .own _ _ => False
  | s => g s.data γ1 d.nx
section
variable {X : Cx} {B : Bs} {st : Stmt} {rest : List Stmt} {t u : TS} {ds du : DS} {e : Expr} {te : TE} {de : DE} {pos : Pos}
theorem ss_nil : XSs X B [] tNext dNext := ⟨pss_nil, fun F H σ γ E d R h k => k.nx F H σ γ R (Evl.Ex.refl F) h⟩
theorem ss_cons (h1 : XS X B st t ds) (h2 : XSs X B rest u du) : XSs X B (st :: rest) (tSeq t u) (dSeq ds du) := ⟨pss_cons h1.ps h2.ps, fun F H σ γ E d R h k =>
  h1.ss F H σ γ { E with nx := u E } { d with nx := du d } R h ⟨fun F1 H1 σ1 γ1 R1 e1 q => h2.ss F1 H1 σ1 γ1 E d R1 q (k.mono e1), k.rt, k.bk, k.ct⟩⟩
theorem ss_one (h1 : XS X B st t ds) : XSs X B [st] t ds := ⟨pss_one h1.ps, h1.ss⟩
theorem s_break : XS X B (.Break pos) tBreak dBreak := ⟨ps_break, fun F H σ γ E d R h k => k.bk F H σ γ R (Evl.Ex.refl F) h⟩
theorem s_cont : XS X B (.Continue pos) tCont dCont := ⟨ps_continue, fun F H σ γ E d R h k => k.ct F H σ γ R (Evl.Ex.refl F) h⟩
theorem s_pass : XS X B (.Pass pos) tNext dNext := ⟨ps_pass, fun F H σ γ E d R h k => k.nx F H σ γ R (Evl.Ex.refl F) h⟩
theorem s_expr (he : XE X B e te de) (hs : swapsWith e none pos.line X.env = pure false := by rfl) : XS X B (.Expr e pos) (tDrop te) (dDrop de) := ⟨ps_expr he.pe hs, fun F H σ γ E d R h k =>
  he.se F H σ γ _ _ R h fun v F1 H1 γ1 s R1 e1 _ q => k.nx F1 H1 σ γ1 R1 e1 q⟩
theorem s_ret (he : XE X B e te de) : XS X B (.Return (some e) pos) (tRet te) (dRet de) := ⟨ps_ret he.pe, fun F H σ γ E d R h k =>
  he.se F H σ γ _ _ R h fun v F1 H1 γ1 s R1 e1 o1 q => k.rt F1 H1 σ γ1 v s R1 e1 o1 q⟩
theorem s_retN : XS X B (.Return none pos) tRetN dRetN := ⟨ps_retN, fun F H σ γ E d R h k => k.rt F H σ γ _ (.val .non) R (Evl.Ex.refl F) .non h⟩
theorem s_if {c : Expr} {a b : List Stmt} {tc : TT} {dc : DT} (hc : XT X B c tc dc) (ha : XSs X B a t ds) (hb : XSs X B b u du) : XS X B (.If c a b pos) (tIfS tc t u) (dIf dc ds du) := ⟨ps_if hc.pt ha.ps hb.ps, fun F H σ γ E d R h k => by
  refine hc.st F H σ γ _ _ R h fun b F1 H1 γ1 R1 e1 q => ?_
  cases b with
  | true => exact ha.ss F1 H1 σ γ1 E d R1 (q.1 rfl) (k.mono e1)
  | false => exact hb.ss F1 H1 σ γ1 E d R1 (q.2 rfl) (k.mono e1)⟩
theorem sa_name {K : PySem.W.Frag} {B : Bs} {i : Nat} (h : SE K B te de) : SS K B (tAsg te (gName i)) (dAsg i de) := fun F H σ γ E d R hq k => by
  refine h F H σ γ _ _ R hq fun v F1 H1 γ1 s R1 e1 o1 q => ?_
  cases s with
  | val x => exact k.nx F1 H1 _ _ (R1.setVal i o1) e1 q
  | new c =>
    obtain ⟨a, rfl, N⟩ := o1
    exact k.nx F1 H1 _ _ (R1.setNew i N) e1 q
  | own j c => exact q.elim
theorem s_set (i : Nat) {x : Str} {pos' : Pos} (hN : X.N.Nodup) (he : XE X B e te de) (hi : X.N[i]? = some x := by rfl) (hx : Loc X.env.scope x := by first | exact Or.inl rfl | exact Or.inr rfl) (hs : swapsWith e (some (.Name x pos')) pos.line X.env = pure false := by rfl)
    (hf : X.fn x = true ∨ X.env.scope.names.lookup x = some .local := by first | exact .inl rfl | exact .inr rfl) : XS X B (.Assign [.Name x pos'] e pos) (tAsg te (gName i)) (dAsg i de) := ⟨ps_set hN hi hx he.pe hs hf, sa_name he.se⟩
theorem g_name (i : Nat) {x : Str} (hN : X.N.Nodup) (hi : X.N[i]? = some x := by rfl) (hx : Loc X.env.scope x := by first | exact Or.inl rfl | exact Or.inr rfl) (hf : X.fn x = true ∨ X.env.scope.names.lookup x = some .local := by first | exact .inl rfl | exact .inr rfl) : XG X B (.Name x pos) (gName i) (gN i) [i] :=
  ⟨pg_name hN hi hx hf, fun F H σ γ v x Q q R r h k => k _ _ (R.setVal i r) ⟨by rw [List.length_set], fun j hj => List.getElem?_set_ne fun e => hj (by rw [e]; exact List.mem_singleton.mpr rfl)⟩ h⟩
theorem gs_nil : XGs X B [] gNil gsNil [] := ⟨pgs_nil, fun F H σ γ vs xs Q q R r h k => by
  obtain ⟨rfl, h⟩ := h
  cases r
  exact ⟨rfl, k σ γ R ⟨rfl, fun _ _ => rfl⟩ h⟩⟩
theorem gs_cons {es : List Expr} {g : TG} {gs : TGs} {dg : DG} {dgs : DGs} {i1 i2 : List Nat} (h1 : XG X B e g dg i1) (h2 : XGs X B es gs dgs i2) (hs : (assignEach (e :: es) X.env).map (·.2) = assign e X.env :: (assignEach es X.env).map (·.2) := by rfl) : XGs X B (e :: es) (gCons g gs) (gsCons dg dgs) (i1 ++ i2) := ⟨pgs_cons h1.pg h2.pg hs, fun F H σ γ vs xs Q q R r h k => by
  cases r with
  | nil => exact h.elim
  | cons r t => exact ⟨_, _, rfl, h1.sg F H σ γ _ _ _ _ R r h fun σ' γ' R' o' h' => h2.sg F H σ' γ' _ _ Q q R' t h' fun σ2 γ2 R2 o2 h2 => k σ2 γ2 R2 ⟨o2.1.trans o'.1, fun j hj => (o2.2 j fun z => hj (List.mem_append_right _ z)).trans (o'.2 j fun z => hj (List.mem_append_left _ z))⟩ h2⟩⟩
theorem g_tup {es : List Expr} {k n : Nat} {gs : TGs} {dgs : DGs} {ix : List Nat} (hc : X.calm = true) (h : XGs X B es gs dgs ix) (hn : (assignEach es X.env).length = n := by rfl) (hst : (assignEach es X.env).findIdx? (·.1) = none := by rfl) : XG X B (.Tuple es k pos) (gTup X.K n gs) (gT n dgs) ix := ⟨pg_tup hc h.pg hn hst, fun F H σ γ v x Q q R r hq k => by
  cases r with
  | tup h1 h2 => exact ⟨_, _, rfl, ex_t R.fh h1, by rw [h2.length]; exact hq.1, h.sg F H σ γ _ _ Q q R h2 hq.2 k⟩
  | _ => exact hq.elim⟩
theorem s_asgG {tg : Expr} {g : TG} {dg : DG} {ix : List Nat} (he : XE X B e te de) (hg : XG X B tg g dg ix) (hs : swapsWithSole [tg] e pos.line X.env = pure false := by rfl) (hw : swappedStores [tg] e X.env = pure none := by rfl)
    (h1 : (assignEach [tg] X.env).map (·.2) = [assign tg X.env] := by rfl) : XS X B (.Assign [tg] e pos) (tAsg te g) (dAsgG de dg) := ⟨ps_asg he.pe hg.pg hs hw h1, fun F H σ γ E d R hq k => by
  refine he.se F H σ γ _ _ R hq fun v F1 H1 γ1 s R1 e1 o1 q => ?_
  obtain ⟨F2, R2, e2, o2⟩ := o1.fz R1
  cases s with
  | own j c => exact q.elim
  | val x => exact hg.sg F2 H1 σ γ1 v x _ d.nx R2 o2 q fun σ' γ' R' _ h' => k.nx F2 H1 σ' γ' R' (e1.trans e2) h'
  | new c => exact hg.sg F2 H1 σ γ1 v _ _ d.nx R2 o2 q fun σ' γ' R' _ h' => k.nx F2 H1 σ' γ' R' (e1.trans e2) h'⟩
/-- x op= e on numbers -/
def dAug (i : Nat) (f : Int → Int → Int) (de : DE) (d : DEnds) (γ : Env) : Prop := match look γ i with
  | .val (.int a) => de γ fun s γ1 => match s.data with
    | .int b => d.nx (put γ1 i (.val (.int (f a b))))
    | _ => False
  | _ => False
theorem s_aug (i : Nat) {x : Str} {op : Operator} {f : Int → Int → Int} {pos' : Pos} (hN : X.N.Nodup) (he : XE X B e te de) (ho : PIp X op (ipI f)) (hi : X.N[i]? = some x := by rfl) (hx : Loc X.env.scope x := by first | exact Or.inl rfl | exact Or.inr rfl)
    (hf : X.fn x = true ∨ X.env.scope.names.lookup x = some .local := by first | exact .inl rfl | exact .inr rfl) : XS X B (.AugAssign (.Name x pos') op e pos) (tAug i te (ipI f)) (dAug i f de) := ⟨ps_aug hN hi hx he.pe ho hf, fun F H σ γ E d R hq k => by
  unfold dAug at hq
  split at hq
  · rename_i a hl
    obtain ⟨v, hs, r⟩ := R.val hl
    cases r
    refine ⟨_, hs, he.se F H σ γ _ _ R hq fun v F1 H1 γ1 s R1 e1 o1 q => ?_⟩
    split at q
    · rename_i b es
      have r := o1.rs R1
      rw [es] at r
      exact ⟨_, _, rfl, r.int, k.nx F1 H1 _ _ (R1.setVal i (.int _)) e1 q⟩
    · exact q.elim
  · exact hq.elim⟩
end

/-! ### things that change -/
section
variable {K : PySem.W.Frag} {B : Bs} {F H : Hp} {σ : L2.St} {γ : Env}
/-- the list in slot j is written anew -/
theorem Rep.write (R : Rep K B F H σ γ) {j : Nat} {p : Option Nat} {ds ds' : List D} {a : Addr} {vs vs' : List V} (hl : look γ j = .own p (.lst ds)) (hs : σ[j]? = some (some (.ref a))) (ha : H a = some (.lst vs)) (r : RpAll (B.kz K) F vs' ds') :
    Rep K B F (upd H a (.lst vs')) σ (put γ j (.own p (.lst ds'))) := by
  obtain ⟨a', hs', hg, fa, ok⟩ := R.own hl
  obtain rfl : a = a' := by rw [hs] at hs'; cases hs'; rfl
  have ne_own : ∀ {b x : Addr}, H b = some (.own x) → b ≠ a := fun h e => by
    subst e
    rw [ha] at h; cases h
  have key : ∀ {i : Nat} {q : Option Nat} {c : OC}, (put γ j (.own p (.lst ds')))[i]? = some (.own q c) → ∃ c0, γ[i]? = some (.own q c0) ∧ ((i = j ∧ c = .lst ds') ∨ (i ≠ j ∧ c0 = c)) := fun h => by
    rcases get_put h with ⟨rfl, e⟩ | ⟨n, e⟩
    · injection e with e1 e2
      subst e1; subst e2
      exact ⟨_, hg, .inl ⟨rfl, rfl⟩⟩
    · exact ⟨_, e, .inr ⟨n, rfl⟩⟩
  refine ⟨fun b o e => ?_, by rw [put_len]; exact R.len, fun i s t h1 h2 => ?_, fun i i' b q c q' c' h1 h2 h3 h4 => ?_, fun b o e => ?_, R.b2, R.b3, fun i b q c h1 h2 => ?_, fun i b q c h1 h2 => ?_, fun b o e => ?_, fun b o e => ?_⟩
  · have n : b ≠ a := fun z => by subst z; rw [fa] at e; cases e
    rw [upd_ne n]; exact R.fh b o e
  · rcases get_put h2 with ⟨rfl, rfl⟩ | ⟨n, e⟩
    · rw [hs] at h1; cases h1
      exact ⟨a, rfl, fa, vs', upd_same, r⟩
    · have q := R.sl i s t h1 e
      cases t with
      | no => trivial
      | val d => exact q
      | own q' c =>
        obtain ⟨b, e', f, ok'⟩ := q
        subst e'
        have nb : b ≠ a := fun z => by subst z; exact n (R.nd i j b q' c p (.lst ds) e hg h1 hs)
        exact ⟨b, rfl, f, ok'.heap (upd_ne nb) fun dx hd => upd_ne (ne_own hd)⟩
  · obtain ⟨_, y1, _⟩ := key h1
    obtain ⟨_, y2, _⟩ := key h2
    exact R.nd i i' b q _ q' _ y1 y2 h3 h4
  · obtain ⟨x1, o', x2⟩ := R.b1 b o e
    by_cases hb : b = a
    · subst hb
      rw [upd_same]
      refine ⟨fun n => ?_, _, rfl⟩
      rcases R.b5 j b p _ hg hs with z | z
      · exact absurd z n
      · rw [e] at z; cases z
    · rw [upd_ne hb]; exact ⟨x1, o', x2⟩
  · obtain ⟨_, y1, _⟩ := key h1
    exact R.b4 i b q _ y1 h2
  · obtain ⟨_, y1, _⟩ := key h1
    exact R.b5 i b q _ y1 h2
  · obtain ⟨o', x2⟩ := R.bN b o e
    by_cases hb : b = a
    · subst hb; exact ⟨_, upd_same⟩
    · rw [upd_ne hb]; exact ⟨o', x2⟩
  · obtain ⟨o', x2, kn⟩ := R.bd b o e
    by_cases hb : b = a
    · subst hb
      rw [ha] at x2
      cases x2
      exact ⟨_, upd_same, kn.trans ⟨_, rfl⟩⟩
    · rw [upd_ne hb]; exact ⟨o', x2, kn⟩
/-- what a method does to the list in slot j: by its content and the arguments, the new content and the answer -/
def MutD (K : PySem.W.Frag) (r : V → List V → Hp → VK → Prop) (f : List D → List D → (List D → D → Prop) → Prop) : Prop := ∀ (z : Addr → Prop) (F H : Hp) (a : Addr) (vs : List V) (ds : List D) (xs : List V) (as : List D) (Q : VK) (q : List D → D → Prop), Ex F H → H a = some (.lst vs) → RpAll ⟨K, z⟩ F vs ds → RpAll ⟨K, z⟩ F xs as → f ds as q →
  (∀ v d vs' ds', RpAll ⟨K, z⟩ F vs' ds' → Rp ⟨K, z⟩ F v d → q ds' d → Q v (upd H a (.lst vs'))) → r (.ref a) xs H Q
def isL : Sx → Prop
  | .own _ (.lst _) => True
  | _ => False
def dMut (j : Nat) (f : List D → List D → (List D → D → Prop) → Prop) (da : DA) (γ : Env) (q : RS → Env → Prop) : Prop := isL (look γ j) ∧ da γ fun rs γ1 => allV rs ∧ match look γ1 j with
  | .own p (.lst ds) => f ds (rs.map RS.data) fun ds' d => q (.val d) (put γ1 j (.own p (.lst ds')))
  | _ => False
theorem se_mut {ta : TA} {da : DA} {r : V → List V → Hp → VK → Prop} {f : List D → List D → (List D → D → Prop) → Prop} {j : Nat} (hm : MutD K r f) (h : SA K B ta da) : SE K B (tBM K "list" r (tVar j) ta) (dMut j f da) := fun F H σ γ Q q R ⟨h0, hq⟩ k => by
  obtain ⟨p, ds, hl⟩ : ∃ p ds, look γ j = .own p (.lst ds) := by
    revert h0
    cases look γ j with
    | no => exact fun z => z.elim
    | val d => exact fun z => z.elim
    | own p c => cases c with
      | lst ds => exact fun _ => ⟨p, ds, rfl⟩
      | ins C fs => exact fun z => z.elim
      | dct kd => exact fun z => z.elim
  obtain ⟨a, hs, hg, fa, vs, ha, ra⟩ := R.own hl
  refine ⟨_, hs, Or.inl ⟨rfl, vs, Evl.sq_of ha⟩, h F H σ γ _ _ R hq fun xs F1 H1 γ1 rs R1 e1 o1 ⟨h1, h2⟩ => ?_⟩
  split at h2
  · rename_i p1 ds1 hl1
    obtain ⟨a1, hs1, hg1, fa1, vs1, ha1, ra1⟩ := R1.own hl1
    rw [hs] at hs1; cases hs1
    exact hm B.z F1 H1 a vs1 ds1 xs _ Q _ R1.fh ha1 ra1 (allV_rp o1 h1) h2 fun v d vs' ds' r1 r2 h3 => k v F1 _ _ (.val d) (R1.write hl1 hs ha1 r1) e1 r2 h3
  · exact h2.elim
theorem se_mut0 {r : V → List V → Hp → VK → Prop} {f : List D → List D → (List D → D → Prop) → Prop} {j : Nat} (hm : MutD K r f) : SE K B (tBM0 K "list" r (tVar j)) (dMut j f dNil) := fun F H σ γ Q q R ⟨h0, _, h2⟩ k => by
  split at h2
  · rename_i p ds hl
    obtain ⟨a, hs, hg, fa, vs, ha, ra⟩ := R.own hl
    exact ⟨_, hs, Or.inl ⟨rfl, vs, Evl.sq_of ha⟩, hm B.z F H a vs ds [] [] Q _ R.fh ha ra .nil h2 fun v d vs' ds' r1 r2 h3 => k v F _ _ (.val d) (R.write hl hs ha r1) (Evl.Ex.refl F) r2 h3⟩
  · exact h2.elim
def mApp (ds as : List D) (q : List D → D → Prop) : Prop := match as with
  | [x] => ds.length < 1000000 ∧ q (ds ++ [x]) .non
  | _ => False
theorem md_append : MutD K rAppend mApp := fun z F H a vs ds xs as Q q eFH ha ra rx hf k => by
  unfold mApp at hf
  split at hf
  · obtain ⟨x, rfl, r⟩ := one_rs rx.p
    exact ⟨a, vs, x, rfl, rfl, ha, Nat.lt_of_lt_of_le (by rw [ra.length]; exact hf.1) (by decide), k _ _ _ _ (RpAll.of (P_app ra.p (.cons r .nil))) .non hf.2⟩
  · exact hf.elim
def mPopAt (ds as : List D) (q : List D → D → Prop) : Prop := match as with
  | [.int i] => -1000000 ≤ i ∧ i ≤ 1000000 ∧ ∃ k d, seqIndex? i ds.length = some k ∧ ds[k]? = some d ∧ q (ds.eraseIdx k) d
  | _ => False
theorem md_popAt : MutD K rPopAt mPopAt := fun z F H a vs ds xs as Q q eFH ha ra rx hf k => by
  unfold mPopAt at hf
  split at hf
  · obtain ⟨x, rfl, r⟩ := one_rs rx.p
    cases r
    obtain ⟨i1, i2, j, d, h1, h2, h3⟩ := hf
    obtain ⟨v, hv, rv⟩ := P_get ra.p h2
    exact ⟨a, vs, _, j, v, rfl, rfl, ha, by omega, by omega, by rw [ra.length]; exact h1, hv, k _ _ _ _ (RpAll.of (P_erase j ra.p)) rv h3⟩
  · exact hf.elim
def mPop (ds as : List D) (q : List D → D → Prop) : Prop := match as with
  | [] => ∃ d, ds[ds.length - 1]? = some d ∧ q ds.dropLast d
  | _ => False
theorem md_pop : MutD K rPop mPop := fun z F H a vs ds xs as Q q eFH ha ra rx hf k => by
  unfold mPop at hf
  split at hf
  · cases rx
    obtain ⟨d, h2, h3⟩ := hf
    obtain ⟨v, hv, rv⟩ := P_get ra.p h2
    exact ⟨a, vs, v, rfl, rfl, ha, by rw [ra.length]; exact hv, k _ _ _ _ (RpAll.of (P_dropLast ra.p)) rv h3⟩
  · exact hf.elim
end
section
variable {X : Cx} {B : Bs} {e : Expr} {es : List Expr} {ta : TA} {da : DA} {cpos apos pos : Pos} {x : Str}
theorem x_mut {j : Nat} {r : V → List V → Hp → VK → Prop} {f : List D → List D → (List D → D → Prop) → Prop} {c : Expr} (pe : PA X es ta → PE X c (tBM X.K "list" r (tVar j) ta)) (hd : MutD X.K r f) (h : XA X B es ta da) : XE X B c (tBM X.K "list" r (tVar j) ta) (dMut j f da) := ⟨pe h.pa, se_mut hd h.sa⟩
theorem x_mut0 {j : Nat} {r : V → List V → Hp → VK → Prop} {f : List D → List D → (List D → D → Prop) → Prop} {c : Expr} (pe : PE X c (tBM0 X.K "list" r (tVar j))) (hd : MutD X.K r f) : XE X B c (tBM0 X.K "list" r (tVar j)) (dMut j f dNil) := ⟨pe, se_mut0 hd⟩
/-- xs[i] = e -/
def RS.kept : RS → Prop
  | .own _ _ => False
  | _ => True
def dSetI (j : Nat) (de di : DE) (d : DEnds) (γ : Env) : Prop := de γ fun s γ1 => s.kept ∧ isL (look γ1 j) ∧ di γ1 fun t γ2 => match look γ2 j, t.data with
  | .own p (.lst ds), .int i => ∃ k, ixN ds.length i = some k ∧ d.nx (put γ2 j (.own p (.lst (ds.set k s.data))))
  | _, _ => False
theorem ss_setI {K : PySem.W.Frag} {B : Bs} {te ti : TE} {de di : DE} {j : Nat} (he : SE K B te de) (hi : SE K B ti di) : SS K B (tAsg te (gSub (tVar j) ti rSetL)) (dSetI j de di) := fun F H σ γ E d R hq k => by
  refine he F H σ γ _ _ R hq fun v F1 H1 γ1 s R1 e1 o1 ⟨hk, h0, q⟩ => ?_
  obtain ⟨F2, R2, e2, o2⟩ := o1.fz R1
  have rv : Rp (B.kz K) F2 v s.data := by
    cases s with
    | val x => exact o2
    | new c => exact o2
    | own j c => exact hk.elim
  obtain ⟨p, ds, hl⟩ : ∃ p ds, look γ1 j = .own p (.lst ds) := by
    revert h0
    cases look γ1 j with
    | no => exact fun z => z.elim
    | val d => exact fun z => z.elim
    | own p c => cases c with
      | lst ds => exact fun _ => ⟨p, ds, rfl⟩
      | ins C fs => exact fun z => z.elim
      | dct kd => exact fun z => z.elim
  obtain ⟨a, hs, hg, fa, vs, ha, ra⟩ := R2.own hl
  refine ⟨_, hs, hi F2 H1 σ γ1 _ _ R2 q fun v3 F3 H3 γ3 t R3 e3 o3 q3 => ?_⟩
  split at q3
  · rename_i p1 ds1 i hl1 es
    obtain ⟨a1, hs1, hg1, fa1, vs1, ha1, ra1⟩ := R3.own hl1
    rw [hs] at hs1; cases hs1
    obtain ⟨m, hm, q4⟩ := q3
    have rt := o3.rs R3
    rw [es] at rt
    exact ⟨a, vs1, i, m, rfl, rt.int, ha1, by rw [ra1.length]; exact hm, k.nx F3 _ _ _ (R3.write hl1 hs ha1 (RpAll.of (P_set (Rp.mono e3 rv) m ra1.p))) ((e1.trans e2).trans e3) q4⟩
  · exact q3.elim
theorem s_setI (j : Nat) {ei : Expr} {te ti : TE} {de di : DE} {p3 : Pos} {o : Str} (he : XE X B e te de) (hi : XE X B ei ti di)
    (hN : X.N[j]? = some o := by rfl) (hv : Vis X.env.scope o := by first | exact Or.inl rfl | exact Or.inr (Or.inl rfl) | exact Or.inr (Or.inr rfl)) (hd : (o == ("__debug__" : Str)) = false := by decide) (hcd : (o == ("__classdict__" : Str)) = false := by decide)
    (ha : ∀ v, assign (.Subscript (.Name o apos) ei p3) X.env v = (do
      let ov ← holding [v] (eval (.Name o apos) X.env)
      let iv ← holding [v, ov] (eval ei X.env)
      standAt p3
      holding [v, ov, iv] (setItem ov iv v)
      release [v, ov, iv] []) := by intro _; rfl)
    (hs : swapsWithSole [.Subscript (.Name o apos) ei p3] e pos.line X.env = pure false := by rfl) (hw : swappedStores [.Subscript (.Name o apos) ei p3] e X.env = pure none := by rfl)
    (h1 : (assignEach [.Subscript (.Name o apos) ei p3] X.env).map (·.2) = [assign (.Subscript (.Name o apos) ei p3) X.env] := by rfl) :
    XS X B (.Assign [.Subscript (.Name o apos) ei p3] e pos) (tAsg te (gSub (tVar j) ti rSetL)) (dSetI j de di) :=
  ⟨ps_asg he.pe (pg_sub (pe_var hN hv hd hcd) hi.pe set_list ha) hs hw h1, ss_setI he.se hi.se⟩
end
end DL

set_option Elab.async false
set_option linter.all false
set_option maxRecDepth 100000
set_option maxHeartbeats 2000000
namespace DL
open PySem PySem.Spec PyProof.Rows L2
open Evl (Ex ex_l ex_t)

/-! ### while -/
def dWhile (dt : DT) (db : DS) (d : DEnds) (γ : Env) : Prop := ∃ I : Nat → Env → Prop, (∃ m, I m γ) ∧ ∀ m γ2, I m γ2 → dt γ2 fun b γ3 =>
  (b = true → db { nx := fun γ4 => ∃ m', m' < m ∧ I m' γ4, ct := fun γ4 => ∃ m', m' < m ∧ I m' γ4, bk := d.nx, rt := d.rt } γ3) ∧ (b = false → d.nx γ3)
theorem s_while {X : Cx} {B : Bs} {c : Expr} {body : List Stmt} {pos : Pos} {tc : TT} {dc : DT} {tb : TS} {db : DS} (hp : PassesOwn (model X.prog X.w) X.A X.env X.xe) (hc : XT X B c tc dc) (hb : XSs X B body tb db) : XS X B (.While c body [] pos) (tWhile tc tb) (dWhile dc db) := ⟨ps_while hp hc.pt hb.ps, fun F H σ γ E d R ⟨I, ⟨m0, i0⟩, hI⟩ k => by
  refine ⟨fun m σ' H' => ∃ F' γ', Rep X.K B F' H' σ' γ' ∧ Ex F F' ∧ I m γ', ⟨m0, F, γ, R, Evl.Ex.refl F, i0⟩, fun m σ' H' ⟨F1, γ1, R1, e1, i1⟩ => ?_⟩
  refine hc.st F1 H' σ' γ1 _ _ R1 (hI m γ1 i1) fun b F2 H2 γ2 R2 e2 q => ?_
  cases b with
  | true =>
    refine ⟨fun σ3 H3 => ∃ m', m' < m ∧ ∃ F' γ', Rep X.K B F' H3 σ3 γ' ∧ Ex F F' ∧ I m' γ', fun σ3 H3 h => h, ?_⟩
    refine hb.ss F2 H2 σ' γ2 _ _ R2 (q.1 rfl) ⟨fun F3 H3 σ3 γ3 R3 e3 ⟨m', hm, i3⟩ => ⟨m', hm, F3, γ3, R3, (e1.trans e2).trans e3, i3⟩, (k.mono (e1.trans e2)).rt, fun F3 H3 σ3 γ3 R3 e3 h => k.nx F3 H3 σ3 γ3 R3 ((e1.trans e2).trans e3) h,
      fun F3 H3 σ3 γ3 R3 e3 ⟨m', hm, i3⟩ => ⟨m', hm, F3, γ3, R3, (e1.trans e2).trans e3, i3⟩⟩
  | false => exact k.nx F2 H2 σ' γ2 R2 (e1.trans e2) (q.2 rfl)⟩

/-! ### what is walked -/
abbrev DI := Env → (Nat → (Nat → D → Prop) → Env → Prop) → Prop
theorem Rp.zz {K : PySem.W.Frag} {B : Bs} {z : Addr → Prop} {F : Hp} {v : V} {d : D} (hz : B.z = z) (h : Rp ⟨K, z⟩ F v d) : Rp (B.kz K) F v d := by
  unfold Bs.kz
  rw [hz]
  exact h
structure JOk (K : PySem.W.Frag) (z : Addr → Prop) (F0 : Hp) (J : It) (n : Nat) (y : Nat → D → Prop) : Prop where
  go : ∀ (B : Bs) (F H : Hp) (σ : L2.St) (γ : Env) (i : Nat), Rep K B F H σ γ → Ex F0 F → i < n → J.go i H
  yl : ∀ (B : Bs) (F H : Hp) (σ : L2.St) (γ : Env) (i : Nat) (x : V) (H' : Hp), Rep K B F H σ γ → Ex F0 F → i < n → J.yld i H x H' → B.z = z → ∃ F' d, Rep K B F' H' σ γ ∧ Ex F F' ∧ Rp (B.kz K) F' x d ∧ y i d
  st : ∀ (B : Bs) (F H : Hp) (σ : L2.St) (γ : Env) (i : Nat), Rep K B F H σ γ → Ex F0 F → n ≤ i → J.stop i H
def SI (K : PySem.W.Frag) (B : Bs) (wi : TI) (di : DI) : Prop := ∀ (F H : Hp) (σ : L2.St) (γ : Env) (R : It → Hp → Prop) (r : Nat → (Nat → D → Prop) → Env → Prop), Rep K B F H σ γ → di γ r →
  (∀ J F' H' γ' n y, Rep K B F' H' σ γ' → Ex F F' → JOk K B.z F' J n y → r n y γ' → R J H') → wi σ H R
structure XI (X : Cx) (B : Bs) (tg iter : Expr) (wi : TI) (di : DI) : Prop where
  pi : PI X tg iter wi
  si : SI X.K B wi di
/-- for: I, what holds between the turns -/
def dFor (di : DI) (dg : DG) (db : DS) (d : DEnds) (γ : Env) : Prop := di γ fun n y γ1 => ∃ I : Nat → Env → Prop, I 0 γ1 ∧
  (∀ i γ2, i < n → I i γ2 → ∀ x, y i x → dg x γ2 fun γ3 => db { nx := I (i + 1), ct := I (i + 1), bk := d.nx, rt := d.rt } γ3) ∧ ∀ γ2, I n γ2 → d.nx γ2
theorem s_for {X : Cx} {B : Bs} {tg iter : Expr} {body : List Stmt} {pos : Pos} {wi : TI} {di : DI} {g : TG} {dg : DG} {tb : TS} {db : DS} {ix : List Nat} (hp : PassesOwn (model X.prog X.w) X.A X.env X.xe) (hc : X.calm = true) (hi : XI X B tg iter wi di) (hg : XG X B tg g dg ix) (hb : XSs X B body tb db)
    (hs : ∀ x, foldedSetIterable iter X.env x = pure x := by intro _; rfl) : XS X B (.For tg iter body [] pos) (tFor wi g tb) (dFor di dg db) := ⟨ps_for hp hc hi.pi hg.pg hb.ps hs, fun F H σ γ E d R h k => by
  refine hi.si F H σ γ _ _ R h fun J F1 H1 γ1 n y R1 e1 jo ⟨I, i0, it, ie⟩ => ?_
  refine ⟨fun i m σ' H' => m = n - i ∧ i ≤ n ∧ ∃ F' γ', Rep X.K B F' H' σ' γ' ∧ Ex F1 F' ∧ I i γ', ⟨n, by omega, by omega, F1, γ1, R1, Evl.Ex.refl F1, i0⟩, fun i m σ' H' ⟨hm, hn, F2, γ2, R2, e2, i2⟩ => ?_⟩
  by_cases hlt : i < n
  · refine .inr ⟨jo.go B F2 H' σ' γ2 i R2 e2 hlt, fun σ3 H3 => ∃ F' γ', Rep X.K B F' H3 σ3 γ' ∧ Ex F1 F' ∧ I (i + 1) γ', fun σ3 H3 q => ⟨n - (i + 1), by omega, rfl, by omega, q⟩, fun x H3 hy => ?_⟩
    obtain ⟨F3, dd, R3, e3, rx, yx⟩ := jo.yl B F2 H' σ' γ2 i x H3 R2 e2 hlt hy rfl
    refine hg.sg F3 H3 σ' γ2 x dd _ _ R3 rx (it i γ2 hlt i2 dd yx) fun σ4 γ4 R4 _ h4 => ?_
    exact hb.ss F3 H3 σ4 γ4 _ _ R4 h4 ⟨fun F5 H5 σ5 γ5 R5 e5 i5 => ⟨F5, γ5, R5, (e2.trans e3).trans e5, i5⟩, (k.mono ((e1.trans e2).trans e3)).rt, fun F5 H5 σ5 γ5 R5 e5 q => k.nx F5 H5 σ5 γ5 R5 (((e1.trans e2).trans e3).trans e5) q,
      fun F5 H5 σ5 γ5 R5 e5 i5 => ⟨F5, γ5, R5, (e2.trans e3).trans e5, i5⟩⟩
  · obtain rfl : i = n := by omega
    exact .inl ⟨jo.st B F2 H' σ' γ2 i R2 e2 (Nat.le_refl _), k.nx F2 H' σ' γ2 R2 (e1.trans e2) (ie γ2 i2)⟩⟩

/-! ### lists, tuples, ranges, zip, enumerate, reversed -/
section
variable {K : PySem.W.Frag} {B : Bs}
theorem sq_inj_lst {F H : Hp} {a : Addr} {vs : List V} (e : Ex F H) (h : F a = some (.lst vs)) : SqL K H a vs := Evl.sq_of (e _ _ h)
def dIL (de : DE) (γ : Env) (r : Nat → (Nat → D → Prop) → Env → Prop) : Prop := de γ fun s γ1 => s.kept ∧ match s.data with
  | .lst ds => r ds.length (fun i d => ds[i]? = some d) γ1
  | .scr ns => r ns.length (fun i d => ∃ n, ns[i]? = some n ∧ d = .int n) γ1
  | _ => False
theorem RsOk.kp {B : Bs} {F H : Hp} {σ : L2.St} {γ : Env} {v : V} {s : RS} (h : RsOk K B F H σ γ v s.fz) (hk : s.kept) : Rp (B.kz K) F v s.data := by
  cases s with
  | val d => exact h
  | new c => exact h
  | own j c => exact hk.elim
theorem jo_list {F0 : Hp} {a : Addr} {vs : List V} {ds : List D} (h : SqL K F0 a vs) {z : Addr → Prop} (r : RpAll ⟨K, z⟩ F0 vs ds) : JOk K z F0 (Itl K a) ds.length (fun i d => ds[i]? = some d) where
  go := fun B F H σ γ i R e hi => by
    obtain ⟨x, hx⟩ : ∃ x, vs[i]? = some x := ⟨vs[i]'(by rw [r.length]; exact hi), List.getElem?_eq_getElem _⟩
    exact ⟨vs, x, ex_l (e.trans R.fh) h, hx⟩
  yl := fun B F H σ γ i x H' R e hi ⟨hH, hy⟩ hz => by
    subst hH
    have hv := hy vs (ex_l (e.trans R.fh) h)
    obtain ⟨d, hd, rd⟩ := P_getL r.p hv
    exact ⟨F, d, R, Evl.Ex.refl F, (rd.mono e).zz hz, hd⟩
  st := fun B F H σ γ i R e hi => ⟨vs, ex_l (e.trans R.fh) h, by rw [r.length]; exact hi⟩
theorem si_list {te : TE} {de : DE} (he : SE K B te de) : SI K B (iList K te) (dIL de) := fun F H σ γ W r R hq k => by
  refine he F H σ γ _ _ R hq fun x F1 H1 γ1 s R1 e1 o1 ⟨hk, h1⟩ => ?_
  obtain ⟨F2, R2, e2, o2⟩ := o1.fz R1
  have rp := o2.kp hk
  split at h1
  · rename_i ds es
    rw [es] at rp
    cases rp with
    | lst ha ra => exact ⟨_, rfl, ⟨_, Evl.sq_of (R2.fh _ _ ha)⟩, k _ F2 H1 γ1 _ _ R2 (e1.trans e2) (jo_list (Evl.sq_of ha) ra) h1⟩
  · rename_i ns es
    rw [es] at rp
    cases rp with
    | scr ha =>
      refine ⟨_, rfl, ⟨_, ex_l R2.fh ha⟩, k _ F2 H1 γ1 _ _ R2 (e1.trans e2) ?_ h1⟩
      have j := jo_list (z := B.z) ha (ints_rp ns)
      rw [List.length_map] at j
      refine ⟨j.go, fun B F H σ γ i x H' R e hi hy hz => ?_, j.st⟩
      obtain ⟨F', d, q1, q2, q3, q4⟩ := j.yl B F H σ γ i x H' R e hi hy hz
      rw [List.getElem?_map] at q4
      cases hn : ns[i]? with
      | none => rw [hn] at q4; cases q4
      | some n => rw [hn] at q4; exact ⟨F', d, q1, q2, q3, n, rfl, (Option.some.inj q4).symm⟩
  · exact h1.elim
def dIT (de : DE) (γ : Env) (r : Nat → (Nat → D → Prop) → Env → Prop) : Prop := de γ fun s γ1 => s.kept ∧ match s.data with
  | .tup ds => r ds.length (fun i d => ds[i]? = some d) γ1
  | _ => False
theorem jo_tup {F0 : Hp} {a : Addr} {vs : List V} {ds : List D} (h : SqT K F0 a vs) {z : Addr → Prop} (r : RpAll ⟨K, z⟩ F0 vs ds) : JOk K z F0 (Itt K a) ds.length (fun i d => ds[i]? = some d) where
  go := fun B F H σ γ i R e hi => by
    obtain ⟨x, hx⟩ : ∃ x, vs[i]? = some x := ⟨vs[i]'(by rw [r.length]; exact hi), List.getElem?_eq_getElem _⟩
    exact ⟨vs, x, ex_t (e.trans R.fh) h, hx⟩
  yl := fun B F H σ γ i x H' R e hi ⟨hH, hy⟩ hz => by
    subst hH
    have hv := hy vs (ex_t (e.trans R.fh) h)
    obtain ⟨d, hd, rd⟩ := P_getL r.p hv
    exact ⟨F, d, R, Evl.Ex.refl F, (rd.mono e).zz hz, hd⟩
  st := fun B F H σ γ i R e hi => ⟨vs, ex_t (e.trans R.fh) h, by rw [r.length]; exact hi⟩
theorem si_tup {te : TE} {de : DE} (he : SE K B te de) : SI K B (iTup K te) (dIT de) := fun F H σ γ W r R hq k => by
  refine he F H σ γ _ _ R hq fun x F1 H1 γ1 s R1 e1 o1 ⟨hk, h1⟩ => ?_
  obtain ⟨F2, R2, e2, o2⟩ := o1.fz R1
  have rp := o2.kp hk
  split at h1
  · rename_i ds es
    rw [es] at rp
    cases rp with
    | tup ha ra => exact ⟨_, rfl, ⟨_, ex_t R2.fh ha⟩, k _ F2 H1 γ1 _ _ R2 (e1.trans e2) (jo_tup ha ra) h1⟩
  · exact h1.elim
theorem jo_range {F0 : Hp} {lo : Int} {n : Nat} {z : Addr → Prop} : JOk K z F0 (Itr lo n) n (fun i d => d = .int (lo + i)) where
  go := fun B F H σ γ i R e hi => hi
  yl := fun B F H σ γ i x H' R e hi ⟨hH, hy⟩ hz => by
    subst hH; subst hy
    exact ⟨F, _, R, Evl.Ex.refl F, .int _, rfl⟩
  st := fun B F H σ γ i R e hi => hi
theorem ints1 {B : Bs} {F H : Hp} {σ : L2.St} {γ : Env} (R : Rep K B F H σ γ) {vs : List V} {rs : List RS} {a : Int} (o : Paired (RsOk K B F H σ γ) vs rs) (h : rs.map RS.data = [.int a]) : vs = [.int a] := by
  have q := rs_all R o
  rw [h] at q
  obtain ⟨x, rfl, r⟩ := one_rs q
  rw [r.int]
def dIR1 (da : DA) (γ : Env) (r : Nat → (Nat → D → Prop) → Env → Prop) : Prop := da γ fun rs γ1 => match rs.map RS.data with
  | [.int n] => -1000000000000 ≤ n ∧ n ≤ 1000000000000 ∧ r n.toNat (fun i d => d = .int i) γ1
  | _ => False
theorem si_range1 {ta : TA} {da : DA} (h : SA K B ta da) : SI K B (iRng1 ta) (dIR1 da) := fun F H σ γ W r R hq k => by
  refine h F H σ γ _ _ R hq fun vs F1 H1 γ1 rs R1 e1 o1 h1 => ?_
  split at h1
  · rename_i n es
    obtain ⟨h0, h2, h3⟩ := h1
    refine ⟨n, ints1 R1 o1 es, by omega, by omega, k _ F1 H1 γ1 _ _ R1 e1 ⟨(jo_range (z := B.z)).go, fun B F H σ γ i x H' R e hi hy hz => ?_, (jo_range (z := B.z)).st⟩ h3⟩
    obtain ⟨F', d, q1, q2, q3, q4⟩ := (jo_range (z := _)).yl B F H σ γ i x H' R e hi hy hz
    exact ⟨F', d, q1, q2, q3, by rw [q4, Int.zero_add]⟩
  · exact h1.elim
theorem ints2 {B : Bs} {F H : Hp} {σ : L2.St} {γ : Env} (R : Rep K B F H σ γ) {vs : List V} {rs : List RS} {a b : Int} (o : Paired (RsOk K B F H σ γ) vs rs) (h : rs.map RS.data = [.int a, .int b]) : vs = [.int a, .int b] := by
  have q := rs_all R o
  rw [h] at q
  obtain ⟨x, y, rfl, r, r'⟩ := two_rs q
  rw [r.int, r'.int]
def dIR2 (da : DA) (γ : Env) (r : Nat → (Nat → D → Prop) → Env → Prop) : Prop := da γ fun rs γ1 => match rs.map RS.data with
  | [.int m, .int n] => -1000000000000 ≤ m ∧ m ≤ 1000000000000 ∧ -1000000000000 ≤ n ∧ n ≤ 1000000000000 ∧ r (n - m).toNat (fun i d => d = .int (m + i)) γ1
  | _ => False
theorem si_range2 {ta : TA} {da : DA} (h : SA K B ta da) : SI K B (iRng2 ta) (dIR2 da) := fun F H σ γ W r R hq k => by
  refine h F H σ γ _ _ R hq fun vs F1 H1 γ1 rs R1 e1 o1 h1 => ?_
  split at h1
  · rename_i m n es
    obtain ⟨h0, h2, h3, h4, h5⟩ := h1
    exact ⟨m, n, ints2 R1 o1 es, ⟨by omega, by omega, by omega, by omega⟩, k _ F1 H1 γ1 _ _ R1 e1 jo_range h5⟩
  · exact h1.elim
/-- range(lo, hi, c), c a written step of 1 to 1000 -/
def dIR3 (da : DA) (γ : Env) (r : Nat → (Nat → D → Prop) → Env → Prop) : Prop := da γ fun rs γ1 => match rs.map RS.data with
  | [.int m, .int n, .int c] => -1000000000000 ≤ m ∧ m ≤ 1000000000000 ∧ -1000000000000 ≤ n ∧ n ≤ 1000000000000 ∧ ∃ t, RgC m n c t ∧ r t (fun i d => d = .int (m + i * c)) γ1
  | _ => False
theorem ints3 {B : Bs} {F H : Hp} {σ : L2.St} {γ : Env} (R : Rep K B F H σ γ) {vs : List V} {rs : List RS} {a b c : Int} (o : Paired (RsOk K B F H σ γ) vs rs) (h : rs.map RS.data = [.int a, .int b, .int c]) : vs = [.int a, .int b, .int c] := by
  have q := rs_all R o
  rw [h] at q
  cases q with
  | cons r t =>
    obtain ⟨x, y, rfl, r', r''⟩ := two_rs t
    rw [r.int, r'.int, r''.int]
theorem jo_rangeC {F0 : Hp} {lo c : Int} {n : Nat} {z : Addr → Prop} : JOk K z F0 (Itc lo c n) n (fun i d => d = .int (lo + i * c)) where
  go := fun B F H σ γ i R e hi => hi
  yl := fun B F H σ γ i x H' R e hi ⟨hH, hy⟩ hz => by
    subst hH; subst hy
    exact ⟨F, _, R, Evl.Ex.refl F, .int _, rfl⟩
  st := fun B F H σ γ i R e hi => hi
theorem si_range3 {ta : TA} {da : DA} (h : SA K B ta da) : SI K B (iRng3 ta) (dIR3 da) := fun F H σ γ W r R hq k => by
  refine h F H σ γ _ _ R hq fun vs F1 H1 γ1 rs R1 e1 o1 h1 => ?_
  split at h1
  · rename_i m n c es
    obtain ⟨_, _, _, _, t, h4, h5⟩ := h1
    exact ⟨m, n, c, t, ints3 R1 o1 es, h4, k _ F1 H1 γ1 _ _ R1 e1 jo_rangeC h5⟩
  · exact h1.elim
theorem lst_of {B : Bs} {F H : Hp} {σ : L2.St} {γ : Env} {v : V} {r : RS} (o : RsOk K B F H σ γ v r) (hv : allV [r]) {ds : List D} (h : r.data = .lst ds) : ∃ a vs, v = .ref a ∧ F a = some (.lst vs) ∧ RpAll (B.kz K) F vs ds := by
  cases r with
  | val d =>
    have o' : Rp (B.kz K) F v d := o
    have h' : d = .lst ds := h
    rw [h'] at o'
    cases o' with
    | lst ha ra => exact ⟨_, _, rfl, ha, ra⟩
  | own j c => exact hv.elim
  | new c => exact hv.elim
def dIZ (da : DA) (γ : Env) (r : Nat → (Nat → D → Prop) → Env → Prop) : Prop := da γ fun rs γ1 => allV rs ∧ match rs.map RS.data with
  | [.lst xs, .lst ys] => r (min xs.length ys.length) (fun i d => ∃ x y, xs[i]? = some x ∧ ys[i]? = some y ∧ d = .tup [x, y]) γ1
  | _ => False
theorem si_zip {ta : TA} {da : DA} (h : SA K B ta da) : SI K B (iZip K ta) (dIZ da) := fun F H σ γ W r R hq k => by
  refine h F H σ γ _ _ R hq fun vs F1 H1 γ1 rs R1 e1 o1 ⟨hv, h1⟩ => ?_
  split at h1
  · rename_i xs ys es
    have ra := allV_rp o1 hv
    rw [es] at ra
    cases ra with
    | cons r1 t => cases t with
      | cons r2 t => cases t with
        | nil =>
          cases r1 with
          | @lst a va _ ha ra => cases r2 with
            | @lst b vb _ hb rb =>
              refine ⟨_, _, _, _, rfl, Evl.sq_of (R1.fh _ _ ha), Evl.sq_of (R1.fh _ _ hb), k _ F1 H1 γ1 _ _ R1 e1 ⟨fun B F H σ γ i R e hi => ?_, fun B F H σ γ i x H' R e hi ⟨T, x1, x2, hx, hT, hH, f1, f2⟩ hz => ?_, fun B F H σ γ i R e hi => ?_⟩ h1⟩
              · have l1 : i < va.length := by rw [ra.length]; omega
                have l2 : i < vb.length := by rw [rb.length]; omega
                exact ⟨_, _, _, _, sq_inj_lst (e.trans R.fh) ha, sq_inj_lst (e.trans R.fh) hb, List.getElem?_eq_getElem l1, List.getElem?_eq_getElem l2⟩
              · subst hx; subst hH
                obtain ⟨d1, q1, s1⟩ := P_getL ra.p (f1 va (sq_inj_lst (e.trans R.fh) ha))
                obtain ⟨d2, q2, s2⟩ := P_getL rb.p (f2 vb (sq_inj_lst (e.trans R.fh) hb))
                obtain ⟨R', ex, rp⟩ := R.newT hT (.cons ((s1.mono e).zz hz) (.cons ((s2.mono e).zz hz) .nil))
                exact ⟨_, _, R', ex, rp, d1, d2, q1, q2, rfl⟩
              · refine ⟨_, _, sq_inj_lst (e.trans R.fh) ha, sq_inj_lst (e.trans R.fh) hb, ?_⟩
                rw [ra.length, rb.length]
                omega
  · exact h1.elim
def dIE (da : DA) (γ : Env) (r : Nat → (Nat → D → Prop) → Env → Prop) : Prop := da γ fun rs γ1 => allV rs ∧ match rs.map RS.data with
  | [.lst xs] => r xs.length (fun i d => ∃ x, xs[i]? = some x ∧ d = .tup [.int i, x]) γ1
  | _ => False
theorem si_enum {ta : TA} {da : DA} (h : SA K B ta da) : SI K B (iEnum K ta) (dIE da) := fun F H σ γ W r R hq k => by
  refine h F H σ γ _ _ R hq fun vs F1 H1 γ1 rs R1 e1 o1 ⟨hv, h1⟩ => ?_
  split at h1
  · rename_i xs es
    have ra := allV_rp o1 hv
    rw [es] at ra
    cases ra with
    | cons r1 t => cases t with
      | nil =>
        cases r1 with
        | @lst a va _ ha ra =>
          refine ⟨_, _, rfl, Evl.sq_of (R1.fh _ _ ha), k _ F1 H1 γ1 _ _ R1 e1 ⟨fun B F H σ γ i R e hi => ?_, fun B F H σ γ i x H' R e hi ⟨T, x1, hx, hT, hH, f1⟩ hz => ?_, fun B F H σ γ i R e hi => ?_⟩ h1⟩
          · have l1 : i < va.length := by rw [ra.length]; omega
            exact ⟨_, _, sq_inj_lst (e.trans R.fh) ha, List.getElem?_eq_getElem l1⟩
          · subst hx; subst hH
            obtain ⟨d1, q1, s1⟩ := P_getL ra.p (f1 va (sq_inj_lst (e.trans R.fh) ha))
            obtain ⟨R', ex, rp⟩ := R.newT hT (.cons (.int (i : Nat)) (.cons ((s1.mono e).zz hz) .nil))
            exact ⟨_, _, R', ex, rp, d1, q1, rfl⟩
          · exact ⟨_, sq_inj_lst (e.trans R.fh) ha, by rw [ra.length]; omega⟩
  · exact h1.elim
def dIV (da : DA) (γ : Env) (r : Nat → (Nat → D → Prop) → Env → Prop) : Prop := da γ fun rs γ1 => allV rs ∧ match rs.map RS.data with
  | [.lst xs] => r xs.length (fun i d => xs[xs.length - 1 - i]? = some d) γ1
  | _ => False
theorem si_rev {ta : TA} {da : DA} (h : SA K B ta da) : SI K B (iRev K ta) (dIV da) := fun F H σ γ W r R hq k => by
  refine h F H σ γ _ _ R hq fun vs F1 H1 γ1 rs R1 e1 o1 ⟨hv, h1⟩ => ?_
  split at h1
  · rename_i xs es
    have ra := allV_rp o1 hv
    rw [es] at ra
    cases ra with
    | cons r1 t => cases t with
      | nil =>
        cases r1 with
        | @lst a va _ ha ra =>
          have le := ra.length
          refine ⟨_, _, rfl, Evl.sq_of (R1.fh _ _ ha), k _ F1 H1 γ1 xs.length _ R1 e1 ⟨fun B F H σ γ i R e hi => ?_, fun B F H σ γ i x H' R e hi ⟨hH, f1⟩ hz => ?_, fun B F H σ γ i R e hi => ?_⟩ h1⟩
          · have l1 : va.length - 1 - i < va.length := by omega
            exact ⟨by omega, _, _, sq_inj_lst (e.trans R.fh) ha, List.getElem?_eq_getElem l1⟩
          · subst hH
            obtain ⟨d1, q1, s1⟩ := P_getL ra.p (f1 va (sq_inj_lst (e.trans R.fh) ha))
            rw [le] at q1
            exact ⟨F, d1, R, Evl.Ex.refl F, (s1.mono e).zz hz, q1⟩
          · show va.length ≤ i
            omega
  · exact h1.elim
end
section
variable {X : Cx} {B : Bs} {tg : Expr} {a b c e : Expr} {te : TE} {de : DE} {ta : TA} {da : DA} {p pos : Pos}
theorem i_list (h : XE X B e te de) : XI X B tg e (iList X.K te) (dIL de) := ⟨pi_list h.pe, si_list h.se⟩
theorem i_tup (h : XE X B e te de) : XI X B tg e (iTup X.K te) (dIT de) := ⟨pi_tup h.pe, si_tup h.se⟩
theorem i_r1 (hm : X.mg "range" = none) (h : XA X B [a] ta da) (hg : Gl X "range" := by rfl) (hs : starEach [a] X.env = [(false, eval a X.env)] := by rfl) : XI X B tg (.Call (.Name "range" p) [a] [] pos) (iRng1 ta) (dIR1 da) := ⟨pi_range1 hg hm h.pa hs, si_range1 h.sa⟩
theorem i_r2 (hm : X.mg "range" = none) (h : XA X B [a, b] ta da) (hg : Gl X "range" := by rfl) (hs : starEach [a, b] X.env = [(false, eval a X.env), (false, eval b X.env)] := by rfl) (hs2 : starEach [b] X.env = [(false, eval b X.env)] := by rfl) : XI X B tg (.Call (.Name "range" p) [a, b] [] pos) (iRng2 ta) (dIR2 da) := ⟨pi_range2 hg hm h.pa hs hs2, si_range2 h.sa⟩
theorem i_r3 (hm : X.mg "range" = none) (h : XA X B [a, b, c] ta da) (hg : Gl X "range" := by rfl) (hs : starEach [a, b, c] X.env = (false, eval a X.env) :: starEach [b, c] X.env := by rfl) (hpl : (backTo pos (starEach [b, c] X.env)).any (·.1) = false := by rfl) : XI X B tg (.Call (.Name "range" p) [a, b, c] [] pos) (iRng3 ta) (dIR3 da) := ⟨pi_range3 hg hm h.pa hs hpl, si_range3 h.sa⟩
theorem i_zip {elts : List Expr} {kk : Nat} {tpos : Pos} (hm : X.mg "zip" = none) (h : XA X B [a, b] ta da) (hg : Gl X "zip" := by rfl) (hs : starEach [a, b] X.env = (false, eval a X.env) :: starEach [b] X.env := by rfl) (hpl : (backTo pos (starEach [b] X.env)).any (·.1) = false := by rfl) : XI X B (.Tuple elts kk tpos) (.Call (.Name "zip" p) [a, b] [] pos) (iZip X.K ta) (dIZ da) := ⟨pi_zip hg hm h.pa hs hpl, si_zip h.sa⟩
theorem i_enum {elts : List Expr} {kk : Nat} {tpos : Pos} (hm : X.mg "enumerate" = none) (h : XA X B [a] ta da) (hg : Gl X "enumerate" := by rfl) (hs : starEach [a] X.env = [(false, eval a X.env)] := by rfl) : XI X B (.Tuple elts kk tpos) (.Call (.Name "enumerate" p) [a] [] pos) (iEnum X.K ta) (dIE da) := ⟨pi_enum hg hm h.pa hs, si_enum h.sa⟩
theorem i_rev (hm : X.mg "reversed" = none) (h : XA X B [a] ta da) (hg : Gl X "reversed" := by rfl) (hs : starEach [a] X.env = [(false, eval a X.env)] := by rfl) : XI X B tg (.Call (.Name "reversed" p) [a] [] pos) (iRev X.K ta) (dIV da) := ⟨pi_reversed hg hm h.pa hs, si_rev h.sa⟩
end
end DL

set_option Elab.async false
set_option linter.all false
set_option maxRecDepth 100000
set_option maxHeartbeats 2000000
namespace DL
open PySem PySem.Spec PyProof.Rows L2
open Evl (Ex ex_l ex_t)

/-! ### another base -/
def ownsOf (σ : L2.St) (γ : Env) (H : Hp) : List Addr := (List.range σ.length).flatMap fun (i : Nat) => match (σ[i]? : Option (Option V)), (γ[i]? : Option Sx) with
  | some (some (V.ref a)), some (Sx.own _ _) => a :: (match H a with | some (.ins _ dx _) => [dx] | _ => [])
  | _, _ => []
theorem mem_owns {σ : L2.St} {γ : Env} {H : Hp} {b : Addr} : b ∈ ownsOf σ γ H ↔ ∃ (i : Nat) (a : Addr) (p : Option Nat) (c : OC), σ[i]? = some (some (.ref a)) ∧ γ[i]? = some (.own p c) ∧ (b = a ∨ ∃ C fs, H a = some (.ins C b fs)) := by
  unfold ownsOf
  rw [List.mem_flatMap]
  constructor
  · rintro ⟨i, hi, h⟩
    split at h
    · rename_i a p c hs hg
      rcases List.mem_cons.mp h with e | h
      · exact ⟨i, a, p, c, hs, hg, .inl e⟩
      · split at h
        · rename_i C dx fs hh
          have e : b = dx := List.mem_singleton.mp h
          subst e
          exact ⟨i, a, p, c, hs, hg, .inr ⟨C, fs, hh⟩⟩
        · cases h
    · cases h
  · rintro ⟨i, a, p, c, hs, hg, h⟩
    refine ⟨i, List.mem_range.mpr (List.getElem?_eq_some_iff.mp hs).1, ?_⟩
    rw [hs, hg]
    rcases h with rfl | ⟨C, fs, hh⟩
    · exact List.mem_cons_self
    · refine List.mem_cons_of_mem _ ?_
      rw [hh]
      exact List.mem_singleton.mpr rfl
def Bs.re (B : Bs) (F H : Hp) (σ : L2.St) (γ : Env) : Bs := { B with F := F, H := H, m := ownsOf σ γ H }
section
variable {K : PySem.W.Frag} {B : Bs} {F F' H H' : Hp} {σ σ' : L2.St} {γ γ' : Env}
theorem Rep.re (R : Rep K B F H σ γ) : Rep K (B.re F H σ γ) F H σ γ := by
  refine ⟨R.fh, R.len, fun i s t hs hg => ?_, R.nd, fun b o e => ⟨fun _ => e, o, e⟩, Evl.Ex.refl F, fun b o _ _ => rfl, R.b4, fun i a p c hg hs => .inl ((mem_owns (σ := σ) (γ := γ) (H := H)).mpr ⟨i, a, p, c, hs, hg, .inl rfl⟩), R.bN, fun a o e => ⟨o, e, .refl o⟩⟩
  have q := R.sl i s t hs hg
  cases t with
  | no => trivial
  | val d => exact q
  | own p c =>
    obtain ⟨a, e, f, ok⟩ := q
    subst e
    refine ⟨a, rfl, f, ?_⟩
    cases c with
    | lst ds => exact ok
    | dct kd => exact ok
    | ins C fs =>
      obtain ⟨dx, fv, h1, h2, h3, h4, h5, h6⟩ := ok
      exact ⟨dx, fv, h1, h2, h3, h4, .inl (mem_owns.mpr ⟨i, a, p, _, hs, hg, .inr ⟨_, fv, h1⟩⟩), h6⟩
/-- what is owned may change, or is new -/
theorem Rep.owns (R : Rep K B F H σ γ) {b : Addr} (h : b ∈ ownsOf σ γ H) : b ∈ B.m ∨ B.H b = none := by
  obtain ⟨i, a, p, c, hs, hg, h⟩ := mem_owns.mp h
  rcases h with rfl | ⟨C, fs, hh⟩
  · exact R.b5 i b p c hg hs
  · obtain ⟨_, ok⟩ := R.ownObj hg hs
    cases c with
    | lst ds => obtain ⟨vs, h1, _⟩ := ok; rw [hh] at h1; cases h1
    | dct ds => obtain ⟨vs, h1, _⟩ := ok; rw [hh] at h1; cases h1
    | ins C fs =>
      obtain ⟨dx, fv, h1, h2, h3, h4, h5, h6⟩ := ok
      rw [hh] at h1
      injection h1 with h1
      injection h1 with _ e _
      rw [e]; exact h5
/-- from a base taken at (F, H): m1 what may have changed since, all of it changeable here or new -/
theorem Rep.comp (R : Rep K B F H σ γ) {B1 : Bs} (hF : B1.F = F) (hH : B1.H = H) (hN : B1.N = B.N) (hz : B1.z = B.z) (hm : ∀ b ∈ B1.m, b ∈ B.m ∨ B.H b = none) (R' : Rep K B1 F' H' σ' γ')
    (h4 : ∀ (i : Nat) a p c, γ'[i]? = some (.own p c) → σ'[i]? = some (some (.ref a)) → (∀ k, p = some k → B.pa k = some a) ∧ (p = none → B.N a = none)) : Rep K B F' H' σ' γ' := by
  have out : ∀ b o, B.H b = some o → b ∉ B.m → b ∉ B1.m := fun b o e n z => by
    rcases hm b z with q | q
    · exact n q
    · rw [e] at q; cases q
  have new : ∀ b, B1.H b = none → B.H b = none := fun b e => by
    cases q : B.H b with
    | none => rfl
    | some o => obtain ⟨_, o', e'⟩ := R.b1 b o q; rw [hH, e'] at e; cases e
  have up : ∀ b, b ∈ B1.m ∨ B1.H b = none → b ∈ B.m ∨ B.H b = none := fun b h => h.elim (hm b) fun e => .inr (new b e)
  refine ⟨R'.fh, R'.len, fun i s t hs hg => ?_, R'.nd, fun b o e => ?_, ?_, fun b o e n => ?_, h4, fun i a p c hg hs => up a (R'.b5 i a p c hg hs), fun b o e => R'.bN b o (by rw [hN]; exact e), fun a o e => let ⟨o1, h1, k1⟩ := R.bd a o e; let ⟨o2, h2, k2⟩ := R'.bd a o1 (by rw [hH]; exact h1); ⟨o2, h2, k1.trans k2⟩⟩
  · have q := R'.sl i s t hs hg
    cases t with
    | no => trivial
    | val d => obtain ⟨v, e, r⟩ := q; exact ⟨v, e, Rp.zz hz.symm r⟩
    | own p c => obtain ⟨a, e, f, ok⟩ := q; exact ⟨a, e, f, ok.base hN.symm hz.symm fun dx _ h => up dx h⟩
  · obtain ⟨x1, o1, x2⟩ := R.b1 b o e
    refine ⟨fun n => ?_, ?_⟩
    · exact (R'.b1 b o (by rw [hH]; exact x1 n)).1 (out b o e n)
    · exact (R'.b1 b o1 (by rw [hH]; exact x2)).2
  · exact R.b2.trans (by have := R'.b2; rw [hF] at this; exact this)
  · have x1 := (R.b1 b o e).1 n
    have x2 := R'.b3 b o (by rw [hH]; exact x1) (out b o e n)
    rw [x2, hF]
    exact R.b3 b o e n
theorem Rep.back (R : Rep K B F H σ γ) (R' : Rep K (B.re F H σ γ) F' H' σ' γ') : Rep K B F' H' σ' γ' := R.comp (B1 := B.re F H σ γ) rfl rfl rfl rfl (fun b h => R.owns h) R' R'.b4
/-- a list that nobody here owns is written -/
theorem Rep.poke (R : Rep K B F H σ γ) {a : Addr} {o o' : HO} (ha : H a = some o) (ho : ∀ x, o ≠ .own x) (fa : F a = none) (bm : a ∈ B.m ∨ B.H a = none) (na : ∀ (i : Nat) p c, γ[i]? = some (.own p c) → σ[i]? ≠ some (some (.ref a))) (hi : Kin o o') : Rep K B F (upd H a o') σ γ := by
  refine ⟨fun b x e => ?_, R.len, fun i s t hs hg => ?_, R.nd, fun b x e => ?_, R.b2, R.b3, R.b4, R.b5, fun b x e => ?_, fun b x e => ?_⟩
  · have n : b ≠ a := fun z => by subst z; rw [fa] at e; cases e
    rw [upd_ne n]; exact R.fh b x e
  · have q := R.sl i s t hs hg
    cases t with
    | no => trivial
    | val d => exact q
    | own q' c =>
      obtain ⟨b, e', f, ok'⟩ := q
      subst e'
      have nb : b ≠ a := fun z => by subst z; exact na i q' c hg hs
      exact ⟨b, rfl, f, ok'.heap (upd_ne nb) fun dx hd => upd_ne fun z => by subst z; rw [ha] at hd; exact ho b (Option.some.inj hd)⟩
  · obtain ⟨x1, o1, x2⟩ := R.b1 b x e
    by_cases hb : b = a
    · subst hb
      rw [upd_same]
      refine ⟨fun n => ?_, _, rfl⟩
      rcases bm with z | z
      · exact absurd z n
      · rw [e] at z; cases z
    · rw [upd_ne hb]; exact ⟨x1, o1, x2⟩
  · obtain ⟨o1, x2⟩ := R.bN b x e
    by_cases hb : b = a
    · subst hb; exact ⟨_, upd_same⟩
    · rw [upd_ne hb]; exact ⟨o1, x2⟩
  · obtain ⟨o1, x2, kn⟩ := R.bd b x e
    by_cases hb : b = a
    · subst hb
      rw [ha] at x2
      cases x2
      exact ⟨_, upd_same, kn.trans hi⟩
    · rw [upd_ne hb]; exact ⟨o1, x2, kn⟩
end

/-! ### comprehensions -/
def wipeG (γ : Env) : List Nat → Env
  | [] => γ
  | v :: vs => put (wipeG γ vs) v .no
def keepV : Sx → Sx
  | .val d => .val d
  | _ => .no
def restore (γ1 γ : Env) : List Nat → Env
  | [] => γ
  | v :: vs => put (restore γ1 γ vs) v (keepV (look γ1 v))
theorem wipe_get (σ : L2.St) (j : Nat) : ∀ vs : List Nat, (wipe σ vs)[j]? = if j ∈ vs ∧ j < σ.length then some none else σ[j]?
  | [] => by simp [wipe]
  | v :: vs => by
    unfold wipe
    by_cases e : v = j
    · subst e
      by_cases hl : v < σ.length
      · rw [List.getElem?_set_self (by rw [wipe_length]; exact hl), if_pos ⟨List.mem_cons_self, hl⟩]
      · rw [List.getElem?_eq_none (by rw [List.length_set, wipe_length]; omega), if_neg fun z => hl z.2, List.getElem?_eq_none (by omega)]
    · rw [List.getElem?_set_ne e, wipe_get σ j vs]
      have : (j ∈ v :: vs) ↔ j ∈ vs := by
        constructor
        · intro h
          rcases List.mem_cons.mp h with z | z
          · exact absurd z.symm e
          · exact z
        · exact List.mem_cons_of_mem _
      simp only [this]
theorem wipe_off {σ σ' : L2.St} {ix vs : List Nat} (h : Off ix (wipe σ vs) σ') (hs : ∀ i ∈ ix, i ∈ vs) : wipe σ' vs = wipe σ vs := by
  refine List.ext_getElem? fun j => ?_
  have hl : σ'.length = σ.length := h.1.trans (wipe_length σ vs)
  rw [wipe_get, wipe_get, hl]
  by_cases hj : j ∈ vs
  · by_cases h2 : j < σ.length
    · rw [if_pos ⟨hj, h2⟩, if_pos ⟨hj, h2⟩]
    · rw [if_neg fun z => h2 z.2, if_neg fun z => h2 z.2, List.getElem?_eq_none (by omega), List.getElem?_eq_none (by omega)]
  · rw [if_neg fun z => hj z.1, if_neg fun z => hj z.1, h.2 j fun z => hj (hs j z), wipe_get, if_neg fun z => hj z.1]
section
variable {K : PySem.W.Frag} {B : Bs} {F F1 H : Hp} {σ : L2.St} {γ γ1 : Env}
theorem Rep.wipe (R : Rep K B F H σ γ) : ∀ vs : List Nat, Rep K B F H (L2.wipe σ vs) (wipeG γ vs)
  | [] => R
  | v :: vs => by
    have R1 := R.wipe vs
    have R2 : Rep K B F H (L2.wipe σ vs) (put (wipeG γ vs) v .no) := R1.told (fun _ _ => trivial) (fun _ _ z => by cases z)
    have key : ∀ {j : Nat} {p : Option Nat} {c : OC} {s : Option V}, (put (wipeG γ vs) v .no)[j]? = some (.own p c) → ((L2.wipe σ vs).set v none)[j]? = some s → (L2.wipe σ vs)[j]? = some s := fun h1 h2 => by
      rcases get_put h1 with ⟨_, e⟩ | ⟨n, _⟩
      · cases e
      · rw [List.getElem?_set_ne (fun z => n z.symm)] at h2; exact h2
    unfold L2.wipe wipeG
    refine ⟨R2.fh, by rw [List.length_set]; exact R2.len, fun j s t hs hg => ?_, fun i j a p c q c' h1 h2 h3 h4 => R2.nd i j a p c q c' h1 h2 (key h1 h3) (key h2 h4), R2.b1, R2.b2, R2.b3, fun j a p c h1 h2 => R2.b4 j a p c h1 (key h1 h2), fun j a p c h1 h2 => R2.b5 j a p c h1 (key h1 h2), R2.bN, R2.bd⟩
    by_cases e : v = j
    · subst e
      rcases get_put hg with ⟨_, e⟩ | ⟨n, _⟩
      · rw [e]; trivial
      · exact absurd rfl n
    · rw [List.getElem?_set_ne e] at hs
      exact R2.sl j s t hs hg
theorem restore_get {γ1 γ : Env} {j : Nat} {s : Sx} : ∀ {vs : List Nat}, (restore γ1 γ vs)[j]? = some s → (j ∈ vs ∧ s = keepV (look γ1 j)) ∨ (j ∉ vs ∧ γ[j]? = some s)
  | [], h => .inr ⟨(fun z => by cases z), h⟩
  | v :: vs, h => by
    unfold restore at h
    rcases get_put h with ⟨rfl, e⟩ | ⟨n, e⟩
    · exact .inl ⟨List.mem_cons_self, e⟩
    · rcases restore_get e with ⟨a, b⟩ | ⟨a, b⟩
      · exact .inl ⟨List.mem_cons_of_mem _ a, b⟩
      · exact .inr ⟨fun z => (List.mem_cons.mp z).elim n a, b⟩
theorem restore_len {γ1 γ : Env} : ∀ vs : List Nat, (restore γ1 γ vs).length = γ.length
  | [] => rfl
  | v :: vs => by unfold restore; rw [put_len, restore_len vs]
theorem Rep.rest {H0 : Hp} {B0 : Bs} (R0 : Rep K B0 F1 H0 σ γ1) {vs : List Nat} (R : Rep K B F H (L2.wipe σ vs) γ) (e : Ex F1 F) (hz : B.z = B0.z) : Rep K B F H σ (restore γ1 γ vs) := by
  have key : ∀ {j : Nat} {p : Option Nat} {c : OC} {s : Option V}, (restore γ1 γ vs)[j]? = some (.own p c) → σ[j]? = some s → γ[j]? = some (.own p c) ∧ (L2.wipe σ vs)[j]? = some s := fun {j p c s} h1 h2 => by
    rcases restore_get h1 with ⟨_, z⟩ | ⟨n, z⟩
    · unfold keepV at z
      split at z <;> cases z
    · exact ⟨z, by rw [wipe_get, if_neg fun q => n q.1]; exact h2⟩
  refine ⟨R.fh, by rw [restore_len, ← R.len, wipe_length], fun j s t hs hg => ?_, fun i j a p c q c' h1 h2 h3 h4 => R.nd i j a p c q c' (key h1 h3).1 (key h2 h4).1 (key h1 h3).2 (key h2 h4).2, R.b1, R.b2, R.b3, fun j a p c h1 h2 => R.b4 j a p c (key h1 h2).1 (key h1 h2).2, fun j a p c h1 h2 => R.b5 j a p c (key h1 h2).1 (key h1 h2).2, R.bN, R.bd⟩
  rcases restore_get hg with ⟨_, z⟩ | ⟨n, z⟩
  · unfold keepV at z
    split at z
    · rename_i d hl
      subst z
      obtain ⟨v, h1, r⟩ := R0.val hl
      rw [hs] at h1
      cases h1
      exact ⟨v, rfl, (r.mono e).zz hz⟩
    · subst z; trivial
  · exact R.sl j s t (by rw [wipe_get, if_neg fun q => n q.1]; exact hs) z
end
/-- [elt for target in iter if ..]: I by the turn, what is made so far and the names -/
def dLc (di : DI) (dg : DG) (dt : DT) (de : DE) (vs : List Nat) (γ : Env) (q : RS → Env → Prop) : Prop := di γ fun n y γ1 => n ≤ 1000000 ∧ ∃ I : Nat → List D → Env → Prop, I 0 [] (wipeG γ1 vs) ∧
  (∀ i acc γ2, i < n → I i acc γ2 → ∀ x, y i x → dg x γ2 fun γ3 => dt γ3 fun b γ4 => (b = true → de γ4 fun s γ5 => s.kept ∧ I (i + 1) (acc ++ [s.data]) (wipeG γ5 vs)) ∧ (b = false → I (i + 1) acc (wipeG γ4 vs))) ∧
  ∀ acc γ2, I n acc γ2 → q (.new (.lst acc)) (restore γ1 γ2 vs)
theorem se_lc {K : PySem.W.Frag} {B : Bs} {wi : TI} {di : DI} {g : TG} {dg : DG} {tt : TT} {dt : DT} {te : TE} {de : DE} {vs ix : List Nat} (hi : SI K B wi di) (hg : ∀ B, SG K B g dg ix) (ht : ∀ B, ST K B tt dt) (he : ∀ B, SE K B te de) (hs : ∀ i ∈ ix, i ∈ vs) : SE K B (tLc wi g tt te vs) (dLc di dg dt de vs) := fun F H σ γ Q q R hq k => by
  refine hi F H σ γ _ _ R hq fun J F1 H1 γ1 n y R1 e1 jo ⟨hn, I, i0, it, ie⟩ => ?_
  intro L hL
  obtain ⟨f1, f2, f3, f4⟩ := R1.fresh hL
  -- the state between two turns
  refine ⟨fun i m H' => m = n - i ∧ i ≤ n ∧ ∃ F' γ' acc va, Rep K B F' H' (wipe σ vs) γ' ∧ Ex F1 F' ∧ H' L = some (.lst va) ∧ F' L = none ∧ RpAll (B.kz K) F' va acc ∧ acc.length ≤ i ∧ (∀ (j : Nat) p c, γ'[j]? = some (.own p c) → (wipe σ vs)[j]? ≠ some (some (.ref L))) ∧ I i acc γ',
    ⟨n, by omega, by omega, F1, _, [], [], (R1.alloc _ hL).wipe vs, Evl.Ex.refl F1, upd_same, f1, .nil, Nat.le_refl _, fun j p c hg hs => ?_, i0⟩, fun i m H' ⟨hm, hin, F2, γ2, acc, va, R2, e2, hL2, fL2, ra, la, na, i2⟩ => ?_⟩
  · obtain ⟨fa, ok⟩ := ((R1.alloc (.lst []) hL).wipe vs).ownObj hg hs
    have R1w := R1.wipe vs
    obtain ⟨_, ok'⟩ := R1w.ownObj hg hs
    obtain ⟨o, ho, _⟩ := ok'.obj
    rw [hL] at ho; cases ho
  · by_cases hlt : i < n
    · refine .inr ⟨jo.go B F2 H' _ γ2 i R2 e2 hlt, fun H3 => ∃ F' γ' acc va, Rep K B F' H3 (wipe σ vs) γ' ∧ Ex F1 F' ∧ H3 L = some (.lst va) ∧ F' L = none ∧ RpAll (B.kz K) F' va acc ∧ acc.length ≤ i + 1 ∧ (∀ (j : Nat) p c, γ'[j]? = some (.own p c) → (wipe σ vs)[j]? ≠ some (some (.ref L))) ∧ I (i + 1) acc γ',
        fun H3 h => ⟨n - (i + 1), by omega, rfl, by omega, h⟩, fun x H3 hy => ?_⟩
      -- the iterator's turn keeps L: it is taken over a base at this state
      have R2r := R2.re
      have nL : L ∉ ownsOf (wipe σ vs) γ2 H' := fun z => by
        obtain ⟨j, a, p, c, h1, h2, h3⟩ := mem_owns.mp z
        rcases h3 with rfl | ⟨C, fs, h3⟩
        · exact na j p c h2 h1
        · obtain ⟨_, ok⟩ := R2.ownObj h2 h1
          cases c with
          | lst ds => obtain ⟨_, q1, _⟩ := ok; rw [h3] at q1; cases q1
          | dct ds => obtain ⟨_, q1, _⟩ := ok; rw [h3] at q1; cases q1
          | ins C' fs' =>
            obtain ⟨dx, fv, q1, q2, _⟩ := ok
            rw [h3] at q1
            injection q1 with q1
            injection q1 with _ q1 _
            rw [← q1, hL2] at q2; cases q2
      have keepL : ∀ {F' H' σ' γ'}, Rep K (B.re F2 H' (wipe σ vs) γ2) F' H' σ' γ' → True := fun _ => trivial
      obtain ⟨F3, dd, R3, e3, rx, yx⟩ := jo.yl _ F2 H' _ γ2 i x H3 R2r e2 hlt hy rfl
      refine hg _ F3 H3 _ γ2 x dd _ _ R3 rx (it i acc γ2 hlt i2 dd yx) fun σ4 γ4 R4 o4 h4 => ?_
      have w4 : wipe σ4 vs = wipe σ vs := wipe_off o4 hs
      refine ⟨w4, ht _ F3 H3 σ4 γ4 _ _ R4 h4 fun b F5 H5 γ5 R5 e5 h5 => ?_⟩
      have atL : ∀ {F' H'' σ' γ'}, Rep K (B.re F2 H' (wipe σ vs) γ2) F' H'' σ' γ' → H'' L = some (.lst va) ∧ F' L = none ∧ ∀ (j : Nat) p c, γ'[j]? = some (.own p c) → σ'[j]? ≠ some (some (.ref L)) := fun R' => by
        refine ⟨(R'.b1 L _ hL2).1 nL, (R'.b3 L _ hL2 nL).trans fL2, fun j p c h1 h2 => ?_⟩
        rcases R'.b5 j L p c h1 h2 with z | z
        · exact nL z
        · have z' : H' L = none := z
          rw [hL2] at z'; cases z'
      have fin : ∀ {F' H'' γ' acc' va'}, Rep K B F' H'' σ4 γ' → Ex F1 F' → H'' L = some (.lst va') → F' L = none → RpAll (B.kz K) F' va' acc' → acc'.length ≤ i + 1 → (∀ (j : Nat) p c, γ'[j]? = some (.own p c) → σ4[j]? ≠ some (some (.ref L))) → I (i + 1) acc' (wipeG γ' vs) →
          ∃ F' γ' acc va, Rep K B F' H'' (wipe σ vs) γ' ∧ Ex F1 F' ∧ H'' L = some (.lst va) ∧ F' L = none ∧ RpAll (B.kz K) F' va acc ∧ acc.length ≤ i + 1 ∧ (∀ (j : Nat) p c, γ'[j]? = some (.own p c) → (wipe σ vs)[j]? ≠ some (some (.ref L))) ∧ I (i + 1) acc γ' := fun {F' H'' γ' acc' va'} a1 a2 a3 a4 a5 a6 a7 a8 => by
        refine ⟨F', wipeG γ' vs, acc', va', by rw [← w4]; exact a1.wipe vs, a2, a3, a4, a5, a6, fun j p c h1 h2 => ?_, a8⟩
        rw [← w4, wipe_get] at h2
        have h1' : γ'[j]? = some (.own p c) := by
          have go : ∀ vs : List Nat, (wipeG γ' vs)[j]? = some (.own p c) → γ'[j]? = some (.own p c) := fun vs => by
            induction vs with
            | nil => exact fun h => h
            | cons v vs ih =>
              intro h
              unfold wipeG at h
              rcases get_put h with ⟨_, e⟩ | ⟨_, e⟩
              · cases e
              · exact ih e
          exact go vs h1
        split at h2
        · cases h2
        · exact a7 j p c h1' h2
      cases b with
      | true =>
        show te σ4 H5 _
        refine he _ F5 H5 σ4 γ5 _ _ R5 (h5.1 rfl) fun v F6 H6 γ6 s R6 e6 o6 ⟨hk, h7⟩ => ?_
        obtain ⟨F7, R7, e7, o7⟩ := o6.fz R6
        have rv := o7.kp hk
        obtain ⟨g1, g2, g3⟩ := atL R7
        have ex : Ex F2 F7 := ((e3.trans e5).trans e6).trans e7
        refine ⟨va, g1, Nat.lt_of_lt_of_le (show va.length < 1000001 by rw [ra.length]; omega) (by decide), ?_⟩
        have R8 : Rep K B F7 H6 σ4 γ6 := R2.back R7
        exact fin (R8.poke (o' := .lst (va ++ [v])) g1 (fun x z => by cases z) g2 (.inr f2) g3 ⟨_, rfl⟩) (e2.trans ex) upd_same g2 (RpAll.of (P_app (ra.mono ex).p (.cons rv .nil))) (by rw [List.length_append, List.length_singleton]; omega) g3 h7
      | false =>
        obtain ⟨g1, g2, g3⟩ := atL R5
        have ex : Ex F2 F5 := e3.trans e5
        exact fin (R2.back R5) (e2.trans ex) g1 g2 (ra.mono ex) (by omega) g3 (h5.2 rfl)
    · obtain rfl : i = n := by omega
      refine .inl ⟨jo.st B F2 H' _ γ2 i R2 e2 (Nat.le_refl _), ?_⟩
      have R3 : Rep K B F2 H' σ (restore γ1 γ2 vs) := Rep.rest R1 R2 e2 rfl
      refine k _ F2 H' _ (.new (.lst acc)) R3 (e1.trans e2) ⟨L, rfl, fL2, ⟨va, hL2, ra⟩, f3, .inr f2, fun j p c h1 h2 => ?_⟩ (ie acc γ2 i2)
      rcases restore_get h1 with ⟨_, z⟩ | ⟨nj, z⟩
      · unfold keepV at z
        split at z <;> cases z
      · exact na j p c z (by rw [wipe_get, if_neg fun q => nj q.1]; exact h2)
structure XTs (X : Cx) (B : Bs) (ifs : List Expr) (tt : TT) (dt : DT) : Prop where
  pt : PTs X ifs tt
  st : ST X.K B tt dt
def dYes (γ : Env) (q : Bool → Env → Prop) : Prop := q true γ
theorem ts_nil {X : Cx} {B : Bs} : XTs X B [] tYes dYes := ⟨pts_nil, fun F H σ γ Q q R hq k => k true F H γ R (Evl.Ex.refl F) hq⟩
theorem ts_one {X : Cx} {B : Bs} {c : Expr} {tt : TT} {dt : DT} (h : XT X B c tt dt) : XTs X B [c] tt dt := ⟨pts_one h.pt, h.st⟩
section
variable {X : Cx} {B : Bs} {elt tg iter : Expr} {ifs : List Expr} {scope : Scope} {pos : Pos} {wi : TI} {di : DI} {g : TG} {dg : DG} {tt : TT} {dt : DT} {te : TE} {de : DE} {ix : List Nat}
theorem x_lc (own : List (Str × Nat)) (hc : X.calm = true) (hN : X.N.Nodup) (hi : XI X B tg iter wi di) (ok : BlkOk X.N X.env.scope scope own)
    (hg : ∀ (B : Bs) (s : Shared) (H : Hp) (C : Addr) (cl : List (Str × Addr)) (fp : List Addr), XG (X.blk s H scope (compEnvC scope cl C X.env) fp) B tg g dg ix) (ht : ∀ (B : Bs) (s : Shared) (H : Hp) (C : Addr) (cl : List (Str × Addr)) (fp : List Addr), XTs (X.blk s H scope (compEnvC scope cl C X.env) fp) B ifs tt dt)
    (he : ∀ (B : Bs) (s : Shared) (H : Hp) (C : Addr) (cl : List (Str × Addr)) (fp : List Addr), XE (X.blk s H scope (compEnvC scope cl C X.env) fp) B elt te de) (hix : ∀ i ∈ ix, i ∈ own.map (·.2)) (hs : ∀ x, foldedSetIterable iter X.env x = pure x := by intro _; rfl) :
    XE X B (.ListComp elt [⟨tg, iter, ifs, 0⟩] scope pos) (tLc wi g tt te (own.map (·.2))) (dLc di dg dt de (own.map (·.2))) :=
  ⟨pe_lc hc hN hi.pi ok (fun s H C cl fp => (hg B s H C cl fp).pg) (fun s H C cl fp => (ht B s H C cl fp).pt) (fun s H C cl fp => (he B s H C cl fp).pe) hs,
    se_lc hi.si (fun B => (hg B X.s_0 X.H_0 0 [] []).sg) (fun B => (ht B X.s_0 X.H_0 0 [] []).st) (fun B => (he B X.s_0 X.H_0 0 [] []).se) hix⟩
end
end DL

set_option Elab.async false
set_option linter.all false
set_option maxRecDepth 100000
set_option maxHeartbeats 2000000
namespace DL
open PySem PySem.Spec PyProof.Rows L2
open Evl (Ex ex_l ex_t)
section
variable {X : Cx} {B : Bs} {elt tg iter : Expr} {ifs : List Expr} {scope : Scope} {pos spos : Pos} {wi : TI} {di : DI} {g : TG} {dg : DG} {tt : TT} {dt : DT} {te : TE} {de : DE} {ix : List Nat}
/-- name = [..] on one line -/
theorem s_setLc (i : Nat) (own : List (Str × Nat)) {y : Str} {py : Pos} (hc : X.calm = true) (hN : X.N.Nodup) (hi : XI X B tg iter wi di) (ok : BlkOk X.N X.env.scope scope own)
    (hg : ∀ (B : Bs) (s : Shared) (H : Hp) (C : Addr) (cl : List (Str × Addr)) (fp : List Addr), XG (X.blk s H scope (compEnvC scope cl C X.env) fp) B tg g dg ix) (ht : ∀ (B : Bs) (s : Shared) (H : Hp) (C : Addr) (cl : List (Str × Addr)) (fp : List Addr), XTs (X.blk s H scope (compEnvC scope cl C X.env) fp) B ifs tt dt)
    (he : ∀ (B : Bs) (s : Shared) (H : Hp) (C : Addr) (cl : List (Str × Addr)) (fp : List Addr), XE (X.blk s H scope (compEnvC scope cl C X.env) fp) B elt te de) (hix : ∀ i ∈ ix, i ∈ own.map (·.2)) (hsw : swapsWith (.ListComp elt [⟨tg, iter, ifs, 0⟩] scope pos) (some (.Name y py)) spos.line X.env = pure true)
    (hy : X.N[i]? = some y := by rfl) (hyl : X.env.scope.names.lookup y = some .local := by rfl) (hs : ∀ x, foldedSetIterable iter X.env x = pure x := by intro _; rfl) :
    XS X B (.Assign [.Name y py] (.ListComp elt [⟨tg, iter, ifs, 0⟩] scope pos) spos) (tAsg (tLc wi g tt te (own.map (·.2))) (gName i)) (dAsg i (dLc di dg dt de (own.map (·.2)))) :=
  ⟨ps_setLc hc hN hy hyl hsw hi.pi ok (fun s H C cl fp => (hg B s H C cl fp).pg) (fun s H C cl fp => (ht B s H C cl fp).pt) (fun s H C cl fp => (he B s H C cl fp).pe) hs,
    sa_name (se_lc hi.si (fun B => (hg B X.s_0 X.H_0 0 [] []).sg) (fun B => (ht B X.s_0 X.H_0 0 [] []).st) (fun B => (he B X.s_0 X.H_0 0 [] []).se) hix)⟩
end

/-! ### promises in data -/
abbrev FS := List Sx → (RS → List Sx → Prop) → Prop
abbrev ZN (H : Hp) := {z : Addr → Prop // ∀ a, z a → ∃ o, H a = some o}
theorem Rep.znp {K : PySem.W.Frag} {B : Bs} {F H : Hp} {σ : L2.St} {γ : Env} (R : Rep K B F H σ γ) : ∀ a, B.z a → ∃ o, H a = some o := fun a h => let ⟨o, e⟩ := B.zn a h; R.bN a o e
abbrev Rep.zn {K : PySem.W.Frag} {B : Bs} {F H : Hp} {σ : L2.St} {γ : Env} (R : Rep K B F H σ γ) : ZN H := ⟨B.z, R.znp⟩
def entry (F H : Hp) (m : List Addr) (z : ZN H) (vs : List V) : Bs := ⟨H, fun k => match (vs[k]? : Option V) with | some (.ref a) => some a | _ => none, F, H, m, z.1, z.2⟩
def spOf (K : PySem.W.Frag) (n : Nat) (fs : FS) : Sp := fun vs H Q _ => vs.length = n ∧ ∃ F m, ∃ z : ZN H, ∃ as p, Rep K (entry F H m z vs) F H (vs.map some) as ∧ fs as p ∧
  ∀ r as' v F' H', p r as' → Rep K (entry F H m z vs) F' H' (vs.map some) as' → RsOk K (entry F H m z vs) F' H' (vs.map some) as' v r → r.kept → Q v H'
/-- what the parameters' things are at the end -/
def Outs : List Sx → Env → List Sx → Prop
  | [], _, zs => zs = []
  | .own p _ :: as, s :: γ, zs => ∃ c' r, s = .own p c' ∧ zs = .own p c' :: r ∧ Outs as γ r
  | t :: as, _ :: γ, zs => ∃ r, zs = t :: r ∧ Outs as γ r
  | _ :: _, [], _ => False
/-- the same, with what follows -/
def OutP : List Sx → Env → (List Sx → Prop) → Prop
  | [], _, k => k []
  | .own p _ :: as, .own p' c' :: γ, k => p' = p ∧ OutP as γ fun r => k (.own p c' :: r)
  | .val d :: as, _ :: γ, k => OutP as γ fun r => k (.val d :: r)
  | .no :: as, _ :: γ, k => OutP as γ fun r => k (.no :: r)
  | _, _, _ => False
theorem outP : ∀ {as : List Sx} {γ : Env} {k : List Sx → Prop}, OutP as γ k → ∃ as', Outs as γ as' ∧ k as'
  | [], _, _, h => ⟨[], rfl, h⟩
  | .own p _ :: as, .own p' c' :: γ, k, h => by
    obtain ⟨rfl, h⟩ := h
    obtain ⟨r, h1, h2⟩ := outP h
    exact ⟨_, ⟨c', r, rfl, rfl, h1⟩, h2⟩
  | .val d :: as, s :: γ, k, h => by
    obtain ⟨r, h1, h2⟩ := outP (as := as) (γ := γ) (k := fun r => k (.val d :: r)) (by unfold OutP at h; exact h)
    exact ⟨_, ⟨r, rfl, h1⟩, h2⟩
  | .no :: as, s :: γ, k, h => by
    obtain ⟨r, h1, h2⟩ := outP (as := as) (γ := γ) (k := fun r => k (.no :: r)) (by unfold OutP at h; exact h)
    exact ⟨_, ⟨r, rfl, h1⟩, h2⟩
def startG (n : Nat) (as : List Sx) : Env := as ++ List.replicate (n - as.length) .no
def endsOf (as : List Sx) (p : RS → List Sx → Prop) : DEnds := { nx := fun γ => OutP as γ fun zs => p (.val .non) zs, rt := fun r γ => r.kept ∧ OutP as γ fun zs => p r zs }
theorem endsOf_nx {as : List Sx} {p : RS → List Sx → Prop} {γ : Env} : (endsOf as p).nx γ = OutP as γ fun zs => p (.val .non) zs := rfl
theorem endsOf_rt {as : List Sx} {p : RS → List Sx → Prop} {r : RS} {γ : Env} : (endsOf as p).rt r γ = (r.kept ∧ OutP as γ fun zs => p r zs) := rfl
theorem endsOf_bk {as : List Sx} {p : RS → List Sx → Prop} {γ : Env} : (endsOf as p).bk γ = False := rfl
theorem outs_get : ∀ {as : List Sx} {γ : Env} {zs : List Sx}, Outs as γ zs → zs.length = as.length ∧ ∀ (i : Nat) z, zs[i]? = some z → (∃ p c c', as[i]? = some (.own p c) ∧ γ[i]? = some (.own p c') ∧ z = .own p c') ∨ (as[i]? = some z ∧ ∀ p c, z ≠ .own p c)
  | [], γ, zs, h => by
    have h' : zs = [] := h
    subst h'
    exact ⟨rfl, fun i z e => by simp at e⟩
  | .own p c :: as, s :: γ, zs, h => by
    obtain ⟨c', r, rfl, rfl, h⟩ := h
    obtain ⟨l, g⟩ := outs_get h
    refine ⟨by rw [List.length_cons, List.length_cons, l], fun i z e => ?_⟩
    cases i with
    | zero => simp at e; subst e; exact .inl ⟨p, c, c', rfl, rfl, rfl⟩
    | succ i => simpa using g i z (by simpa using e)
  | .val d :: as, s :: γ, zs, h => by
    obtain ⟨r, rfl, h⟩ := h
    obtain ⟨l, g⟩ := outs_get h
    refine ⟨by rw [List.length_cons, List.length_cons, l], fun i z e => ?_⟩
    cases i with
    | zero => simp at e; subst e; exact .inr ⟨rfl, fun p c z => by cases z⟩
    | succ i => simpa using g i z (by simpa using e)
  | .no :: as, s :: γ, zs, h => by
    obtain ⟨r, rfl, h⟩ := h
    obtain ⟨l, g⟩ := outs_get h
    refine ⟨by rw [List.length_cons, List.length_cons, l], fun i z e => ?_⟩
    cases i with
    | zero => simp at e; subst e; exact .inr ⟨rfl, fun p c z => by cases z⟩
    | succ i => simpa using g i z (by simpa using e)
section
variable {K : PySem.W.Frag} {B : Bs} {F F' H H' : Hp} {m : List Addr} {z : ZN H} {vs : List V} {as zs : List Sx} {σ' : L2.St} {γ' : Env}
theorem start_get {N : List Str} {i : Nat} {s : Option V} {t : Sx} {n : Nat} (h1 : (start N vs)[i]? = some s) (h2 : (startG n as)[i]? = some t) (hl : vs.length = as.length) : ((vs.map some)[i]? = some s ∧ as[i]? = some t) ∨ t = .no := by
  unfold L2.start at h1
  unfold startG at h2
  by_cases hi : i < as.length
  · rw [List.getElem?_append_left (by rw [List.length_map]; omega)] at h1
    rw [List.getElem?_append_left hi] at h2
    exact .inl ⟨h1, h2⟩
  · rw [List.getElem?_append_right (by omega)] at h2
    exact .inr (List.eq_of_mem_replicate (List.mem_of_getElem? h2))
/-- at a def's start -/
theorem Rep.start {B : Bs} {N : List Str} (R : Rep K B F H (vs.map some) as) (hN : vs.length ≤ N.length) : Rep K B F H (start N vs) (startG N.length as) := by
  have hl : vs.length = as.length := by have := R.len; rw [List.length_map] at this; exact this
  have key : ∀ {i : Nat} {p : Option Nat} {c : OC} {s : Option V}, (startG N.length as)[i]? = some (.own p c) → (L2.start N vs)[i]? = some s → as[i]? = some (.own p c) ∧ (vs.map some)[i]? = some s := fun h1 h2 => by
    rcases start_get h2 h1 hl with ⟨a, b⟩ | z
    · exact ⟨b, a⟩
    · cases z
  refine ⟨R.fh, ?_, fun i s t hs hg => ?_, fun i j a p c q c' h1 h2 h3 h4 => R.nd i j a p c q c' (key h1 h3).1 (key h2 h4).1 (key h1 h3).2 (key h2 h4).2, R.b1, R.b2, R.b3, fun j a p c h1 h2 => R.b4 j a p c (key h1 h2).1 (key h1 h2).2, fun j a p c h1 h2 => R.b5 j a p c (key h1 h2).1 (key h1 h2).2, R.bN, R.bd⟩
  · unfold L2.start startG
    rw [List.length_append, List.length_append, List.length_map, List.length_replicate, List.length_replicate, hl]
  · rcases start_get hs hg hl with ⟨a, b⟩ | z
    · exact R.sl i s t a b
    · subst z; trivial
/-- at its end -/
theorem Rep.outs (R0 : Rep K (entry F H m z vs) F H (vs.map some) as) (R : Rep K (entry F H m z vs) F' H' σ' γ') (h : Outs as γ' zs) : Rep K (entry F H m z vs) F' H' (vs.map some) zs := by
  obtain ⟨hl, hz⟩ := outs_get h
  have own : ∀ {i : Nat} {p : Option Nat} {c : OC} {a : Addr}, zs[i]? = some (.own p c) → (vs.map some)[i]? = some (some (.ref a)) → ∃ c0, as[i]? = some (.own p c0) ∧ γ'[i]? = some (.own p c) ∧ σ'[i]? = some (some (.ref a)) := fun {i p c a} h1 h2 => by
    rcases hz i _ h1 with ⟨p', c0, c', e1, e2, e3⟩ | ⟨_, n⟩
    · injection e3 with e3 e4
      subst e3; subst e4
      obtain ⟨b, e5, _⟩ : ∃ b, σ'[i]? = some (some (.ref b)) ∧ True := by
        obtain ⟨l1, _⟩ := List.getElem?_eq_some_iff.mp e2
        have l2 : i < σ'.length := by rw [R.len]; exact l1
        obtain ⟨b, e, _⟩ := R.sl i _ _ (List.getElem?_eq_getElem l2) e2
        exact ⟨b, by rw [List.getElem?_eq_getElem l2, e], trivial⟩
      obtain ⟨q1, q2⟩ := R.b4 i b p c e2 e5
      obtain ⟨q3, q4⟩ := R0.b4 i a p c0 e1 h2
      refine ⟨c0, e1, e2, ?_⟩
      cases p with
      | none =>
        obtain ⟨_, ok⟩ := R0.ownObj e1 h2
        obtain ⟨o, ho, _⟩ := ok.obj
        have z : H a = none := q4 rfl
        rw [z] at ho; cases ho
      | some k =>
        have z1 := q1 k rfl
        have z2 := q3 k rfl
        rw [z2] at z1
        cases z1
        exact e5
    · exact absurd rfl (n p c)
  refine ⟨R.fh, by rw [hl]; exact R0.len, fun i s t hs hg => ?_, fun i j a p c q c' h1 h2 h3 h4 => ?_, R.b1, R.b2, R.b3, fun i a p c h1 h2 => ?_, fun i a p c h1 h2 => ?_, R.bN, R.bd⟩
  · cases t with
    | no => trivial
    | val d =>
      rcases hz i _ hg with ⟨_, _, _, _, _, z⟩ | ⟨e, _⟩
      · cases z
      · obtain ⟨v, e1, r⟩ := R0.sl i s _ hs e
        exact ⟨v, e1, r.mono R.b2⟩
    | own p c =>
      obtain ⟨v, hv, e0⟩ : ∃ v, vs[i]? = some v ∧ s = some v := by
        rw [List.getElem?_map] at hs
        cases q : vs[i]? with
        | none => rw [q] at hs; cases hs
        | some v => rw [q] at hs; exact ⟨v, rfl, (Option.some.inj hs).symm⟩
      subst e0
      rcases hz i _ hg with ⟨p', c0, c', e1, e2, e3⟩ | ⟨_, n⟩
      · injection e3 with e3 e4
        subst e3; subst e4
        obtain ⟨a, ea, _⟩ := R0.sl i _ _ hs e1
        cases ea
        obtain ⟨_, _, q2, q3⟩ := own hg hs
        obtain ⟨a', ea', f, ok⟩ := R.sl i _ _ q3 q2
        cases ea'
        exact ⟨a, rfl, f, ok⟩
      · exact absurd rfl (n p c)
  · obtain ⟨_, q1, q2, q3⟩ := own h1 h3
    obtain ⟨_, q4, q5, q6⟩ := own h2 h4
    exact R0.nd i j a p _ q _ q1 q4 h3 h4
  · obtain ⟨_, q1, q2, q3⟩ := own h1 h2
    exact R.b4 i a p c q2 q3
  · obtain ⟨_, q1, q2, q3⟩ := own h1 h2
    exact R.b5 i a p c q2 q3
end
section
variable {P : Program} {w : World} {K : PySem.W.Frag} {B : Bs} {mg : Str → Option Value} {base : Heap}
/-- THE RULE for a def: its body as a term of rules, and what it does on data -/
theorem fn_ok {x qual : Str} {st : Stmt} {f : Addr} {fd : FuncData} {N ps : List Str} {k n : Nat} {fs : FS} {ds : DS} (F : Fun K x qual st f fd) (S : FnScope N ps (defScope st)) (hn : ps.length = n) (hN : n ≤ N.length)
    (body : ∀ (B : Bs) (cdv : Value) (A : Around) (outer : List PySem.Env) (s : Shared) (H : Hp) (E : XK), Room k (A.deeper (envOfC qual (defScope st) s.heap.objs.size f cdv)) → ∃ ts, XSs (cxOf CX0 P w K mg base N qual (defScope st) f cdv A outer s H E).nox B (defBody st) ts ds)
    (h : ∀ as p, as.length = n → fs as p → ds (endsOf as p) (startG N.length as)) : FnOk P w K mg base CX0 (k + 1) f fd ps (spOf K n fs) := by
  refine F.ok S (fun vs H Q E h => h.1.trans hn.symm) fun cdv A outer s H vs Q E hr hsp => ?_
  obtain ⟨hl, F0, m, z, as, p, R0, hf, hq⟩ := hsp
  obtain ⟨ts, b⟩ := body (entry F0 H m z vs) cdv A outer s H E hr
  refine ⟨ts, b.ps, ?_⟩
  have ha : as.length = n := by have := R0.len; rw [List.length_map] at this; omega
  refine b.ss F0 H _ _ _ (endsOf as p) (R0.start (by rw [hl]; exact hN)) (h as p ha hf) ⟨fun F' H' σ' γ' R' _ h1 => ?_, fun F' H' σ' γ' v r R' _ o ⟨hk, h1⟩ => ?_, fun _ _ _ _ _ _ z => z, fun _ _ _ _ _ _ z => z⟩
  · obtain ⟨zs, ho, hp⟩ := outP h1
    exact hq (.val .non) zs .non F' H' hp (R0.outs R' ho) .non trivial
  · obtain ⟨zs, ho, hp⟩ := outP h1
    have R2 := R0.outs R' ho
    refine hq r zs v F' H' hp R2 ?_ hk
    cases r with
    | val d => exact o
    | own j c => exact hk.elim
    | new c =>
      obtain ⟨a, rfl, N⟩ := o
      refine ⟨a, rfl, N.fa, N.ok, N.bn, N.bm, fun i p' c' h1 h2 => ?_⟩
      obtain ⟨_, ok⟩ := R2.ownObj h1 h2
      have e1 : H a = none := N.bn
      obtain ⟨_, h3⟩ := outs_get ho
      rcases h3 i _ h1 with ⟨p2, c0, c2, e2, _, _⟩ | ⟨_, n2⟩
      · obtain ⟨_, ok2⟩ := R0.ownObj e2 h2
        obtain ⟨o, ho, _⟩ := ok2.obj
        rw [e1] at ho; cases ho
      · exact n2 p' c' rfl
end

/-! ### calls -/
def noNew : List RS → Prop
  | [] => True
  | .new _ :: _ => False
  | _ :: r => noNew r
def ownIx : List RS → List Nat
  | [] => []
  | .own j _ :: r => j :: ownIx r
  | _ :: r => ownIx r
def argsOf : Nat → List RS → List Sx
  | _, [] => []
  | k, .val d :: r => .val d :: argsOf (k + 1) r
  | k, .own _ c :: r => .own (some k) c :: argsOf (k + 1) r
  | k, .new _ :: r => .no :: argsOf (k + 1) r
def putC (γ : Env) (j : Nat) (t : Sx) : Env := match look γ j, t with
  | .own p _, .own _ c => put γ j (.own p c)
  | _, _ => put γ j .no
def upds : Env → List RS → List Sx → Env
  | γ, .own j _ :: r, t :: as => upds (putC γ j t) r as
  | γ, .own j _ :: r, [] => upds (put γ j .no) r []
  | γ, _ :: r, _ :: as => upds γ r as
  | γ, _ :: r, [] => upds γ r []
  | γ, [], _ => γ
theorem putC_len {γ : Env} {j : Nat} {t : Sx} : (putC γ j t).length = γ.length := by
  unfold putC
  split <;> rw [put_len]
theorem put_ne {γ : Env} {i j : Nat} {t : Sx} (h : i ≠ j) : (put γ j t)[i]? = γ[i]? := by rw [put_set, List.getElem?_set_ne (Ne.symm h)]
theorem putC_ne {γ : Env} {i j : Nat} {t : Sx} (h : i ≠ j) : (putC γ j t)[i]? = γ[i]? := by
  unfold putC
  split <;> rw [put_ne h]
theorem upds_len : ∀ {rs : List RS} {as : List Sx} {γ : Env}, (upds γ rs as).length = γ.length
  | [], _, _ => rfl
  | .own j _ :: r, t :: as, γ => by unfold upds; rw [upds_len, putC_len]
  | .own j _ :: r, [], γ => by unfold upds; rw [upds_len, put_len]
  | .val d :: r, _ :: as, γ => by unfold upds; exact upds_len
  | .val d :: r, [], γ => by unfold upds; exact upds_len
  | .new d :: r, _ :: as, γ => by unfold upds; exact upds_len
  | .new d :: r, [], γ => by unfold upds; exact upds_len
theorem upds_off : ∀ {rs : List RS} {as : List Sx} {γ : Env} {i : Nat}, i ∉ ownIx rs → (upds γ rs as)[i]? = γ[i]?
  | [], _, _, _, _ => rfl
  | .own j _ :: r, t :: as, γ, i, h => by
    unfold upds
    rw [upds_off (fun z => h (List.mem_cons_of_mem _ z)), putC_ne fun z => h (by rw [z]; exact List.mem_cons_self)]
  | .own j _ :: r, [], γ, i, h => by
    unfold upds
    rw [upds_off (fun z => h (List.mem_cons_of_mem _ z)), put_ne fun z => h (by rw [z]; exact List.mem_cons_self)]
  | .val d :: r, _ :: as, γ, i, h => by unfold upds; exact upds_off h
  | .val d :: r, [], γ, i, h => by unfold upds; exact upds_off h
  | .new d :: r, _ :: as, γ, i, h => by unfold upds; exact upds_off h
  | .new d :: r, [], γ, i, h => by unfold upds; exact upds_off h
theorem mem_ownIx : ∀ {rs : List RS} {k : Nat} {j : Nat} {c : OC}, rs[k]? = some (.own j c) → j ∈ ownIx rs
  | [], _, _, _, h => by simp at h
  | .own j' _ :: r, 0, j, c, h => by simp at h; rw [h.1]; exact List.mem_cons_self
  | .own j' _ :: r, k + 1, j, c, h => List.mem_cons_of_mem _ (mem_ownIx (k := k) (by simpa using h))
  | .val d :: r, 0, j, c, h => by simp at h
  | .val d :: r, k + 1, j, c, h => by
    show j ∈ ownIx r
    exact mem_ownIx (k := k) (by simpa using h)
  | .new d :: r, 0, j, c, h => by simp at h
  | .new d :: r, k + 1, j, c, h => by
    show j ∈ ownIx r
    exact mem_ownIx (k := k) (by simpa using h)
theorem ownIx_mem : ∀ {rs : List RS} {j : Nat}, j ∈ ownIx rs → ∃ (k : Nat) (c : OC), rs[k]? = some (RS.own j c)
  | [], _, h => by cases h
  | .own j' c :: r, j, h => by
    rcases List.mem_cons.mp h with e | h
    · exact ⟨0, c, by rw [e]; rfl⟩
    · obtain ⟨k, c', e⟩ := ownIx_mem h
      exact ⟨k + 1, c', by simpa using e⟩
  | .val d :: r, j, h => by
    obtain ⟨k, c', e⟩ := ownIx_mem (rs := r) h
    exact ⟨k + 1, c', by simpa using e⟩
  | .new d :: r, j, h => by
    obtain ⟨k, c', e⟩ := ownIx_mem (rs := r) h
    exact ⟨k + 1, c', by simpa using e⟩
theorem upds_at : ∀ {rs : List RS} {as : List Sx} {γ : Env} {k j : Nat} {c0 c1 : OC} {p : Option Nat}, (ownIx rs).Nodup → rs[k]? = some (.own j c0) → γ[j]? = some (.own p c1) →
    (upds γ rs as)[j]? = some .no ∨ ∃ p' c, as[k]? = some (.own p' c) ∧ (upds γ rs as)[j]? = some (.own p c)
  | [], _, _, _, _, _, _, _, _, h, _ => by simp at h
  | .own j' c' :: r, t :: as, γ, 0, j, c0, c1, p, nd, h, hg => by
    obtain ⟨rfl, rfl⟩ : j' = j ∧ c' = c0 := by simpa using h
    have nj : j' ∉ ownIx r := (List.nodup_cons.mp nd).1
    have lt : j' < γ.length := (List.getElem?_eq_some_iff.mp hg).1
    unfold upds
    rw [upds_off nj]
    unfold putC
    rw [look_of hg]
    cases t with
    | own p' c => exact .inr ⟨p', c, rfl, (show (put γ j' (.own p c))[j']? = some (.own p c) by rw [put_set]; exact List.getElem?_set_self lt)⟩
    | no => exact .inl (show (put γ j' .no)[j']? = some .no by rw [put_set]; exact List.getElem?_set_self lt)
    | val d => exact .inl (show (put γ j' .no)[j']? = some .no by rw [put_set]; exact List.getElem?_set_self lt)
  | .own j' c' :: r, [], γ, 0, j, c0, c1, p, nd, h, hg => by
    obtain ⟨rfl, rfl⟩ : j' = j ∧ c' = c0 := by simpa using h
    have nj : j' ∉ ownIx r := (List.nodup_cons.mp nd).1
    have lt : j' < γ.length := (List.getElem?_eq_some_iff.mp hg).1
    unfold upds
    rw [upds_off nj]
    exact .inl (by rw [put_set]; exact List.getElem?_set_self lt)
  | .own j' c' :: r, t :: as, γ, k + 1, j, c0, c1, p, nd, h, hg => by
    have hr : r[k]? = some (.own j c0) := by simpa using h
    have ne : j ≠ j' := fun e => (List.nodup_cons.mp nd).1 (by rw [← e]; exact mem_ownIx hr)
    unfold upds
    simpa using upds_at (List.nodup_cons.mp nd).2 hr (by rw [putC_ne ne]; exact hg)
  | .own j' c' :: r, [], γ, k + 1, j, c0, c1, p, nd, h, hg => by
    have hr : r[k]? = some (.own j c0) := by simpa using h
    have ne : j ≠ j' := fun e => (List.nodup_cons.mp nd).1 (by rw [← e]; exact mem_ownIx hr)
    unfold upds
    simpa using upds_at (as := []) (List.nodup_cons.mp nd).2 hr (by rw [put_ne ne]; exact hg)
  | .val d :: r, _, _, 0, _, _, _, _, _, h, _ => by simp at h
  | .new d :: r, _, _, 0, _, _, _, _, _, h, _ => by simp at h
  | .val d :: r, t :: as, γ, k + 1, j, c0, c1, p, nd, h, hg => by
    have hr : r[k]? = some (.own j c0) := by simpa using h
    unfold upds; simpa using upds_at (rs := r) (as := as) (k := k) (show (ownIx r).Nodup from nd) hr hg
  | .val d :: r, [], γ, k + 1, j, c0, c1, p, nd, h, hg => by
    have hr : r[k]? = some (.own j c0) := by simpa using h
    unfold upds; simpa using upds_at (rs := r) (as := []) (k := k) (show (ownIx r).Nodup from nd) hr hg
  | .new d :: r, t :: as, γ, k + 1, j, c0, c1, p, nd, h, hg => by
    have hr : r[k]? = some (.own j c0) := by simpa using h
    unfold upds; simpa using upds_at (rs := r) (as := as) (k := k) (show (ownIx r).Nodup from nd) hr hg
  | .new d :: r, [], γ, k + 1, j, c0, c1, p, nd, h, hg => by
    have hr : r[k]? = some (.own j c0) := by simpa using h
    unfold upds; simpa using upds_at (rs := r) (as := []) (k := k) (show (ownIx r).Nodup from nd) hr hg
theorem args_get : ∀ {rs : List RS} {b i : Nat} {t : Sx}, (argsOf b rs)[i]? = some t → (∃ d, rs[i]? = some (.val d) ∧ t = .val d) ∨ (∃ j c, rs[i]? = some (.own j c) ∧ t = .own (some (b + i)) c) ∨ t = .no
  | [], _, _, _, h => by simp [argsOf] at h
  | .val d :: r, b, 0, t, h => by simp [argsOf] at h; exact .inl ⟨d, rfl, h.symm⟩
  | .own j c :: r, b, 0, t, h => by simp [argsOf] at h; exact .inr (.inl ⟨j, c, rfl, h.symm⟩)
  | .new c :: r, b, 0, t, h => by simp [argsOf] at h; exact .inr (.inr h.symm)
  | .val d :: r, b, i + 1, t, h => by
    have := args_get (rs := r) (b := b + 1) (i := i) (t := t) (by simpa [argsOf] using h)
    rw [show b + 1 + i = b + (i + 1) by omega] at this
    simpa using this
  | .own j c :: r, b, i + 1, t, h => by
    have := args_get (rs := r) (b := b + 1) (i := i) (t := t) (by simpa [argsOf] using h)
    rw [show b + 1 + i = b + (i + 1) by omega] at this
    simpa using this
  | .new c :: r, b, i + 1, t, h => by
    have := args_get (rs := r) (b := b + 1) (i := i) (t := t) (by simpa [argsOf] using h)
    rw [show b + 1 + i = b + (i + 1) by omega] at this
    simpa using this
theorem args_len : ∀ {rs : List RS} {b : Nat}, (argsOf b rs).length = rs.length
  | [], _ => rfl
  | .val d :: r, b => by simp [argsOf, args_len]
  | .own j c :: r, b => by simp [argsOf, args_len]
  | .new c :: r, b => by simp [argsOf, args_len]
end DL

set_option Elab.async false
set_option linter.all false
set_option maxRecDepth 100000
set_option maxHeartbeats 2000000
namespace DL
open PySem PySem.Spec PyProof.Rows L2
open Evl (Ex ex_l ex_t)
section
variable {K : PySem.W.Frag} {B : Bs} {F F' H H' : Hp} {σ : L2.St} {γ : Env}
/-- a callee's arguments, as its parameters find them -/
theorem Rep.args (R : Rep K B F H σ γ) {vs dvs : List V} {rs : List RS} {dds : List D} (o : Paired (RsOk K B F H σ γ) vs rs) (od : Paired (fun v d => ∀ z F, Rp ⟨K, z⟩ F v d) dvs dds) (nd : (ownIx rs).Nodup) :
    ∃ m, (∀ b, b ∈ m → ∃ (i : Nat) (j : Nat) (c : OC) (a : Addr), rs[i]? = some (.own j c) ∧ σ[j]? = some (some (.ref a)) ∧ (b = a ∨ ∃ C fs, H a = some (.ins C b fs))) ∧
      Rep K (entry F H m R.zn (vs ++ dvs)) F H ((vs ++ dvs).map some) (argsOf 0 rs ++ dds.map Sx.val) := by
  have hlen : ((vs ++ dvs).map some).length = (argsOf 0 rs ++ dds.map Sx.val).length := by
    rw [List.length_map, List.length_append, List.length_append, args_len, List.length_map, P_len o, P_len od]
  -- an owned argument
  have own : ∀ {i : Nat} {p : Option Nat} {c : OC} {a : Addr}, (argsOf 0 rs ++ dds.map Sx.val)[i]? = some (.own p c) → ((vs ++ dvs).map some)[i]? = some (some (.ref a)) → ∃ j, rs[i]? = some (.own j c) ∧ p = some i ∧ σ[j]? = some (some (.ref a)) ∧ (∃ q, γ[j]? = some (.own q c)) ∧ (vs ++ dvs)[i]? = some (.ref a) := fun {i p c a} h1 h2 => by
    by_cases hi : i < (argsOf 0 rs).length
    · rw [List.getElem?_append_left hi] at h1
      rcases args_get h1 with ⟨d, _, z⟩ | ⟨j, c', e, z⟩ | z
      · cases z
      · injection z with z1 z2
        subst z2
        rw [Nat.zero_add] at z1
        obtain ⟨v, hv, q1, q2⟩ := P_get o e
        have h3 : (vs ++ dvs)[i]? = some v := by rw [List.getElem?_append_left (List.getElem?_eq_some_iff.mp hv).1]; exact hv
        rw [List.getElem?_map, h3] at h2
        have e2 : v = .ref a := by simpa using h2
        subst e2
        exact ⟨j, e, z1, q1, q2, h3⟩
      · cases z
    · rw [List.getElem?_append_right (by omega), List.getElem?_map] at h1
      cases q : dds[i - (argsOf 0 rs).length]? with
      | none => rw [q] at h1; cases h1
      | some d => rw [q] at h1; cases h1
  refine ⟨ownsOf ((vs ++ dvs).map some) (argsOf 0 rs ++ dds.map Sx.val) H, fun b hb => ?_, R.fh, hlen, fun i s t hs hg => ?_, fun i j a p c q c' h1 h2 h3 h4 => ?_, fun b o e => ⟨fun _ => e, o, e⟩, Evl.Ex.refl F, fun b o _ _ => rfl, fun i a p c h1 h2 => ?_, fun i a p c h1 h2 => ?_, fun b o e => ⟨o, e⟩, fun a o e => ⟨o, e, .refl o⟩⟩
  · obtain ⟨i, a, p, c, h1, h2, h3⟩ := mem_owns.mp hb
    obtain ⟨j, e1, _, e3, _, _⟩ := own h2 h1
    exact ⟨i, j, c, a, e1, e3, h3⟩
  · cases t with
    | no => trivial
    | val d =>
      rw [List.getElem?_map] at hs
      by_cases hi : i < (argsOf 0 rs).length
      · rw [List.getElem?_append_left hi] at hg
        rcases args_get hg with ⟨d', e, z⟩ | ⟨j, c', e, z⟩ | z
        · cases z
          obtain ⟨v, hv, q1⟩ := P_get o e
          rw [List.getElem?_append_left (List.getElem?_eq_some_iff.mp hv).1, hv] at hs
          exact ⟨v, (Option.some.inj hs).symm, q1⟩
        · cases z
        · cases z
      · rw [List.getElem?_append_right (by omega), List.getElem?_map] at hg
        cases q : dds[i - (argsOf 0 rs).length]? with
        | none => rw [q] at hg; cases hg
        | some d' =>
          rw [q] at hg
          cases hg
          obtain ⟨v, hv, q1⟩ := P_get od q
          have e1 : i - (argsOf 0 rs).length = i - vs.length := by rw [args_len, P_len o]
          rw [List.getElem?_append_right (by rw [P_len o, ← args_len (rs := rs) (b := 0)]; omega), ← e1, hv] at hs
          exact ⟨v, (Option.some.inj hs).symm, q1 _ F⟩
    | own p c =>
      obtain ⟨v, e0⟩ : ∃ v, s = some v := by
        rw [List.getElem?_map] at hs
        cases q : (vs ++ dvs)[i]? with
        | none => rw [q] at hs; cases hs
        | some v => rw [q] at hs; exact ⟨v, (Option.some.inj hs).symm⟩
      subst e0
      by_cases hi : i < (argsOf 0 rs).length
      · have hg' := hg
        rw [List.getElem?_append_left hi] at hg
        rcases args_get hg with ⟨d, _, z⟩ | ⟨j, c', e, z⟩ | z
        · cases z
        · injection z with z1 z2
          subst z2
          obtain ⟨v', hv, q1, q, q2⟩ := P_get o e
          obtain ⟨a, e5, f, ok⟩ := R.sl j _ _ q1 q2
          cases e5
          rw [List.getElem?_map, List.getElem?_append_left (List.getElem?_eq_some_iff.mp hv).1, hv] at hs
          have e6 : v = .ref a := by simpa using hs.symm
          subst e6
          refine ⟨a, rfl, f, ?_⟩
          cases c with
          | lst ds => exact ok
          | dct kd => exact ok
          | ins C fs =>
            obtain ⟨dx, fv, h1, h2, h3, h4, h5, h6⟩ := ok
            refine ⟨dx, fv, h1, h2, h3, fun z => ?_, .inl (mem_owns.mpr ⟨i, a, p, _, ?_, hg', .inr ⟨_, fv, h1⟩⟩), h6⟩
            · have z' : H a = none := z
              rw [h1] at z'; cases z'
            · rw [List.getElem?_map, List.getElem?_append_left (List.getElem?_eq_some_iff.mp hv).1, hv]; rfl
        · cases z
      · rw [List.getElem?_append_right (by omega), List.getElem?_map] at hg
        cases q : dds[i - (argsOf 0 rs).length]? with
        | none => rw [q] at hg; cases hg
        | some d => rw [q] at hg; cases hg
  · obtain ⟨j1, e1, _, e2, ⟨q1, e3⟩, _⟩ := own h1 h3
    obtain ⟨j2, e4, _, e5, ⟨q2, e6⟩, _⟩ := own h2 h4
    have ej := R.nd j1 j2 a q1 c q2 c' e3 e6 e2 e5
    subst ej
    -- one index of rs for each slot
    have go : ∀ (rs : List RS) (i j : Nat) c c', (ownIx rs).Nodup → rs[i]? = some (.own j1 c) → rs[j]? = some (.own j1 c') → i = j := fun rs => by
      induction rs with
      | nil => intro i j c c' _ h; simp at h
      | cons r rs ih =>
        intro i j c c' hn h1 h2
        cases i with
        | zero =>
          cases j with
          | zero => rfl
          | succ j =>
            have e : r = .own j1 c := by simpa using h1
            subst e
            exact absurd (mem_ownIx (rs := rs) (k := j) (by simpa using h2)) (List.nodup_cons.mp hn).1
        | succ i =>
          cases j with
          | zero =>
            have e : r = .own j1 c' := by simpa using h2
            subst e
            exact absurd (mem_ownIx (rs := rs) (k := i) (by simpa using h1)) (List.nodup_cons.mp hn).1
          | succ j =>
            have hn' : (ownIx rs).Nodup := by
              cases r with
              | own j c => exact (List.nodup_cons.mp hn).2
              | val d => exact hn
              | new d => exact hn
            rw [ih i j c c' hn' (by simpa using h1) (by simpa using h2)]
    exact go rs i j c c' nd e1 e4
  · obtain ⟨j1, e1, e0, e2, _, e3⟩ := own h1 h2
    refine ⟨fun k z => ?_, fun z => ?_⟩
    · rw [e0] at z
      cases z
      show (match ((vs ++ dvs)[i]? : Option V) with | some (.ref a) => some a | _ => none) = some a
      rw [e3]
    · rw [e0] at z; cases z
  · exact .inl (mem_owns.mpr ⟨i, a, p, c, h2, h1, .inl rfl⟩)
/-- behind a call -/
theorem Rep.called (R : Rep K B F H σ γ) {vs : List V} {ws : List V} {rs : List RS} {as' : List Sx} {m : List Addr} (o : Paired (RsOk K B F H σ γ) vs rs) (nd : (ownIx rs).Nodup)
    (hw : ∀ (i : Nat) v, vs[i]? = some v → ws[i]? = some v)
    (hm : ∀ b, b ∈ m → ∃ (i : Nat) (j : Nat) (c : OC) (a : Addr), rs[i]? = some (.own j c) ∧ σ[j]? = some (some (.ref a)) ∧ (b = a ∨ ∃ C fs, H a = some (.ins C b fs))) (R' : Rep K (entry F H m R.zn ws) F' H' (ws.map some) as') :
    Rep K B F' H' σ (upds γ rs as') ∧ Ex F F' ∧ ∀ v r, r.kept → RsOk K (entry F H m R.zn ws) F' H' (ws.map some) as' v r → RsOk K B F' H' σ (upds γ rs as') v r := by
  have fF : Ex F F' := R'.b2
  -- what may have changed is owned here
  have mo : ∀ {b}, b ∈ m → b ∈ ownsOf σ γ H := fun {b} hb => by
    obtain ⟨i, j, c, a, h1, h2, h3⟩ := hm b hb
    obtain ⟨v, hv, q1, q, q2⟩ := P_get o h1
    exact mem_owns.mpr ⟨j, a, q, c, h2, q2, h3⟩
  have stay : ∀ {b o}, H b = some o → b ∉ m → H' b = some o ∧ F' b = F b := fun {b o} h n => ⟨(R'.b1 b o h).1 n, R'.b3 b o h n⟩
  -- an owned slot's address is in m only if it was handed over
  have apart : ∀ {i : Nat} {p : Option Nat} {c : OC} {a : Addr}, γ[i]? = some (.own p c) → σ[i]? = some (some (.ref a)) → i ∉ ownIx rs → a ∉ m ∧ ∀ dx, H dx = some (.own a) → dx ∉ m := fun {i p c a} hg hs hi => by
    obtain ⟨_, ok⟩ := R.ownObj hg hs
    obtain ⟨ob, hob, nob⟩ := ok.obj
    have h1 : a ∉ m := fun hb => by
      obtain ⟨k, j, c', a', e1, e2, e3⟩ := hm a hb
      obtain ⟨v, hv, q1, q, q2⟩ := P_get o e1
      rcases e3 with rfl | ⟨C, fs, e3⟩
      · exact hi (by rw [R.nd i j a p c q c' hg q2 hs e2]; exact mem_ownIx e1)
      · obtain ⟨_, ok'⟩ := R.ownObj q2 e2
        cases c' with
        | lst ds => obtain ⟨_, z, _⟩ := ok'; rw [e3] at z; cases z
        | dct ds => obtain ⟨_, z, _⟩ := ok'; rw [e3] at z; cases z
        | ins C' fs' =>
          obtain ⟨dx, fv, z1, z2, _⟩ := ok'
          rw [e3] at z1
          injection z1 with z1
          injection z1 with _ z1 _
          subst z1
          rw [hob] at z2
          exact nob a' (Option.some.inj z2)
    refine ⟨h1, fun dx hd hb => ?_⟩
    obtain ⟨k, j, c', a', e1, e2, e3⟩ := hm dx hb
    obtain ⟨v, hv, q1, q, q2⟩ := P_get o e1
    obtain ⟨_, ok'⟩ := R.ownObj q2 e2
    rcases e3 with rfl | ⟨C, fs, e3⟩
    · obtain ⟨o2, ho2, n2⟩ := ok'.obj
      rw [hd] at ho2
      exact n2 a (Option.some.inj ho2).symm
    · cases c' with
      | lst ds => obtain ⟨_, z, _⟩ := ok'; rw [e3] at z; cases z
      | dct ds => obtain ⟨_, z, _⟩ := ok'; rw [e3] at z; cases z
      | ins C' fs' =>
        obtain ⟨dx', fv, z1, z2, _⟩ := ok'
        rw [e3] at z1
        injection z1 with z1
        injection z1 with _ z1 _
        subst z1
        rw [hd] at z2
        injection z2 with z2
        injection z2 with z2
        subst z2
        exact hi (by rw [R.nd i j a p c q _ hg q2 hs e2]; exact mem_ownIx e1)
  -- an owned slot behind the call
  have slot : ∀ {i : Nat} {p : Option Nat} {c : OC}, (upds γ rs as')[i]? = some (.own p c) → (i ∉ ownIx rs ∧ γ[i]? = some (.own p c)) ∨ ∃ (k : Nat) (c0 c1 : OC) (p' : Option Nat), rs[k]? = some (.own i c0) ∧ γ[i]? = some (.own p c1) ∧ as'[k]? = some (.own p' c) := fun {i p c} h => by
    by_cases hi : i ∈ ownIx rs
    · obtain ⟨k, c0, e1⟩ := ownIx_mem hi
      obtain ⟨v, hv, q1, q, q2⟩ := P_get o e1
      rcases upds_at (as := as') nd e1 q2 with z | ⟨p', c2, z1, z2⟩
      · rw [z] at h; cases h
      · rw [z2] at h
        cases h
        exact .inr ⟨k, c0, c0, p', e1, q2, z1⟩
    · exact .inl ⟨hi, by rw [← upds_off (as := as') hi]; exact h⟩
  have was : ∀ {i : Nat} {p : Option Nat} {c : OC}, (upds γ rs as')[i]? = some (.own p c) → ∃ c1, γ[i]? = some (.own p c1) := fun h => by
    rcases slot h with ⟨_, z⟩ | ⟨_, _, c1, _, _, z, _⟩
    · exact ⟨_, z⟩
    · exact ⟨c1, z⟩
  have R2 : Rep K B F' H' σ (upds γ rs as') := by
    refine ⟨R'.fh, by rw [upds_len]; exact R.len, fun i s t hs hg => ?_, fun i j a p c q c' h1 h2 h3 h4 => ?_, fun b ob e => ?_, R.b2.trans fF, fun b ob e n => ?_, fun i a p c h1 h2 => ?_, fun i a p c h1 h2 => ?_, fun b ob e => ?_, fun a ob e => ?_⟩
    · cases t with
      | no => trivial
      | val d =>
        have hi : i ∉ ownIx rs := fun hi => by
          obtain ⟨k, c0, e1⟩ := ownIx_mem hi
          obtain ⟨v, hv, q1, q, q2⟩ := P_get o e1
          rcases upds_at (as := as') nd e1 q2 with z | ⟨p', c2, z1, z2⟩
          · rw [z] at hg; cases hg
          · rw [z2] at hg; cases hg
        rw [upds_off hi] at hg
        obtain ⟨v, e, r⟩ := R.sl i s _ hs hg
        exact ⟨v, e, r.mono fF⟩
      | own p c =>
        rcases slot hg with ⟨hi, hg0⟩ | ⟨k, c0, c1, p', e1, e2, e3⟩
        · obtain ⟨a, e, f, ok⟩ := R.sl i s _ hs hg0
          subst e
          obtain ⟨n1, n2⟩ := apart hg0 hs hi
          obtain ⟨ob, hob, _⟩ := ok.obj
          obtain ⟨x1, x2⟩ := stay hob n1
          refine ⟨a, rfl, x2.trans f, (ok.mono fF fun dx hd fd => (stay hd (n2 dx hd)).2.trans fd).heap (x1.trans hob.symm) fun dx hd => ((stay hd (n2 dx hd)).1).trans hd.symm⟩
        · obtain ⟨v, hv, q1, q, q2⟩ := P_get o e1
          rw [hs] at q1
          have es : s = some v := Option.some.inj q1
          subst es
          obtain ⟨a, e4, f0, ok0⟩ := R.sl i _ _ hs e2
          cases e4
          have hk := hw k _ hv
          obtain ⟨a2, e5, f, ok⟩ := R'.sl k (some (.ref a)) _ (by rw [List.getElem?_map, hk]; rfl) e3
          cases e5
          refine ⟨a, rfl, f, ?_⟩
          cases c with
          | lst ds => exact ok
          | dct kd => exact ok
          | ins C fs =>
            obtain ⟨dx, fv, h1, h2, h3, h4, h5, h6⟩ := ok
            cases c1 with
            | lst ds =>
              obtain ⟨vs0, z1, _⟩ := ok0
              obtain ⟨o', hb, kn⟩ := R'.bd a _ z1
              obtain ⟨xs, rfl⟩ := kn
              rw [hb] at h1; cases h1
            | dct kd =>
              obtain ⟨vs0, z1, _⟩ := ok0
              obtain ⟨o', hb, kn⟩ := R'.bd a _ z1
              obtain ⟨xs, rfl⟩ := kn
              rw [hb] at h1; cases h1
            | ins C0 fs0 =>
              obtain ⟨dx0, fv0, z1, z2, z3, z4, z5, z6⟩ := ok0
              obtain ⟨o', hb, kn⟩ := R'.bd a _ z1
              obtain ⟨fs', rfl⟩ := kn
              rw [hb] at h1
              injection h1 with h1
              injection h1 with e6 e7 e8
              subst e7
              exact ⟨dx0, fv, by rw [hb, e6, e8], h2, h3, z4, z5, h6⟩
    · obtain ⟨_, y1⟩ := was h1
      obtain ⟨_, y2⟩ := was h2
      exact R.nd i j a p _ q _ y1 y2 h3 h4
    · obtain ⟨x1, o1, x2⟩ := R.b1 b ob e
      refine ⟨fun n => (stay (x1 n) fun hb => ?_).1, (R'.b1 b o1 x2).2⟩
      rcases R.owns (mo hb) with z | z
      · exact n z
      · rw [e] at z; cases z
    · have x1 := (R.b1 b ob e).1 n
      rw [(stay x1 fun hb => by
        rcases R.owns (mo hb) with z | z
        · exact n z
        · rw [e] at z; cases z).2]
      exact R.b3 b ob e n
    · obtain ⟨_, y1⟩ := was h1
      exact R.b4 i a p _ y1 h2
    · obtain ⟨_, y1⟩ := was h1
      exact R.b5 i a p _ y1 h2
    · obtain ⟨o1, x2⟩ := R.bN b ob e
      exact R'.bN b o1 x2
    · obtain ⟨o1, x2, k1⟩ := R.bd a ob e
      obtain ⟨o2, x3, k2⟩ := R'.bd a o1 x2
      exact ⟨o2, x3, k1.trans k2⟩
  refine ⟨R2, fF, fun v r hk ok => ?_⟩
  cases r with
  | val d => exact ok
  | own j c => exact hk.elim
  | new c =>
    obtain ⟨a, rfl, N⟩ := ok
    have e1 : H a = none := N.bn
    obtain ⟨_, f2, f3, f4⟩ := R.fresh e1
    refine ⟨a, rfl, N.fa, ?_, f3, .inr f2, fun i p c' h1 h2 => ?_⟩
    · have ok := N.ok
      cases c with
      | lst ds => exact ok
      | dct kd => exact ok
      | ins C fs =>
        obtain ⟨dx, fv, h1, h2, h3, h4, h5, h6⟩ := ok
        obtain ⟨_, g2, g3, _⟩ := R.fresh (h4 e1)
        exact ⟨dx, fv, h1, h2, h3, fun _ => g3, .inr g2, h6⟩
    · obtain ⟨_, y1⟩ := was h1
      exact f4 i p _ y1 h2
end
end DL

set_option Elab.async false
set_option linter.all false
set_option maxRecDepth 100000
set_option maxHeartbeats 2000000
namespace DL
open PySem PySem.Spec PyProof.Rows L2
open Evl (Ex ex_l ex_t)
/-- f(..): what is owned and handed over may change -/
def dCall (n : Nat) (fs : FS) (dds : List D) (da : DA) (γ : Env) (q : RS → Env → Prop) : Prop := da γ fun rs γ1 => (ownIx rs).Nodup ∧ rs.length + dds.length = n ∧ fs (argsOf 0 rs ++ dds.map Sx.val) fun r as' => q r (upds γ1 rs as')
/-- f(..): what is owned is lent; the answer is flat -/
def flatD : D → Prop
  | .int _ => True | .bl _ => True | .str _ => True | .non => True
  | _ => False
def flatR : RS → Prop
  | .val d => flatD d
  | _ => False
def dCallB (n : Nat) (fs : FS) (dds : List D) (da : DA) (γ : Env) (q : RS → Env → Prop) : Prop := da γ fun rs γ1 => noNew rs ∧ rs.length + dds.length = n ∧ fs (rs.map (fun r => Sx.val r.data) ++ dds.map Sx.val) fun r _ => flatR r ∧ q r γ1
section
variable {K : PySem.W.Frag} {B : Bs}
theorem se_call {n : Nat} {fs : FS} {dvs : List V} {dds : List D} {E : XK} {ta : TA} {da : DA} (h : SA K B ta da) (od : Paired (fun v d => ∀ z F, Rp ⟨K, z⟩ F v d) dvs dds) : SE K B (tCall (spOf K n fs) dvs E ta) (dCall n fs dds da) := fun F H σ γ Q q R hq k => by
  refine h F H σ γ _ _ R hq fun vs F1 H1 γ1 rs R1 e1 o1 ⟨h1, h2, h3⟩ => ?_
  obtain ⟨m, hm, RE⟩ := R1.args o1 od h1
  refine ⟨by rw [List.length_append, P_len o1, P_len od]; exact h2, F1, m, _, _, _, RE, h3, fun r as' v F2 H2 hp R2 ok hk => ?_⟩
  obtain ⟨R3, e3, ok3⟩ := R1.called o1 h1 (fun i v hv => by rw [List.getElem?_append_left (List.getElem?_eq_some_iff.mp hv).1]; exact hv) hm R2
  exact k v F2 H2 _ r R3 (e1.trans e3) (ok3 v r hk ok) hp
/-- the heap grows, nothing else -/
theorem Rep.grow {B : Bs} {F H H' : Hp} {σ : L2.St} {γ : Env} (R : Rep K B F H σ γ) (e : Ex H H') : Rep K B F H' σ γ := by
  refine ⟨R.fh.trans e, R.len, fun i s t hs hg => ?_, R.nd, fun b o h => ?_, R.b2, R.b3, R.b4, R.b5, fun b o h => ?_, fun a o h => ?_⟩
  · have q := R.sl i s t hs hg
    cases t with
    | no => trivial
    | val d => exact q
    | own p c =>
      obtain ⟨a, e', f, ok⟩ := q
      obtain ⟨o, ho, _⟩ := ok.obj
      exact ⟨a, e', f, ok.heap ((e _ _ ho).trans ho.symm) fun dx hd => (e _ _ hd).trans hd.symm⟩
  · obtain ⟨x1, o1, x2⟩ := R.b1 b o h
    exact ⟨fun n => e _ _ (x1 n), o1, e _ _ x2⟩
  · obtain ⟨o1, x2⟩ := R.bN b o h
    exact ⟨o1, e _ _ x2⟩
  · obtain ⟨o1, x2, x3⟩ := R.bd a o h
    exact ⟨o1, e _ _ x2, x3⟩
/-- for a while all that was handed over is frozen -/
theorem Rep.lend {B : Bs} {H : Hp} {σ : L2.St} : ∀ {vs : List V} {rs : List RS} {F : Hp} {γ : Env}, Rep K B F H σ γ → Paired (fun v r => (∃ d, r = .val d ∧ Rp (B.kz K) F v d) ∨ ∃ j c, r = .own j c ∧ σ[j]? = some (some v) ∧ (∃ p, look γ j = .own p c) ∨ r = .own j c ∧ Rp (B.kz K) F v c.data) vs rs →
    ∃ F', Ex F F' ∧ Ex F' H ∧ RpAll (B.kz K) F' vs (rs.map RS.data)
  | _, _, F, γ, R, .nil => ⟨F, Evl.Ex.refl F, R.fh, .nil⟩
  | _, _, F, γ, R, @Paired.cons _ _ _ v r vs rs h t => by
    have step : ∃ F1 γ1, Rep K B F1 H σ γ1 ∧ Ex F F1 ∧ Rp (B.kz K) F1 v r.data ∧ ∀ j p c, look γ j = .own p c → look γ1 j = .own p c ∨ ∃ a, σ[j]? = some (some (.ref a)) ∧ Rp (B.kz K) F1 (.ref a) c.data := by
      rcases h with ⟨d, rfl, h⟩ | ⟨j, c, ⟨rfl, hs, p, hp⟩ | ⟨rfl, h⟩⟩
      · exact ⟨F, γ, R, Evl.Ex.refl F, h, fun j p c h => .inl h⟩
      · obtain ⟨a, F1, hs', R1, e1, r1⟩ := R.freezeVar hp
        rw [hs] at hs'
        cases hs'
        refine ⟨F1, _, R1, e1, r1, fun i p' c' hl => ?_⟩
        by_cases e : i = j
        · subst e
          rw [hp] at hl
          cases hl
          exact .inr ⟨a, hs, r1⟩
        · refine .inl (look_of ?_)
          have := of_look hl (by intro z; cases z)
          rw [put_set, List.getElem?_set_ne (Ne.symm e)]
          exact this
      · exact ⟨F, γ, R, Evl.Ex.refl F, h, fun j p c h => .inl h⟩
    obtain ⟨F1, γ1, R1, e1, r1, hk⟩ := step
    obtain ⟨F2, e2, e3, r2⟩ := Rep.lend (vs := vs) (rs := rs) R1 (P_mono (fun v r h => by
      rcases h with ⟨d, rfl, h⟩ | ⟨j, c, ⟨rfl, hs, p, hp⟩ | ⟨rfl, h⟩⟩
      · exact .inl ⟨d, rfl, h.mono e1⟩
      · rcases hk j p c hp with z | ⟨a, z1, z2⟩
        · exact .inr ⟨j, c, .inl ⟨rfl, hs, p, z⟩⟩
        · rw [hs] at z1
          cases z1
          exact .inr ⟨j, c, .inr ⟨rfl, z2⟩⟩
      · exact .inr ⟨j, c, .inr ⟨rfl, h.mono e1⟩⟩) t)
    exact ⟨F2, e1.trans e2, e3, .cons (r1.mono e2) r2⟩
theorem lent {B : Bs} {F H : Hp} {σ : L2.St} {γ : Env} : ∀ {vs : List V} {rs : List RS}, Paired (RsOk K B F H σ γ) vs rs → noNew rs → Paired (fun v r => (∃ d, r = .val d ∧ Rp (B.kz K) F v d) ∨ ∃ j c, r = .own j c ∧ σ[j]? = some (some v) ∧ (∃ p, look γ j = .own p c) ∨ r = .own j c ∧ Rp (B.kz K) F v c.data) vs rs
  | _, _, .nil, _ => .nil
  | _, .val d :: _, .cons h t, n => .cons (.inl ⟨d, rfl, h⟩) (lent t n)
  | _, .own j c :: _, .cons ⟨hs, p, hg⟩ t, n => .cons (.inr ⟨j, c, .inl ⟨rfl, hs, p, look_of hg⟩⟩) (lent t n)
theorem se_callB {n : Nat} {fs : FS} {dvs : List V} {dds : List D} {E : XK} {ta : TA} {da : DA} (h : SA K B ta da) (od : Paired (fun v d => ∀ z F, Rp ⟨K, z⟩ F v d) dvs dds) : SE K B (tCall (spOf K n fs) dvs E ta) (dCallB n fs dds da) := fun F H σ γ Q q R hq k => by
  refine h F H σ γ _ _ R hq fun vs F1 H1 γ1 rs R1 e1 o1 ⟨h0, h2, h3⟩ => ?_
  have pr := lent o1 h0
  obtain ⟨F2, e2, e3, ra⟩ := R1.lend pr
  have rd : RpAll (B.kz K) F2 dvs dds := RpAll.of (P_mono (fun _ _ h => h B.z F2) od)
  have RE : Rep K (entry F2 H1 [] R1.zn (vs ++ dvs)) F2 H1 ((vs ++ dvs).map some) (rs.map (fun r => Sx.val r.data) ++ dds.map Sx.val) := by
    have all : Paired (Rp (B.kz K) F2) (vs ++ dvs) (rs.map RS.data ++ dds) := P_app ra.p rd.p
    have e0 : rs.map (fun r => Sx.val r.data) ++ dds.map Sx.val = (rs.map RS.data ++ dds).map Sx.val := by rw [List.map_append, List.map_map]; rfl
    rw [e0]
    have none : ∀ {i : Nat} {p : Option Nat} {c : OC}, ((rs.map RS.data ++ dds).map Sx.val)[i]? ≠ some (.own p c) := fun {i p c} h => by
      rw [List.getElem?_map] at h
      cases q : (rs.map RS.data ++ dds)[i]? with
      | none => rw [q] at h; cases h
      | some d => rw [q] at h; cases h
    refine ⟨e3, by rw [List.length_map, List.length_map, P_len all], fun i s t hs hg => ?_, fun i j a p c q c' h1 => absurd h1 none, fun b o e => ⟨fun _ => e, o, e⟩, Evl.Ex.refl F2, fun b o _ _ => rfl, fun i a p c h1 => absurd h1 none, fun i a p c h1 => absurd h1 none, fun b o e => ⟨o, e⟩, fun a o e => ⟨o, e, .refl o⟩⟩
    rw [List.getElem?_map] at hs hg
    cases q : (rs.map RS.data ++ dds)[i]? with
    | none => rw [q] at hg; cases hg
    | some d =>
      rw [q] at hg
      cases hg
      obtain ⟨v, hv, r⟩ := P_get all q
      rw [hv] at hs
      exact ⟨v, (Option.some.inj hs).symm, r⟩
  refine ⟨by rw [List.length_append, P_len o1, P_len od]; exact h2, F2, [], _, _, _, RE, h3, fun r as' v F3 H3 ⟨hf, hp⟩ R3 ok hk => ?_⟩
  have eH : Ex H1 H3 := fun b o e => (R3.b1 b o e).1 (by simp [entry])
  refine k v F1 H3 γ1 r (R1.grow eH) e1 ?_ hp
  cases r with
  | val d =>
    have ok' : Rp (B.kz K) F3 v d := ok
    show Rp (B.kz K) F1 v d
    cases ok' with
    | non => exact .non
    | bl b => exact .bl b
    | int i => exact .int i
    | str x => exact .str x
    | _ => exact hf.elim
  | own j c => exact hf.elim
  | new c => exact hf.elim
end
section
variable {X : Cx} {B : Bs} {a : Expr} {es : List Expr} {ta : TA} {da : DA} {CX : CXT} {k n : Nat} {f : Addr} {fd : FuncData} {ps : List Str} {fs : FS} {dvs : List V} {ds : List Value} {dds : List D} {E : XK} {x : Str} {p pos : Pos}
theorem x_callD (G : FnOk X.prog X.w X.K X.mg X.base CX k f fd ps (spOf X.K n fs)) (hr : Room k X.A) (hm : X.mg x = some (.ref f)) (hk : PySem.W.keepIn X.K (.ref f) = true) (hb : Binds X.K fd ps ds) (hd : Vals dvs ds) (od : Paired (fun v d => ∀ z F, Rp ⟨X.K, z⟩ F v d) dvs dds) (hx : Passes CX X E) (h : XA X B (a :: es) ta da)
    (hg : Gl X x := by rfl) (hdb : (x == ("__debug__" : Str)) = false := by decide) (he : starEach (a :: es) X.env = (false, eval a X.env) :: starEach es X.env := by rfl) (hpl : (backTo pos (starEach es X.env)).any (·.1) = false := by rfl) :
    XE X B (.Call (.Name x p) (a :: es) [] pos) (tCall (spOf X.K n fs) dvs E ta) (dCall n fs dds da) := ⟨pe_call G hr hg hm hk hb hd hx h.pa hdb he hpl, se_call h.sa od⟩
theorem x_call (G : FnOk X.prog X.w X.K X.mg X.base CX0 k f fd ps (spOf X.K n fs)) (hr : Room k X.A) (hm : X.mg x = some (.ref f)) (hk : PySem.W.keepIn X.K (.ref f) = true) (hb : Binds X.K fd ps []) (h : XA X B (a :: es) ta da)
    (hg : Gl X x := by rfl) (hdb : (x == ("__debug__" : Str)) = false := by decide) (he : starEach (a :: es) X.env = (false, eval a X.env) :: starEach es X.env := by rfl) (hpl : (backTo pos (starEach es X.env)).any (·.1) = false := by rfl) :
    XE X B (.Call (.Name x p) (a :: es) [] pos) (tCall (spOf X.K n fs) [] E0 ta) (dCall n fs [] da) := x_callD G hr hm hk hb .nil .nil pass0 h hg hdb he hpl
theorem x_call0 (G : FnOk X.prog X.w X.K X.mg X.base CX0 k f fd ps (spOf X.K n fs)) (hr : Room k X.A) (hm : X.mg x = some (.ref f)) (hk : PySem.W.keepIn X.K (.ref f) = true) (hb : Binds X.K fd ps []) (hg : Gl X x := by rfl) (hdb : (x == ("__debug__" : Str)) = false := by decide) :
    XE X B (.Call (.Name x p) [] [] pos) (tCall (spOf X.K n fs) [] E0 tNil) (dCall n fs [] dNil) := ⟨pe_call0 G hr hg hm hk hb .nil pass0 hdb, se_call sa_nil .nil⟩
/-- arguments lent -/
theorem x_callB (G : FnOk X.prog X.w X.K X.mg X.base CX0 k f fd ps (spOf X.K n fs)) (hr : Room k X.A) (hm : X.mg x = some (.ref f)) (hk : PySem.W.keepIn X.K (.ref f) = true) (hb : Binds X.K fd ps []) (h : XA X B (a :: es) ta da)
    (hg : Gl X x := by rfl) (hdb : (x == ("__debug__" : Str)) = false := by decide) (he : starEach (a :: es) X.env = (false, eval a X.env) :: starEach es X.env := by rfl) (hpl : (backTo pos (starEach es X.env)).any (·.1) = false := by rfl) :
    XE X B (.Call (.Name x p) (a :: es) [] pos) (tCall (spOf X.K n fs) [] E0 ta) (dCallB n fs [] da) := ⟨pe_call G hr hg hm hk hb .nil pass0 h.pa hdb he hpl, se_callB h.sa .nil⟩
end
/-! ### the law's own promise -/
def fsLaw : FS := fun as p => ∃ ns : List Int, as = [.val (.scr ns)] ∧ ns.length ≤ 63 ∧ ∀ as', p (.val (.bl true)) as'
theorem law_sp {K : PySem.W.Frag} {H : Hp} {a : Addr} {ns : List Int} (hl : ns.length ≤ 63) (hS : SqL K H a (ns.map V.int)) : spOf K 1 fsLaw [.ref a] H (fun v _ => v = .bl true) fun _ _ _ => False := by
  have one : ∀ {i : Nat} {p : Option Nat} {c : OC}, ([Sx.val (.scr ns)] : List Sx)[i]? ≠ some (.own p c) := fun {i p c} h => by
    cases i with
    | zero => simp at h
    | succ i => simp at h
  refine ⟨rfl, H, [], ⟨fun _ => False, fun _ h => h.elim⟩, [.val (.scr ns)], fun r _ => r = .val (.bl true), ?_, ⟨ns, rfl, hl, fun _ => rfl⟩, fun r as' v F' H' hp R ok _ => ?_⟩
  · refine ⟨Evl.Ex.refl H, rfl, fun i s t hs hg => ?_, fun i j a p c q c' h1 => absurd h1 one, fun b o e => ⟨fun _ => e, o, e⟩, Evl.Ex.refl H, fun b o _ _ => rfl, fun i a p c h1 => absurd h1 one, fun i a p c h1 => absurd h1 one, fun b o e => ⟨o, e⟩, fun a o e => ⟨o, e, .refl o⟩⟩
    cases i with
    | zero =>
      simp at hs hg
      subst hg; subst hs
      exact ⟨_, rfl, .scr hS⟩
    | succ i => simp at hg
  · subst hp
    have ok' : Rp ⟨K, fun _ => False⟩ F' v (.bl true) := ok
    cases ok' with
    | bl b => rfl
end DL

set_option Elab.async false
set_option linter.all false
set_option maxRecDepth 100000
set_option maxHeartbeats 2000000
namespace DL
open PySem PySem.Spec PyProof.Rows L2
open Evl (Ex ex_l ex_t)
section
variable {X : Cx} {B : Bs} {x : Str} {pos : Pos}
/-- a built-in class as a value -/
theorem x_bty {n : String} (hm : X.mg x = none) (hg : Gl X x := by rfl) (hv : bootBuiltins x = some (.type n) := by decide +kernel) (hn : x ≠ "__name__" := by decide) (hd : (x == ("__debug__" : Str)) = false := by decide) : XE X B (.Name x pos) (tC (.ty n)) (dC (.ty n)) :=
  ⟨pe_bltn hg hm hv rfl hn hd, se_c fun _ _ => .ty n⟩
/-! list(range(..)) -/
def rgD (a b : Int) : List D := (List.range (b - a).toNat).map fun i => D.int (a + (i : Nat))
theorem rg_rp {K : KZ} {F : Hp} (a b : Int) : RpAll K F (rgV a b) (rgD a b) := by
  unfold rgV rgD
  generalize List.range (b - a).toNat = l
  induction l with
  | nil => exact .nil
  | cons i l ih => exact .cons (.int _) ih
def dLRg1 (da : DE) (γ : Env) (q : RS → Env → Prop) : Prop := da γ fun s γ1 => match s.data with
  | .int n => -1000000 ≤ n ∧ n ≤ 1000000 ∧ q (.new (.lst (rgD 0 n))) γ1
  | _ => False
def dLRg2 (da db : DE) (γ : Env) (q : RS → Env → Prop) : Prop := da γ fun s γ1 => db γ1 fun t γ2 => s.ok γ2 ∧ match s.data, t.data with
  | .int m, .int n => -1000000 ≤ m ∧ m ≤ 1000000 ∧ -1000000 ≤ n ∧ n ≤ 1000000 ∧ q (.new (.lst (rgD m n))) γ2
  | _, _ => False
theorem x_listRg1 {a : Expr} {ta : TE} {da : DE} {p p2 pos2 : Pos} (hc : X.calm = true) (hm : X.mg "list" = none) (hm2 : X.mg "range" = none) (h : XE X B a ta da) (hg : Gl X "list" := by rfl) (hg2 : Gl X "range" := by rfl) (na : starEach [a] X.env = (false, eval a X.env) :: starEach [] X.env := by rfl)
    (nb : starEach [.Call (.Name "range" p2) [a] [] pos2] X.env = (false, eval (.Call (.Name "range" p2) [a] [] pos2) X.env) :: starEach [] X.env := by rfl) : XE X B (.Call (.Name "list" p) [.Call (.Name "range" p2) [a] [] pos2] [] pos) (tLstRg (tRg1 ta)) (dLRg1 da) := ⟨pe_listRg hc hg hm (prg_1 hg2 hm2 h.pe na) nb, fun F H σ γ Q q R hq k => by
  refine h.se F H σ γ _ _ R hq fun v F1 H1 γ1 s R1 e1 o1 h1 => ?_
  split at h1
  · rename_i n es
    have r := o1.rs R1
    rw [es] at r
    obtain ⟨h2, h3, h4⟩ := h1
    refine ⟨n, r.int, ⟨by omega, by omega, by omega, by omega, by omega⟩, fun p hp => ?_⟩
    obtain ⟨R', ok⟩ := R1.newL hp (rg_rp 0 n)
    exact k _ F1 _ γ1 _ R' e1 ok h4
  · exact h1.elim⟩
theorem x_listRg2 {a b : Expr} {ta tb : TE} {da db : DE} {p p2 pos2 : Pos} (hc : X.calm = true) (hm : X.mg "list" = none) (hm2 : X.mg "range" = none) (h : XE X B a ta da) (h' : XE X B b tb db) (hg : Gl X "list" := by rfl) (hg2 : Gl X "range" := by rfl) (na : starEach [a, b] X.env = (false, eval a X.env) :: starEach [b] X.env := by rfl)
    (na2 : starEach [b] X.env = (false, eval b X.env) :: starEach [] X.env := by rfl) (hp : (backTo pos2 (starEach [b] X.env)).any (·.1) = false := by rfl)
    (nb : starEach [.Call (.Name "range" p2) [a, b] [] pos2] X.env = (false, eval (.Call (.Name "range" p2) [a, b] [] pos2) X.env) :: starEach [] X.env := by rfl) : XE X B (.Call (.Name "list" p) [.Call (.Name "range" p2) [a, b] [] pos2] [] pos) (tLstRg (tRg2 ta tb)) (dLRg2 da db) := ⟨pe_listRg hc hg hm (prg_2 hg2 hm2 h.pe h'.pe na na2 hp) nb, fun F H σ γ Q q R hq k => by
  refine h.se F H σ γ _ _ R hq fun v F1 H1 γ1 s R1 e1 o1 h1 => ?_
  obtain ⟨F2, R2, e2, o2⟩ := o1.fz R1
  refine h'.se F2 H1 σ γ1 _ _ R2 h1 fun w F3 H3 γ3 t R3 e3 o3 ⟨h3, h4⟩ => ?_
  split at h4
  · rename_i m n es et
    have rv := (o2.later e3 R3 (fz_ok s γ3 h3) (fz_idem s)).rs R3
    have rw' := o3.rs R3
    rw [RS.fz_data, es] at rv
    rw [et] at rw'
    obtain ⟨h5, h6, h7, h8, h9⟩ := h4
    refine ⟨m, n, rv.int, rw'.int, ⟨by omega, by omega, by omega, by omega, by omega⟩, fun p hp => ?_⟩
    obtain ⟨R', ok⟩ := R3.newL hp (rg_rp m n)
    exact k _ F3 _ γ3 _ R' ((e1.trans e2).trans e3) ok h9
  · exact h4.elim⟩
end

/-! ### the order of keys: numbers, texts, pairs of these -/
def ltV : V → V → Bool
  | .int i, .int j => decide (i < j)
  | .str i, .str j => decide (i.cps.toList < j.cps.toList)
  | _, _ => false
def likeV : V → V → Bool
  | .int _, .int _ => true
  | .str _, .str _ => true
  | _, _ => false
def eqW : V → V → Bool
  | .int i, .int j => decide (i = j)
  | .str i, .str j => decide (i = j)
  | _, _ => false
inductive LtV (K : PySem.W.Frag) (H : Hp) : V → V → Bool → Prop
  | flat {x y : V} : likeV x y = true → LtV K H x y (ltV x y)
  | pair {a b : Addr} {x1 x2 y1 y2 : V} : SqT K H a [x1, x2] → SqT K H b [y1, y2] → likeV x1 y1 = true → likeV x2 y2 = true → LtV K H (.ref a) (.ref b) (if eqW x1 y1 = true then ltV x2 y2 else ltV x1 y1)
def rLtK (K : PySem.W.Frag) : R2 := fun x y H Q => ∃ b, LtV K H x y b ∧ Q (.bl b) H
theorem rc_flat {A : Around} {s : Shared} {x y : V} {u v : Value} (rx : RelV x u) (ry : RelV y v) (h : likeV x y = true) : Ob.RcOp .Lt A s u v (ltV x y) := fun prog w E Q hq => by
  cases x with
  | int i =>
    cases y with
    | int j =>
      obtain ⟨t, rfl⟩ := rx
      obtain ⟨t', rfl⟩ := ry
      exact PyProof.Rows.lt_int hq
    | _ => cases h
  | str i =>
    cases y with
    | str j =>
      obtain ⟨t, rfl⟩ := rx
      obtain ⟨t', rfl⟩ := ry
      exact PyProof.Rows.lt_str (by
        have e : ltV (.str i) (.str j) = decide (i.cps.toList < j.cps.toList) := rfl
        rw [e] at hq
        exact hq)
    | _ => cases h
  | _ => cases h
theorem eq_flat {A : Around} {s : Shared} {x y : V} {u v : Value} (rx : RelV x u) (ry : RelV y v) (h : likeV x y = true) : SeqAt.EqAt A s u v (eqW x y) := by
  cases x with
  | int i =>
    cases y with
    | int j =>
      have q := eqAt_V (A := A) (s := s) rx ry rfl rfl
      have e : eqV (.int i) (.int j) = eqW (.int i) (.int j) := Bool.beq_eq_decide_eq i j
      rw [e] at q
      exact q
    | _ => cases h
  | str i =>
    cases y with
    | str j =>
      have q := eqAt_V (A := A) (s := s) rx ry rfl rfl
      have e : eqV (.str i) (.str j) = eqW (.str i) (.str j) := by
        show (i == j) = decide (i = j)
        by_cases z : i = j
        · subst z; simp
        · rw [decide_eq_false z]; exact beq_eq_false_iff_ne.mpr z
      rw [e] at q
      exact q
    | _ => cases h
  | _ => cases h
theorem op_ltK {X : Cx} (hu : X.A.units < cLine) : OpR X (compareOp .Lt) (rLtK X.K) := by
  intro pins s σ H x y v u Q I rx ry h
  obtain ⟨b, hb, q⟩ := h
  cases hb with
  | flat hl => exact rc_flat rx ry hl X.prog X.w X.xe (EP X pins σ Q) ⟨.bl _, H, I, rfl, q⟩
  | @pair a b x1 x2 y1 y2 ha hb h1 h2 =>
    cases rx
    cases ry
    obtain ⟨its, r1, p1, _⟩ := I.tuple ha
    obtain ⟨its2, r2, p2, _⟩ := I.tuple hb
    cases r1 with
    | cons ra1 ra => cases ra with
      | cons ra2 ra => cases ra with
        | nil => cases r2 with
          | cons rb1 rb => cases rb with
            | cons rb2 rb => cases rb with
              | nil =>
                have R := Ob.RcOp.tuples_lt (A := X.A) (s := s) (e := fun j => if j = 0 then eqW x1 y1 else eqW x2 y2) (r := fun j => if j = 0 then ltV x1 y1 else ltV x2 y2) p1 p2 hu (fun j l1 l2 => by
                  match j, l1, l2 with
                  | 0, _, _ => exact eq_flat ra1 rb1 h1
                  | 1, _, _ => exact eq_flat ra2 rb2 h2
                  | j + 2, l1, _ => exact absurd l1 (by simp)) (fun j l1 l2 _ => by
                  match j, l1, l2 with
                  | 0, _, _ => exact rc_flat ra1 rb1 h1
                  | 1, _, _ => exact rc_flat ra2 rb2 h2
                  | j + 2, l1, _ => exact absurd l1 (by simp))
                refine R X.prog X.w X.xe (EP X pins σ Q) ⟨.bl _, H, I, ?_, q⟩
                have irr : ∀ {x y : V}, eqW x y = true → ltV x y = false := fun {x y} h => by
                  cases x with
                  | int i => cases y with
                    | int j =>
                      have e : i = j := of_decide_eq_true h
                      subst e
                      exact decide_eq_false (Int.lt_irrefl i)
                    | _ => cases h
                  | str i => cases y with
                    | str j =>
                      have e : i = j := of_decide_eq_true h
                      subst e
                      exact decide_eq_false (List.lt_irrefl _)
                    | _ => cases h
                  | _ => cases h
                show Value.bool _ = Value.bool _
                congr 1
                show Ob.lexAt (fun j => if j = 0 then eqW x1 y1 else eqW x2 y2) (fun j => if j = 0 then ltV x1 y1 else ltV x2 y2) (decide (2 < 2)) 0 2 = _
                unfold Ob.lexAt
                by_cases c : eqW x1 y1 = true
                · rw [if_pos (by simpa using c), if_pos c]
                  unfold Ob.lexAt
                  by_cases c2 : eqW x2 y2 = true
                  · rw [if_pos (by simpa using c2), irr c2]
                    rfl
                  · rw [if_neg (by simpa using c2)]
                    rfl
                · rw [if_neg (by simpa using c), if_neg c]
                  rfl
def ltD : D → D → Bool
  | .int i, .int j => decide (i < j)
  | .str i, .str j => decide (i.cps.toList < j.cps.toList)
  | _, _ => false
def likeD : D → D → Bool
  | .int _, .int _ => true
  | .str _, .str _ => true
  | _, _ => false
def eqW' : D → D → Bool
  | .int i, .int j => decide (i = j)
  | .str i, .str j => decide (i = j)
  | _, _ => false
def fLtK : D → D → (RS → Prop) → Prop
  | .int i, .int j, q => q (.val (.bl (decide (i < j))))
  | .str i, .str j, q => q (.val (.bl (decide (i.cps.toList < j.cps.toList))))
  | .tup [a1, a2], .tup [b1, b2], q => likeD a1 b1 = true ∧ likeD a2 b2 = true ∧ q (.val (.bl (if eqW' a1 b1 = true then ltD a2 b2 else ltD a1 b1)))
  | _, _, _ => False
theorem like_rp {K : KZ} {F : Hp} {x y : V} {a b : D} (rx : Rp K F x a) (ry : Rp K F y b) (h : likeD a b = true) : likeV x y = true ∧ ltV x y = ltD a b ∧ eqW x y = eqW' a b := by
  cases rx <;> first | (cases ry <;> first | exact ⟨rfl, rfl, rfl⟩ | cases h) | cases h
theorem od_ltK {K : PySem.W.Frag} : OpD K (rLtK K) fLtK := fun B F H σ γ x y d e Q q R rx ry hf k => by
  unfold fLtK at hf
  split at hf
  · rw [rx.int, ry.int]
    exact ⟨_, .flat rfl, vk R k (.bl _) hf⟩
  · rw [rx.str, ry.str]
    exact ⟨_, .flat rfl, vk R k (.bl _) hf⟩
  · obtain ⟨a, vs, rfl, h1, r1⟩ := rx.tup R.fh
    obtain ⟨b, ws, rfl, h2, r2⟩ := ry.tup R.fh
    cases r1 with
    | cons ra1 r1 => cases r1 with
      | cons ra2 r1 => cases r1 with
        | nil => cases r2 with
          | cons rb1 r2 => cases r2 with
            | cons rb2 r2 => cases r2 with
              | nil =>
                obtain ⟨l1, l2, hq⟩ := hf
                obtain ⟨c1, c2, c3⟩ := like_rp ra1 rb1 l1
                obtain ⟨d1, d2, d3⟩ := like_rp ra2 rb2 l2
                refine ⟨_, .pair h1 h2 c1 d1, ?_⟩
                rw [c3, d2, c2]
                exact vk R k (.bl _) hq
  · exact hf.elim

/-! ### steps -/
/-- what comes later is not looked into -/
def Later (t : DS) (d : DEnds) (γ : Env) : Prop := t d γ
theorem q_seq {s t : DS} {d : DEnds} {γ : Env} (h : s { nx := fun γ1 => Later t d γ1, rt := d.rt, bk := d.bk, ct := d.ct } γ) : dSeq s t d γ := h
theorem q_later {t : DS} {d : DEnds} {γ : Env} (h : t d γ) : Later t d γ := h
abbrev fAdd : D → D → (RS → Prop) → Prop := fI0 fun i j => .int (i + j)
abbrev fSub : D → D → (RS → Prop) → Prop := fI0 fun i j => .int (i - j)
abbrev fMul : D → D → (RS → Prop) → Prop := fI CMul fun i j => .int (i * j)
abbrev fDiv : D → D → (RS → Prop) → Prop := fI CDiv fun i j => .int (i / j)
abbrev fMod : D → D → (RS → Prop) → Prop := fI (fun _ j => 0 < j) fun i j => .int (i % j)
abbrev fMulW : D → D → (RS → Prop) → Prop := fI CMulW fun i j => .int (i * j)
abbrev fDivW : D → D → (RS → Prop) → Prop := fI CDivW fun i j => .int (i / j)
abbrev fPow : D → D → (RS → Prop) → Prop := fI CPow fun i j => .int (i ^ j.toNat)
abbrev fShl : D → D → (RS → Prop) → Prop := fI CPow fun i j => .int (i * 2 ^ j.toNat)
abbrev fShr : D → D → (RS → Prop) → Prop := fI (fun _ j => 0 ≤ j) fun i j => .int (i / 2 ^ j.toNat)
abbrev fLt : D → D → (RS → Prop) → Prop := fI0 fun i j => .bl (decide (i < j))
abbrev fLe : D → D → (RS → Prop) → Prop := fI0 fun i j => .bl (decide (i ≤ j))
abbrev fGt : D → D → (RS → Prop) → Prop := fI0 fun i j => .bl (decide (j < i))
abbrev fGe : D → D → (RS → Prop) → Prop := fI0 fun i j => .bl (decide (j ≤ i))
abbrev fAnd : D → D → (RS → Prop) → Prop := fI0 fun i j => .int (Builtin.bitAnd i j)
abbrev fOr : D → D → (RS → Prop) → Prop := fI0 fun i j => .int (Builtin.bitOr i j)
abbrev fXor : D → D → (RS → Prop) → Prop := fI0 fun i j => .int (Builtin.bitXor i j)
abbrev fNeg : D → (RS → Prop) → Prop := fU fun i => .int (-i)
abbrev fMax2 : List D → (RS → Prop) → Prop := fI2 fun i j => if j > i then j else i
abbrev fMin2 : List D → (RS → Prop) → Prop := fI2 fun i j => if j < i then j else i
end DL

set_option Elab.async false
set_option linter.all false
set_option maxRecDepth 100000
set_option maxHeartbeats 2000000
namespace DL
open PySem PySem.Spec PyProof.Rows L2
/-! ### == of the data that laws hold against one another -/
/-- data of depth n at most -/
def dOkN (n : Nat) (d : D) : Bool := d.pure && d.py.canLay0 && decide (d.py.depth ≤ n)
theorem dOk_of {n : Nat} {d : D} (h : dOkN n d = true) (hn : n ≤ 64) : dOk d = true := by
  unfold dOkN at h
  simp only [Bool.and_eq_true, decide_eq_true_eq] at h
  unfold dOk SeqAt.shaped
  simp only [Bool.and_eq_true, decide_eq_true_eq]
  exact ⟨h.1.1, h.1.2, Nat.le_trans h.2 hn⟩
theorem all_ok {α : Type} {f : α → D} {n : Nat} : ∀ {xs : List α}, (∀ x ∈ xs, dOkN n (f x) = true) → pureAll (xs.map f) = true ∧ PyData.canLayAll0 (pyAll (xs.map f)) = true ∧ PyData.depthAll (pyAll (xs.map f)) ≤ n
  | [], _ => ⟨rfl, rfl, Nat.zero_le _⟩
  | x :: xs, h => by
    have h1 := h x List.mem_cons_self
    obtain ⟨a, b, c⟩ := all_ok (xs := xs) fun y hy => h y (List.mem_cons_of_mem _ hy)
    unfold dOkN at h1
    simp only [Bool.and_eq_true, decide_eq_true_eq] at h1
    refine ⟨?_, ?_, ?_⟩
    · rw [List.map_cons, pureAll, h1.1.1, a]; rfl
    · rw [List.map_cons, pyAll, PyData.canLayAll0, h1.1.2, b]; rfl
    · rw [List.map_cons, pyAll, PyData.depthAll]
      exact Nat.max_le.mpr ⟨h1.2, c⟩
theorem ok_lst {α : Type} {f : α → D} {n : Nat} {xs : List α} (h : ∀ x ∈ xs, dOkN n (f x) = true) : dOkN (n + 1) (.lst (xs.map f)) = true := by
  obtain ⟨a, b, c⟩ := all_ok h
  unfold dOkN
  simp only [D.pure, D.py, PyData.canLay0, PyData.depth, a, b, Bool.true_and, decide_eq_true_eq]
  omega
theorem ok_tup {α : Type} {f : α → D} {n : Nat} {xs : List α} (h : ∀ x ∈ xs, dOkN n (f x) = true) : dOkN (n + 1) (.tup (xs.map f)) = true := by
  obtain ⟨a, b, c⟩ := all_ok h
  unfold dOkN
  simp only [D.pure, D.py, PyData.canLay0, PyData.depth, a, b, Bool.true_and, decide_eq_true_eq]
  omega
theorem ok_int (i : Int) : dOkN 0 (.int i) = true := by
  unfold dOkN
  simp only [D.pure, D.py, PyData.canLay0, PyData.depth, Bool.true_and, decide_eq_true_eq]
  omega
theorem ok_mono {n m : Nat} {d : D} (h : dOkN n d = true) (l : n ≤ m) : dOkN m d = true := by
  unfold dOkN at h ⊢
  simp only [Bool.and_eq_true, decide_eq_true_eq] at h ⊢
  exact ⟨h.1, Nat.le_trans h.2 l⟩
theorem dOk_ints (ns : List Int) : dOk (.lst (ns.map D.int)) = true := dOk_of (ok_lst fun x _ => ok_int x) (by decide)
theorem dOk_nil : dOk (.lst []) = true := dOk_ints []
theorem dOk_int (i : Int) : dOk (.int i) = true := dOk_of (ok_int i) (by decide)
/-- == decides what f tells apart -/
def EqF {α : Type} [DecidableEq α] (f : α → D) (S : α → Prop) : Prop := ∀ x y, S x → S y → deq (f x) (f y) = decide (x = y)
theorem eqv_all {α : Type} [DecidableEq α] {f : α → D} {S : α → Prop} (h : EqF f S) : ∀ {xs ys : List α}, (∀ x ∈ xs, S x) → (∀ y ∈ ys, S y) → PyData.eqvAll (pyAll (xs.map f)) (pyAll (ys.map f)) = decide (xs = ys)
  | [], [], _, _ => by simp [pyAll, PyData.eqvAll]
  | [], _ :: _, _, _ => by simp [pyAll, PyData.eqvAll]
  | _ :: _, [], _, _ => by simp [pyAll, PyData.eqvAll]
  | x :: xs, y :: ys, hx, hy => by
    have h1 : PyData.eqv (f x).py (f y).py = decide (x = y) := h x y (hx x List.mem_cons_self) (hy y List.mem_cons_self)
    have h2 := eqv_all h (xs := xs) (ys := ys) (fun z hz => hx z (List.mem_cons_of_mem _ hz)) fun z hz => hy z (List.mem_cons_of_mem _ hz)
    rw [List.map_cons, List.map_cons, pyAll, pyAll, PyData.eqvAll, h1, h2]
    by_cases c : x = y
    · by_cases c2 : xs = ys
      · simp [c, c2]
      · simp [c, c2]
    · simp [c]
theorem deq_lst {α : Type} [DecidableEq α] {f : α → D} {S : α → Prop} (h : EqF f S) {xs ys : List α} (hx : ∀ x ∈ xs, S x) (hy : ∀ y ∈ ys, S y) : deq (.lst (xs.map f)) (.lst (ys.map f)) = decide (xs = ys) := by
  unfold deq
  simp only [D.py, PyData.eqv]
  exact eqv_all h hx hy
theorem deq_tup {α : Type} [DecidableEq α] {f : α → D} {S : α → Prop} (h : EqF f S) {xs ys : List α} (hx : ∀ x ∈ xs, S x) (hy : ∀ y ∈ ys, S y) : deq (.tup (xs.map f)) (.tup (ys.map f)) = decide (xs = ys) := by
  unfold deq
  simp only [D.py, PyData.eqv]
  exact eqv_all h hx hy
theorem eqF_int : EqF D.int (fun _ => True) := fun x y _ _ => by
  unfold deq
  simp only [D.py, PyData.eqv]
  exact Bool.beq_eq_decide_eq x y
theorem deq_ints (ns ms : List Int) : deq (.lst (ns.map D.int)) (.lst (ms.map D.int)) = decide (ns = ms) := deq_lst eqF_int (fun _ _ => trivial) fun _ _ => trivial
theorem deq_ints_nil (ns : List Int) : deq (.lst (ns.map D.int)) (.lst []) = decide (ns = []) := deq_ints ns []
theorem deq_refl_of {α : Type} [DecidableEq α] {f : α → D} {S : α → Prop} (h : EqF f S) {x : α} (hx : S x) : deq (f x) (f x) = true := by rw [h x x hx hx]; simp
/-! ### small facts -/
theorem atI_nil {α : Type} {i : Int} : atI ([] : List α) i = none := by
  unfold atI ixN
  simp
theorem atI_ofNat {α : Type} {xs : List α} {i : Nat} (h : i < xs.length) : atI xs (i : Int) = some xs[i] := atI_nat (List.getElem?_eq_getElem h)
theorem atI_zero {α : Type} {x : α} {xs : List α} : atI (x :: xs) 0 = some x := atI_nat (j := 0) rfl
theorem ixN_of {n j : Nat} (h : j < n) : ixN n (j : Int) = some j := by
  unfold ixN
  rw [if_pos (by omega), if_pos (by omega)]
  simp
theorem ixN_zero {n : Nat} (h : 0 < n) : ixN n 0 = some 0 := ixN_of h
theorem seqIx_zero {n : Nat} (h : 0 < n) : seqIndex? 0 n = some 0 := by
  unfold seqIndex?
  simp
  omega
theorem own_ex {p : Option Nat} {c : OC} : (∃ q, Sx.own p c = Sx.own q c) = True := eq_true ⟨p, rfl⟩
end DL

set_option Elab.async false
set_option linter.all false
set_option maxRecDepth 100000
set_option maxHeartbeats 2000000
namespace DL
open PySem PySem.Spec PyProof.Rows L2
open Evl (Ex ex_l ex_t)
/-! ### newer than a line -/
/-- a new thing is told to be new -/
def dFr (de : DE) (γ : Env) (q : RS → Env → Prop) : Prop := de γ fun s γ1 => match s with
  | .new c => q (.val (.fr c.data)) γ1
  | _ => False
/-- and that is forgotten -/
def dSt (de : DE) (γ : Env) (q : RS → Env → Prop) : Prop := de γ fun s γ1 => match s with
  | .val (.fr d) => q (.val d) γ1
  | .val d => q (.val d) γ1
  | .new c => q (.new c) γ1
  | .own _ _ => False
theorem se_fr {K : PySem.W.Frag} {B : Bs} {te : TE} {de : DE} (h : SE K B te de) : SE K B te (dFr de) := fun F H σ γ Q q R hq k => by
  refine h F H σ γ _ _ R hq fun v F1 H1 γ1 s R1 e1 o1 h1 => ?_
  cases s with
  | val d => exact h1.elim
  | own j c => exact h1.elim
  | new c =>
    obtain ⟨F2, R2, e2, o2⟩ := o1.fz R1
    obtain ⟨a, rfl, N⟩ := o1
    have nz : ¬ B.z a := fun z => by
      obtain ⟨o, e⟩ := B.zn a z
      rw [N.bn] at e
      cases e
    exact k _ F2 H1 γ1 (.val (.fr c.data)) R2 (e1.trans e2) (Rp.fr nz o2) h1
theorem se_st {K : PySem.W.Frag} {B : Bs} {te : TE} {de : DE} (h : SE K B te de) : SE K B te (dSt de) := fun F H σ γ Q q R hq k => by
  refine h F H σ γ _ _ R hq fun v F1 H1 γ1 s R1 e1 o1 h1 => ?_
  cases s with
  | val d =>
    cases d with
    | fr d =>
      have o1' : Rp (B.kz K) F1 v (.fr d) := o1
      cases o1' with
      | fr n r => exact k _ F1 H1 γ1 (.val d) R1 e1 r h1
    | _ => exact k _ F1 H1 γ1 _ R1 e1 o1 h1
  | own j c => exact h1.elim
  | new c => exact k _ F1 H1 γ1 _ R1 e1 o1 h1
theorem x_fr {X : Cx} {B : Bs} {e : Expr} {te : TE} {de : DE} (h : XE X B e te de) : XE X B e te (dFr de) := ⟨h.pe, se_fr h.se⟩
theorem x_st {X : Cx} {B : Bs} {e : Expr} {te : TE} {de : DE} (h : XE X B e te de) : XE X B e te (dSt de) := ⟨h.pe, se_st h.se⟩
/-- a tuple target in a comprehension -/
theorem g_tupC {X : Cx} {B : Bs} {es : List Expr} {k n : Nat} {pos : Pos} {gs : TGs} {dgs : DGs} {ix : List Nat} (K : PySem.W.Frag) (hK : X.K = K) (hc : X.calm = true) (h : XGs X B es gs dgs ix) (hn : (assignEach es X.env).length = n := by rfl) (hst : (assignEach es X.env).findIdx? (·.1) = none := by rfl) : XG X B (.Tuple es k pos) (gTup K n gs) (gT n dgs) ix := by
  have g := g_tup hc h hn hst (k := k) (pos := pos)
  rw [hK] at g
  exact g
/-- a call in a comprehension -/
theorem x_callC {X : Cx} {B : Bs} {a : Expr} {es : List Expr} {ta : TA} {da : DA} {k n : Nat} {f : Addr} {fd : FuncData} {ps : List Str} {fs : FS} {x : Str} {p pos : Pos} (K : PySem.W.Frag) (hK : X.K = K) (G : FnOk X.prog X.w X.K X.mg X.base CX0 k f fd ps (spOf X.K n fs)) (hr : Room k X.A) (hm : X.mg x = some (.ref f)) (hk : PySem.W.keepIn X.K (.ref f) = true) (hb : Binds X.K fd ps []) (h : XA X B (a :: es) ta da)
    (hg : Gl X x := by rfl) (hdb : (x == ("__debug__" : Str)) = false := by decide) (he : starEach (a :: es) X.env = (false, eval a X.env) :: starEach es X.env := by rfl) (hpl : (backTo pos (starEach es X.env)).any (·.1) = false := by rfl) :
    XE X B (.Call (.Name x p) (a :: es) [] pos) (tCall (spOf K n fs) [] E0 ta) (dCall n fs [] da) := by
  have g := x_call (p := p) (pos := pos) G hr hm hk hb h hg hdb he hpl
  rw [hK] at g
  exact g
mutual
/-- no mark of newness in it -/
def D.nofr : D → Bool
  | .fr _ => false
  | .lst xs => nofrAll xs | .tup xs => nofrAll xs | .obj _ fs => nofrF fs | .dct ks => nofrK ks
  | _ => true
def nofrAll : List D → Bool
  | [] => true
  | x :: xs => x.nofr && nofrAll xs
def nofrF : List (Str × D) → Bool
  | [] => true
  | (_, x) :: xs => x.nofr && nofrF xs
def nofrK : List (Key × D) → Bool
  | [] => true
  | (_, x) :: xs => x.nofr && nofrK xs
end
section
variable {K : PySem.W.Frag} {B : Bs} {z z' : Addr → Prop} {F : Hp}
mutual
theorem Rp.line : ∀ {v : V} {d : D}, Rp ⟨K, z⟩ F v d → d.nofr = true → Rp ⟨K, z'⟩ F v d
  | _, _, .non, _ => .non
  | _, _, .bl b, _ => .bl b
  | _, _, .int b, _ => .int b
  | _, _, .str b, _ => .str b
  | _, _, .ref b, _ => .ref b
  | _, _, .ty b, _ => .ty b
  | _, _, .kls b, _ => .kls b
  | _, _, .lst h a, n => .lst h (RpAll.line a n)
  | _, _, .scr h, _ => .scr h
  | _, _, .tup h a, n => .tup h (RpAll.line a n)
  | _, _, .obj h1 h2 a, n => .obj h1 h2 (RpFs.line a n)
  | _, _, .dct h1 a, n => .dct h1 (RpKs.line a n)
theorem RpAll.line : ∀ {v : List V} {d : List D}, RpAll ⟨K, z⟩ F v d → nofrAll d = true → RpAll ⟨K, z'⟩ F v d
  | _, _, .nil, _ => .nil
  | _, _, .cons h t, n => .cons (Rp.line h (Bool.and_eq_true_iff.mp n).1) (RpAll.line t (Bool.and_eq_true_iff.mp n).2)
theorem RpFs.line : ∀ {v : List (Str × V)} {d : List (Str × D)}, RpFs ⟨K, z⟩ F v d → nofrF d = true → RpFs ⟨K, z'⟩ F v d
  | _, _, .nil, _ => .nil
  | _, _, .cons h t, n => .cons (Rp.line h (Bool.and_eq_true_iff.mp n).1) (RpFs.line t (Bool.and_eq_true_iff.mp n).2)
theorem RpKs.line : ∀ {v : List (Key × V)} {d : List (Key × D)}, RpKs ⟨K, z⟩ F v d → nofrK d = true → RpKs ⟨K, z'⟩ F v d
  | _, _, .nil, _ => .nil
  | _, _, .cons h t, n => .cons (Rp.line h (Bool.and_eq_true_iff.mp n).1) (RpKs.line t (Bool.and_eq_true_iff.mp n).2)
end
end
def flatAll : List D → Prop
  | [] => True
  | x :: xs => flatD x ∧ flatAll xs
theorem flat_rp {K K' : KZ} {F F' : Hp} : ∀ {vs : List V} {ds : List D}, RpAll K F vs ds → flatAll ds → RpAll K' F' vs ds
  | _, _, .nil, _ => .nil
  | _, _, .cons h t, ⟨a, b⟩ => .cons (by
    cases h with
    | non => exact .non
    | bl b => exact .bl b
    | int i => exact .int i
    | str x => exact .str x
    | _ => exact a.elim) (flat_rp t b)
theorem flat_ints : ∀ ns : List Int, flatAll (ns.map D.int)
  | [] => trivial
  | _ :: ns => ⟨trivial, flat_ints ns⟩
/-- f(..) behind a line: a list of flat things that is newer is the caller's -/
def meltR : RS → (List D → Prop) → Prop
  | .val (.fr (.lst ds)), q => q ds
  | .new (.lst ds), q => q ds
  | _, _ => False
def dCallZ (n : Nat) (fs : FS) (da : DA) (γ : Env) (q : RS → Env → Prop) : Prop := da γ fun rs γ1 => allV rs ∧ rs.length = n ∧ nofrAll (rs.map RS.data) = true ∧ fs ((rs.map RS.data).map Sx.val) fun r _ => meltR r fun ds => flatAll ds ∧ q (.new (.lst ds)) γ1
theorem se_callZ {K : PySem.W.Frag} {B : Bs} {n : Nat} {fs : FS} {E : XK} {ta : TA} {da : DA} (h : SA K B ta da) : SE K B (tCall (spOf K n fs) [] E ta) (dCallZ n fs da) := fun F H σ γ Q q R hq k => by
  refine h F H σ γ _ _ R hq fun vs F1 H1 γ1 rs R1 e1 o1 ⟨h0, h2, hn, h3⟩ => ?_
  have ra := allV_rp o1 h0
  let Z : ZN H1 := ⟨fun a => ∃ o, H1 a = some o, fun _ h => h⟩
  have ra' : RpAll ⟨K, Z.1⟩ F1 vs (rs.map RS.data) := ra.line hn
  have RE : Rep K (entry F1 H1 [] Z (vs ++ [])) F1 H1 ((vs ++ []).map some) ((rs.map RS.data).map Sx.val) := by
    have none : ∀ {i : Nat} {p : Option Nat} {c : OC}, ((rs.map RS.data).map Sx.val)[i]? ≠ some (.own p c) := fun {i p c} h => by
      rw [List.getElem?_map] at h
      cases q : (rs.map RS.data)[i]? with
      | none => rw [q] at h; cases h
      | some d => rw [q] at h; cases h
    rw [List.append_nil]
    refine ⟨R1.fh, by rw [List.length_map, List.length_map, P_len ra'.p], fun i s t hs hg => ?_, fun i j a p c q c' h1 => absurd h1 none, fun b o e => ⟨fun _ => e, o, e⟩, Evl.Ex.refl F1, fun b o _ _ => rfl, fun i a p c h1 => absurd h1 none, fun i a p c h1 => absurd h1 none, fun b o e => ⟨o, e⟩, fun a o e => ⟨o, e, .refl o⟩⟩
    rw [List.getElem?_map] at hs hg
    cases q : (rs.map RS.data)[i]? with
    | none => rw [q] at hg; cases hg
    | some d =>
      rw [q] at hg
      cases hg
      obtain ⟨v, hv, r⟩ := P_get ra'.p q
      rw [hv] at hs
      exact ⟨v, (Option.some.inj hs).symm, r⟩
  refine ⟨by rw [List.append_nil, P_len o1]; exact h2, F1, [], Z, _, _, RE, h3, fun r as' v F3 H3 hp R3 ok hk => ?_⟩
  have eH : Ex H1 H3 := fun b o e => (R3.b1 b o e).1 (by simp [entry])
  have fin : ∀ {a : Addr} {ws : List V} {ds : List D} {K' : KZ} {F' : Hp}, H1 a = none → H3 a = some (.lst ws) → RpAll K' F' ws ds → flatAll ds → v = .ref a → q (.new (.lst ds)) γ1 → Q v H3 := fun {a ws ds K' F'} ha hl hr hf hv hq => by
    obtain ⟨f1, f2, f3, f4⟩ := R1.fresh ha
    exact k v F1 H3 γ1 (.new (.lst ds)) (R1.grow eH) e1 ⟨a, hv, f1, ⟨ws, hl, flat_rp hr hf⟩, f3, .inr f2, f4⟩ hq
  have nz : ∀ {a : Addr}, ¬ Z.1 a → H1 a = none := fun {a} h => by
    cases e : H1 a with
    | none => rfl
    | some o => exact absurd ⟨o, e⟩ h
  unfold meltR at hp
  split at hp
  · rename_i ds
    have ok' : Rp ⟨K, Z.1⟩ F3 v (.fr (.lst ds)) := ok
    cases ok' with
    | fr nzr r => cases r with
      | lst hl hr => exact fin (nz nzr) (R3.fh _ _ hl) hr hp.1 rfl hp.2
  · rename_i ds
    obtain ⟨a, ea, N⟩ := ok
    obtain ⟨ws, hl, hr⟩ := N.ok
    exact fin N.bn hl hr hp.1 ea hp.2
  · exact hp.elim
section
variable {X : Cx} {B : Bs} {a : Expr} {es : List Expr} {ta : TA} {da : DA} {k n : Nat} {f : Addr} {fd : FuncData} {ps : List Str} {fs : FS} {x : Str} {p pos : Pos}
theorem x_callZ (G : FnOk X.prog X.w X.K X.mg X.base CX0 k f fd ps (spOf X.K n fs)) (hr : Room k X.A) (hm : X.mg x = some (.ref f)) (hk : PySem.W.keepIn X.K (.ref f) = true) (hb : Binds X.K fd ps []) (h : XA X B (a :: es) ta da)
    (hg : Gl X x := by rfl) (hdb : (x == ("__debug__" : Str)) = false := by decide) (he : starEach (a :: es) X.env = (false, eval a X.env) :: starEach es X.env := by rfl) (hpl : (backTo pos (starEach es X.env)).any (·.1) = false := by rfl) :
    XE X B (.Call (.Name x p) (a :: es) [] pos) (tCall (spOf X.K n fs) [] E0 ta) (dCallZ n fs da) := ⟨pe_call G hr hg hm hk hb .nil pass0 h.pa hdb he hpl, se_callZ h.sa⟩
end
/-! ### small facts for simp -/
theorem ixN_s0 {n : Nat} : ixN (n + 1) 0 = some 0 := ixN_zero (Nat.succ_pos n)
theorem seqIx_s0 {n : Nat} : seqIndex? 0 (n + 1) = some 0 := seqIx_zero (Nat.succ_pos n)
theorem divW {i j : Int} (h : 0 < j) (h2 : j < 2 ^ 40) : CDivW i j := by
  refine ⟨h, Nat.lt_trans ((Nat.log2_lt (by omega)).mpr (show j.natAbs < 2 ^ 40 by omega)) (by decide)⟩
/-! ### loops, their bodies unread -/
def LcOk (n : Nat) (y : Nat → D → Prop) (γ1 : Env) (dg : DG) (dt : DT) (de : DE) (vs : List Nat) (q : RS → Env → Prop) : Prop := n ≤ 1000000 ∧ ∃ I : Nat → List D → Env → Prop, I 0 [] (wipeG γ1 vs) ∧
  (∀ i acc γ2, i < n → I i acc γ2 → ∀ x, y i x → dg x γ2 fun γ3 => dt γ3 fun b γ4 => (b = true → de γ4 fun s γ5 => s.kept ∧ I (i + 1) (acc ++ [s.data]) (wipeG γ5 vs)) ∧ (b = false → I (i + 1) acc (wipeG γ4 vs))) ∧
  ∀ acc γ2, I n acc γ2 → q (.new (.lst acc)) (restore γ1 γ2 vs)
theorem dLc_eq {di : DI} {dg : DG} {dt : DT} {de : DE} {vs : List Nat} {γ : Env} {q : RS → Env → Prop} : dLc di dg dt de vs γ q = di γ fun n y γ1 => LcOk n y γ1 dg dt de vs q := rfl
theorem lc_ok {n : Nat} {y : Nat → D → Prop} {γ1 : Env} {dg : DG} {dt : DT} {de : DE} {vs : List Nat} {q : RS → Env → Prop} (hn : n ≤ 1000000) (I : Nat → List D → Env → Prop) (h0 : I 0 [] (wipeG γ1 vs))
    (hs : ∀ i acc γ2, i < n → I i acc γ2 → ∀ x, y i x → dg x γ2 fun γ3 => dt γ3 fun b γ4 => (b = true → de γ4 fun s γ5 => s.kept ∧ I (i + 1) (acc ++ [s.data]) (wipeG γ5 vs)) ∧ (b = false → I (i + 1) acc (wipeG γ4 vs)))
    (hf : ∀ acc γ2, I n acc γ2 → q (.new (.lst acc)) (restore γ1 γ2 vs)) : LcOk n y γ1 dg dt de vs q := ⟨hn, I, h0, hs, hf⟩
/-- every turn tells f i -/
theorem lc_map {n : Nat} {y : Nat → D → Prop} {γ1 : Env} {dg : DG} {dt : DT} {de : DE} {vs : List Nat} {q : RS → Env → Prop} (hn : n ≤ 1000000) (f : Nat → D) (G : Env)
    (h0 : wipeG γ1 vs = G) (hs : ∀ i x, i < n → y i x → dg x G fun γ3 => dt γ3 fun b γ4 => b = true ∧ de γ4 fun s γ5 => s.kept ∧ s.data = f i ∧ wipeG γ5 vs = G) (mg : ∀ {x γ a b}, (∀ γ3, a γ3 → b γ3) → dg x γ a → dg x γ b) (mt : ∀ {γ} {a b : Bool → Env → Prop}, (∀ u v, a u v → b u v) → dt γ a → dt γ b) (me : ∀ {γ} {a b : RS → Env → Prop}, (∀ u v, a u v → b u v) → de γ a → de γ b)
    (hf : q (.new (.lst ((List.range n).map f))) (restore γ1 G vs)) : LcOk n y γ1 dg dt de vs q :=
  lc_ok hn (fun i acc γ => acc = (List.range i).map f ∧ γ = G) ⟨rfl, h0⟩ (fun i acc γ hi ⟨e1, e2⟩ x hx => by
    subst e1; subst e2
    refine mg (fun γ3 => mt fun b γ4 ⟨hb, h⟩ => ⟨fun _ => me (fun s γ5 ⟨k1, k2, k3⟩ => ⟨k1, ?_, k3⟩) h, fun z => by rw [hb] at z; cases z⟩) (hs i x hi hx)
    rw [List.range_succ, List.map_append, k2]
    rfl) fun acc γ ⟨e1, e2⟩ => by subst e1; subst e2; exact hf
def ForOk (n : Nat) (y : Nat → D → Prop) (γ1 : Env) (dg : DG) (db : DS) (d : DEnds) : Prop := ∃ I : Nat → Env → Prop, I 0 γ1 ∧
  (∀ i γ2, i < n → I i γ2 → ∀ x, y i x → dg x γ2 fun γ3 => db { nx := I (i + 1), ct := I (i + 1), bk := d.nx, rt := d.rt } γ3) ∧ ∀ γ2, I n γ2 → d.nx γ2
theorem dFor_eq {di : DI} {dg : DG} {db : DS} {d : DEnds} {γ : Env} : dFor di dg db d γ = di γ fun n y γ1 => ForOk n y γ1 dg db d := rfl
theorem for_ok {n : Nat} {y : Nat → D → Prop} {γ1 : Env} {dg : DG} {db : DS} {d : DEnds} (I : Nat → Env → Prop) (h0 : I 0 γ1)
    (hs : ∀ i γ2, i < n → I i γ2 → ∀ x, y i x → dg x γ2 fun γ3 => db { nx := I (i + 1), ct := I (i + 1), bk := d.nx, rt := d.rt } γ3) (hf : ∀ γ2, I n γ2 → d.nx γ2) : ForOk n y γ1 dg db d := ⟨I, h0, hs, hf⟩
def WhileOk (γ : Env) (dt : DT) (db : DS) (d : DEnds) : Prop := ∃ I : Nat → Env → Prop, (∃ m, I m γ) ∧ ∀ m γ2, I m γ2 → dt γ2 fun b γ3 =>
  (b = true → db { nx := fun γ4 => ∃ m', m' < m ∧ I m' γ4, ct := fun γ4 => ∃ m', m' < m ∧ I m' γ4, bk := d.nx, rt := d.rt } γ3) ∧ (b = false → d.nx γ3)
theorem dWhile_eq {dt : DT} {db : DS} {d : DEnds} {γ : Env} : dWhile dt db d γ = WhileOk γ dt db d := rfl
theorem while_ok {dt : DT} {db : DS} {d : DEnds} {γ : Env} (I : Nat → Env → Prop) (m : Nat) (h0 : I m γ) (hs : ∀ m γ2, I m γ2 → dt γ2 fun b γ3 =>
    (b = true → db { nx := fun γ4 => ∃ m', m' < m ∧ I m' γ4, ct := fun γ4 => ∃ m', m' < m ∧ I m' γ4, bk := d.nx, rt := d.rt } γ3) ∧ (b = false → d.nx γ3)) : WhileOk γ dt db d := ⟨I, ⟨m, h0⟩, hs⟩
theorem rg_snoc {α : Type} {f : Nat → α} {i : Nat} {x : α} : (List.range i).map f ++ [x] = (List.range (i + 1)).map f ↔ x = f i := by
  rw [List.range_succ, List.map_append]
  simp
theorem cut_to {α : Type} {xs : List α} {k : Int} (h : 0 ≤ k) : cut xs none (some k) = xs.take k.toNat := by
  unfold cut
  rw [HT.sIx_none, show k = ((k.toNat : Nat) : Int) by omega, HT.sIx_nat, List.drop_zero, Nat.sub_zero, Int.toNat_natCast, List.take_eq_take_iff]
  omega
theorem cut_from {α : Type} {xs : List α} {k : Int} (h : 0 ≤ k) : cut xs (some k) none = xs.drop k.toNat := by
  unfold cut
  rw [HT.sIx_none, show k = ((k.toNat : Nat) : Int) by omega, HT.sIx_nat, Int.toNat_natCast]
  by_cases c : k.toNat ≤ xs.length
  · rw [Nat.min_eq_left c, List.take_of_length_le (by rw [List.length_drop]; omega)]
  · rw [Nat.min_eq_right (by omega), List.drop_of_length_le (Nat.le_refl _), List.drop_of_length_le (by omega), List.take_nil]
theorem map_snoc {α β : Type} {f : α → β} {xs : List α} {x : α} : xs.map f ++ [f x] = (xs ++ [x]).map f := by simp
end DL

set_option Elab.async false
set_option linter.all false
set_option maxRecDepth 100000
set_option maxHeartbeats 2000000
namespace DL
open PySem PySem.Spec PyProof.Rows L2
open Evl (Ex ex_l ex_t)
/-! ### what is raised: the class by its name, the fields -/
abbrev Xf := Option (List (Str × D))
abbrev DX := Nat → Xf → Env → Prop
abbrev FSX := List Sx → (RS → List Sx → Prop) → (Nat → Xf → List Sx → Prop) → Prop
def XdOk (K : PySem.W.Frag) (B : Bs) (F : Hp) : Option Addr → Xf → Prop
  | none, none => True
  | some d, some l => ∃ fv, F d = some (.xd fv) ∧ RpFs (B.kz K) F fv l
  | _, _ => False
theorem XdOk.mono {K : PySem.W.Frag} {B : Bs} {F F' : Hp} {dd : Option Addr} {fs : Xf} (h : XdOk K B F dd fs) (e : Ex F F') : XdOk K B F' dd fs := by
  unfold XdOk at h ⊢
  split at h
  · trivial
  · obtain ⟨fv, h1, h2⟩ := h
    exact ⟨fv, e _ _ h1, h2.mono e⟩
  · exact h.elim
def XOk (K : PySem.W.Frag) (ct : Nat → Addr) (B : Bs) (W : WX) (xc : DX) : Prop := ∀ F' H' σ' γ' nm dd fs, Rep K B F' H' σ' γ' → XdOk K B F' dd fs → xc nm fs γ' → W (.ref (ct nm)) dd σ' H'
def spOfX (K : PySem.W.Frag) (ct : Nat → Addr) (n : Nat) (fs : FSX) : Sp := fun vs H Q E => vs.length = n ∧ ∃ F m, ∃ z : ZN H, ∃ as p x, Rep K (entry F H m z vs) F H (vs.map some) as ∧ fs as p x ∧
  (∀ r as' v F' H', p r as' → Rep K (entry F H m z vs) F' H' (vs.map some) as' → RsOk K (entry F H m z vs) F' H' (vs.map some) as' v r → r.kept → Q v H') ∧
  ∀ nm xs dd as' F' H', x nm xs as' → Rep K (entry F H m z vs) F' H' (vs.map some) as' → XdOk K (entry F H m z vs) F' dd xs → E (.ref (ct nm)) dd H'
def xcOf (as : List Sx) (x : Nat → Xf → List Sx → Prop) : DX := fun nm xs γ => OutP as γ fun zs => x nm xs zs
section
variable {P : Program} {w : World} {K : PySem.W.Frag} {mg : Str → Option Value} {base : Heap} {ct : Nat → Addr}
theorem fn_cx {x qual : Str} {st : Stmt} {f : Addr} {fd : FuncData} {N ps : List Str} {k : Nat} {sp : Sp} (F : Fun K x qual st f fd) (S : FnScope N ps (defScope st)) (len : ∀ vs H Q E, sp vs H Q E → vs.length = ps.length)
    (body : ∀ (cd : Value) (A : Around) (o : List PySem.Env) (s : Shared) (H : Hp) (vs : List V) (Q : VK) (E : XK), Room k (A.deeper (envOfC qual (defScope st) s.heap.objs.size f cd)) → sp vs H Q E →
      ∃ t, PSs (cxOf (L2N.CX P w) P w K mg base N qual (defScope st) f cd A o s H E) (defBody st) t ∧ t { nx := fun _ H' => Q .non H', rt := Q } (L2.start N vs) H) : FnOk P w K mg base (L2N.CX P w) (k + 1) f fd ps sp := by
  obtain ⟨_, _, _, _, _, _, cd, _, _, e, lk, hc⟩ := F.ex
  subst e
  exact fn_of lk hc S len fun A o s H vs Q E r h => body cd A o s H vs Q E r h
/-- a def that may raise -/
theorem fn_okX {x qual : Str} {st : Stmt} {f : Addr} {fd : FuncData} {N ps : List Str} {k n : Nat} {fs : FSX} {ds : DX → DS} (F : Fun K x qual st f fd) (S : FnScope N ps (defScope st)) (hn : ps.length = n) (hN : n ≤ N.length)
    (body : ∀ (B : Bs) (W : WX) (xc : DX) (cdv : Value) (A : Around) (outer : List PySem.Env) (s : Shared) (H : Hp) (E : XK), Room k (A.deeper (envOfC qual (defScope st) s.heap.objs.size f cdv)) → XOk K ct B W xc →
      L2N.Takes (cxOf (L2N.CX P w) P w K mg base N qual (defScope st) f cdv A outer s H E) W → ∃ ts, XSs (cxOf (L2N.CX P w) P w K mg base N qual (defScope st) f cdv A outer s H E) B (defBody st) ts (ds xc))
    (h : ∀ as p x, as.length = n → fs as p x → ds (xcOf as x) (endsOf as p) (startG N.length as)) : FnOk P w K mg base (L2N.CX P w) (k + 1) f fd ps (spOfX K ct n fs) := by
  refine fn_cx F S (fun vs H Q E h => h.1.trans hn.symm) fun cdv A outer s H vs Q E hr hsp => ?_
  obtain ⟨hl, F0, m, z, as, p, x, R0, hf, hq, he⟩ := hsp
  have ha : as.length = n := by have := R0.len; rw [List.length_map] at this; omega
  have xo : XOk K ct (entry F0 H m z vs) (fun cls d _ H => E cls d H) (xcOf as x) := fun F' H' σ' γ' nm dd xs R' xd h1 => by
    obtain ⟨zs, ho, hp⟩ := outP h1
    exact he nm xs dd zs F' H' hp (R0.outs R' ho) xd
  obtain ⟨ts, b⟩ := body (entry F0 H m z vs) _ _ cdv A outer s H E hr xo (L2N.takes_of rfl rfl rfl rfl)
  refine ⟨ts, b.ps, ?_⟩
  refine b.ss F0 H _ _ _ (endsOf as p) (R0.start (by rw [hl]; exact hN)) (h as p x ha hf) ⟨fun F' H' σ' γ' R' _ h1 => ?_, fun F' H' σ' γ' v r R' _ o ⟨hk, h1⟩ => ?_, fun _ _ _ _ _ _ z => z, fun _ _ _ _ _ _ z => z⟩
  · obtain ⟨zs, ho, hp⟩ := outP h1
    exact hq (.val .non) zs .non F' H' hp (R0.outs R' ho) .non trivial
  · obtain ⟨zs, ho, hp⟩ := outP h1
    have R2 := R0.outs R' ho
    refine hq r zs v F' H' hp R2 ?_ hk
    cases r with
    | val d => exact o
    | own j c => exact hk.elim
    | new c =>
      obtain ⟨a, rfl, N⟩ := o
      refine ⟨a, rfl, N.fa, N.ok, N.bn, N.bm, fun i p' c' h1 h2 => ?_⟩
      obtain ⟨_, ok⟩ := R2.ownObj h1 h2
      have e1 : H a = none := N.bn
      obtain ⟨_, h3⟩ := outs_get ho
      rcases h3 i _ h1 with ⟨p2, c0, c2, e2, _, _⟩ | ⟨_, n2⟩
      · obtain ⟨_, ok2⟩ := R0.ownObj e2 h2
        obtain ⟨o, ho, _⟩ := ok2.obj
        rw [e1] at ho; cases ho
      · exact n2 p' c' rfl
end

theorem takesN {X : Cx} : L2N.Takes X (fun _ _ _ _ => False) := fun _ _ ⟨_, _, _, _, _, _, _, _, _, _, _, _, _, _, _, _, h⟩ => h.elim
theorem passN {X : Cx} : Passes (L2N.CX X.prog X.w) X E0 := fun _ _ _ _ _ _ _ ⟨_, _, _, _, _, _, _, _, _, _, _, _, h⟩ => h.elim
/-! ### calls that may raise -/
def dCallX (xc : DX) (n : Nat) (fs : FSX) (dds : List D) (da : DA) (γ : Env) (q : RS → Env → Prop) : Prop := da γ fun rs γ1 => (ownIx rs).Nodup ∧ rs.length + dds.length = n ∧
  fs (argsOf 0 rs ++ dds.map Sx.val) (fun r as' => q r (upds γ1 rs as')) fun nm xs as' => xc nm xs (upds γ1 rs as')
section
variable {K : PySem.W.Frag} {B : Bs} {ct : Nat → Addr}
theorem call_core {n : Nat} {fs : FSX} {dvs : List V} {dds : List D} {W : XK} {xc : DX} {F H : Hp} {σ : L2.St} {γ : Env} {vs : List V} {rs : List RS} {Q : VK} {q : RS → Env → Prop} (od : Paired (fun v d => ∀ z F, Rp ⟨K, z⟩ F v d) dvs dds) (R1 : Rep K B F H σ γ) (o1 : Paired (RsOk K B F H σ γ) vs rs)
    (xo : ∀ F' H' γ' nm dd fs, Rep K B F' H' σ γ' → XdOk K B F' dd fs → xc nm fs γ' → W (.ref (ct nm)) dd H') (h1 : (ownIx rs).Nodup) (h2 : rs.length + dds.length = n)
    (h3 : fs (argsOf 0 rs ++ dds.map Sx.val) (fun r as' => q r (upds γ rs as')) fun nm xs as' => xc nm xs (upds γ rs as')) (k : ∀ v F' H' γ' s, Rep K B F' H' σ γ' → Ex F F' → RsOk K B F' H' σ γ' v s → q s γ' → Q v H') : spOfX K ct n fs (vs ++ dvs) H Q W := by
  obtain ⟨m, hm, RE⟩ := R1.args o1 od h1
  have hw : ∀ (i : Nat) v, vs[i]? = some v → (vs ++ dvs)[i]? = some v := fun i v hv => by rw [List.getElem?_append_left (List.getElem?_eq_some_iff.mp hv).1]; exact hv
  refine ⟨by rw [List.length_append, P_len o1, P_len od]; exact h2, F, m, _, _, _, _, RE, h3, fun r as' v F2 H2 hp R2 ok hk => ?_, fun nm xs dd as' F2 H2 hx R2 xd => ?_⟩
  · obtain ⟨R3, e3, ok3⟩ := R1.called o1 h1 hw hm R2
    exact k v F2 H2 _ r R3 e3 (ok3 v r hk ok) hp
  · obtain ⟨R3, e3, ok3⟩ := R1.called o1 h1 hw hm R2
    exact xo F2 H2 _ nm dd xs R3 xd hx
theorem se_callX {n : Nat} {fs : FSX} {dvs : List V} {dds : List D} {W : WX} {xc : DX} {ta : TA} {da : DA} (h : SA K B ta da) (od : Paired (fun v d => ∀ z F, Rp ⟨K, z⟩ F v d) dvs dds) (xo : XOk K ct B W xc) : SE K B (tCallSD (spOfX K ct n fs) dvs (WE W) ta) (dCallX xc n fs dds da) := fun F H σ γ Q q R hq k => by
  refine h F H σ γ _ _ R hq fun vs F1 H1 γ1 rs R1 e1 o1 ⟨h1, h2, h3⟩ => ?_
  exact call_core (W := WE W σ) od R1 o1 (fun F' H' γ' nm dd fs R' xd hx => xo F' H' σ γ' nm dd fs R' xd hx) h1 h2 h3 fun v F' H' γ' s R' e' o' hq => k v F' H' γ' s R' (e1.trans e') o' hq
/-- where nothing is raised -/
theorem se_callN {n : Nat} {fs : FSX} {dvs : List V} {dds : List D} {ta : TA} {da : DA} (h : SA K B ta da) (od : Paired (fun v d => ∀ z F, Rp ⟨K, z⟩ F v d) dvs dds) : SE K B (tCall (spOfX K ct n fs) dvs E0 ta) (dCallX (fun _ _ _ => False) n fs dds da) := fun F H σ γ Q q R hq k => by
  refine h F H σ γ _ _ R hq fun vs F1 H1 γ1 rs R1 e1 o1 ⟨h1, h2, h3⟩ => ?_
  exact call_core (W := E0) od R1 o1 (fun F' H' γ' nm dd fs R' xd hx => hx) h1 h2 h3 fun v F' H' γ' s R' e' o' hq => k v F' H' γ' s R' (e1.trans e') o' hq
end
section
variable {X : Cx} {B : Bs} {ct : Nat → Addr} {a : Expr} {es : List Expr} {ta : TA} {da : DA} {k n : Nat} {f : Addr} {fd : FuncData} {ps : List Str} {fs : FSX} {x : Str} {p pos : Pos} {W : WX} {xc : DX}
theorem x_callX (xo : XOk X.K ct B W xc) (tk : L2N.Takes X W) (G : FnOk X.prog X.w X.K X.mg X.base (L2N.CX X.prog X.w) k f fd ps (spOfX X.K ct n fs)) (hr : Room k X.A) (hm : X.mg x = some (.ref f)) (hk : PySem.W.keepIn X.K (.ref f) = true) (hb : Binds X.K fd ps []) (h : XA X B (a :: es) ta da)
    (hg : Gl X x := by rfl) (hdb : (x == ("__debug__" : Str)) = false := by decide) (he : starEach (a :: es) X.env = (false, eval a X.env) :: starEach es X.env := by rfl) (hpl : (backTo pos (starEach es X.env)).any (·.1) = false := by rfl) :
    XE X B (.Call (.Name x p) (a :: es) [] pos) (tCallSD (spOfX X.K ct n fs) [] (WE W) ta) (dCallX xc n fs [] da) := ⟨pe_callSD G hr hg hm hk hb .nil (fun σ => L2N.passAt tk σ) h.pa hdb he hpl, se_callX h.sa .nil xo⟩
theorem x_callN (G : FnOk X.prog X.w X.K X.mg X.base (L2N.CX X.prog X.w) k f fd ps (spOfX X.K ct n fs)) (hr : Room k X.A) (hm : X.mg x = some (.ref f)) (hk : PySem.W.keepIn X.K (.ref f) = true) (hb : Binds X.K fd ps []) (h : XA X B (a :: es) ta da)
    (hg : Gl X x := by rfl) (hdb : (x == ("__debug__" : Str)) = false := by decide) (he : starEach (a :: es) X.env = (false, eval a X.env) :: starEach es X.env := by rfl) (hpl : (backTo pos (starEach es X.env)).any (·.1) = false := by rfl) :
    XE X B (.Call (.Name x p) (a :: es) [] pos) (tCall (spOfX X.K ct n fs) [] E0 ta) (dCallX (fun _ _ _ => False) n fs [] da) := ⟨pe_call G hr hg hm hk hb .nil passN h.pa hdb he hpl, se_callN h.sa .nil⟩
end
section
variable {X : Cx} {B : Bs} {ct : Nat → Addr} {a : Expr} {es : List Expr} {ta : TA} {da : DA} {k n : Nat} {f : Addr} {fd : FuncData} {ps : List Str} {fs : FSX} {x : Str} {p pos : Pos} {W : WX} {xc : DX}
theorem x_callXC (K : PySem.W.Frag) (hK : X.K = K) (xo : XOk X.K ct B W xc) (tk : L2N.Takes X W) (G : FnOk X.prog X.w X.K X.mg X.base (L2N.CX X.prog X.w) k f fd ps (spOfX X.K ct n fs)) (hr : Room k X.A) (hm : X.mg x = some (.ref f)) (hk : PySem.W.keepIn X.K (.ref f) = true) (hb : Binds X.K fd ps []) (h : XA X B (a :: es) ta da)
    (hg : Gl X x := by rfl) (hdb : (x == ("__debug__" : Str)) = false := by decide) (he : starEach (a :: es) X.env = (false, eval a X.env) :: starEach es X.env := by rfl) (hpl : (backTo pos (starEach es X.env)).any (·.1) = false := by rfl) :
    XE X B (.Call (.Name x p) (a :: es) [] pos) (tCallSD (spOfX K ct n fs) [] (WE W) ta) (dCallX xc n fs [] da) := by
  have g := x_callX (p := p) (pos := pos) xo tk G hr hm hk hb h hg hdb he hpl
  rw [hK] at g
  exact g
theorem x_callNC (K : PySem.W.Frag) (hK : X.K = K) (G : FnOk X.prog X.w X.K X.mg X.base (L2N.CX X.prog X.w) k f fd ps (spOfX X.K ct n fs)) (hr : Room k X.A) (hm : X.mg x = some (.ref f)) (hk : PySem.W.keepIn X.K (.ref f) = true) (hb : Binds X.K fd ps []) (h : XA X B (a :: es) ta da)
    (hg : Gl X x := by rfl) (hdb : (x == ("__debug__" : Str)) = false := by decide) (he : starEach (a :: es) X.env = (false, eval a X.env) :: starEach es X.env := by rfl) (hpl : (backTo pos (starEach es X.env)).any (·.1) = false := by rfl) :
    XE X B (.Call (.Name x p) (a :: es) [] pos) (tCall (spOfX K ct n fs) [] E0 ta) (dCallX (fun _ _ _ => False) n fs [] da) := by
  have g := x_callN (p := p) (pos := pos) G hr hm hk hb h hg hdb he hpl
  rw [hK] at g
  exact g
end
end DL

set_option Elab.async false
set_option linter.all false
set_option maxRecDepth 100000
set_option maxHeartbeats 2000000
namespace DL
open PySem PySem.Spec PyProof.Rows L2
open Evl (Ex ex_l ex_t)
/-! ### raise C(..), C's __init__ keeping one or two fields -/
def spI1 (K : PySem.W.Frag) (f : Str) : Sp := fun vs H Q _ => ∃ (a C : Addr) (y : V), vs = [.ref a, y] ∧ OexC K C ∧ PySem.W.findIn K (.ref C) f = some none ∧ H a = some (exo a C none) ∧
  ∀ dx, H dx = none → dx ≠ a → Q .non (upd (upd H dx (exd dx [(f, y)])) a (exo a C (some dx)))
def spI2 (K : PySem.W.Frag) (f g : Str) : Sp := fun vs H Q _ => ∃ (a C : Addr) (y z : V), vs = [.ref a, y, z] ∧ OexC K C ∧ PySem.W.findIn K (.ref C) f = some none ∧ PySem.W.findIn K (.ref C) g = some none ∧ H a = some (exo a C none) ∧
  ∀ dx, H dx = none → dx ≠ a → Q .non (upd (upd (upd H dx (exd dx [(f, y)])) a (exo a C (some dx))) dx (exd dx [(g, z), (f, y)]))
/-- C(e, ..) outside a suite: an error whose context is None -/
theorem mk_err {X : Cx} {e : Expr} {es : List Expr} {ta : TA} {p pos : Pos} {CX : CXT} {x : Str} {C fI : Addr} {k : Nat} {fd : FuncData} {ps : List Str} {sp : Sp} {ds : List Value} {dvs : List V} (T : OexC X.K C) (iC : PySem.W.findIn X.K (.ref C) "__init__" = some (some (.ref fI))) (tI : PySem.W.typeIn X.K (.ref fI) = some (.type "function"))
    (G : FnOk X.prog X.w X.K X.mg X.base CX k fI fd ps sp) (hr : Room (k + 1) X.A) (hb : Binds X.K fd ps ds) (hd : Vals dvs ds) (hx : Passes CX X (fun _ _ _ => False)) (hg : Gl X x) (hm : X.mg x = some (.ref C)) (ha : PA X (e :: es) ta)
    (hdb : (x == ("__debug__" : Str)) = false := by decide) (he : starEach (e :: es) X.env = (false, eval e X.env) :: starEach es X.env := by rfl) (hpl : (backTo pos (starEach es X.env)).any (·.1) = false := by rfl) : L2N.PMk X (.Call (.Name x p) (e :: es) [] pos) (tMkO C sp dvs ta) := fun pins s σ H Q I h => by
  obtain ⟨_, _, _, _, bm, _, _, _, _, _, _, _, _, _, _, lC, tail⟩ := T.cls
  refine wpAny_Call_Name_kw (ld_glob I hg hm ?_ hdb)
  refine PySem.W.callWith_K (h₀ := X.base) I.ok.mod.kin T.kC (thn (ha.run pos pins s σ H _ I h) fun us s1 ⟨vs, H1, J, rv, hz, q⟩ => ⟨J.kIn, ?_⟩) he hpl
  show wpAny _ _ (call (.ref C) us) _ _ _
  obtain ⟨h0, g, dr, tk, os⟩ := s1
  let n := h0.objs.size
  have fresh : n ≤ n + 1 := Nat.le_succ _
  have pr := q (n + 1) (J.hok.fresh fresh)
  have kp : ∀ b o, h0.get? b = some o → ((h0.push (PySem.W.kdv_tup us)).push (PySem.HandSPX.excO C n)).get? b = some o :=
    fun b o z => Heap.get?_push_of_some _ (Heap.get?_push_of_some _ z)
  have at1 : ((h0.push (PySem.W.kdv_tup us)).push (PySem.HandSPX.excO C n)).get? (n + 1) = some (PySem.HandSPX.excO C n) := by
    show ((h0.push (PySem.W.kdv_tup us)).push (PySem.HandSPX.excO C h0.objs.size)).get? (h0.objs.size + 1) = _
    heap_get
  have J2 := J.laid (t' := tk) (a := n + 1) (o := exo (n + 1) C none) kp fresh (exo_ok at1)
  have r2 : Vals (V.ref (n + 1) :: (vs ++ dvs)) (Value.ref (n + 1) :: (us ++ ds)) := .cons rfl (rv.append hd)
  have ln : (Value.ref (n + 1) :: us ++ ds).length = ps.length := r2.length.symm.trans (G.len _ _ _ _ pr)
  have lu : us.length ≤ sizeLine := by
    have z := Paired.length rv
    rw [sizeLine_eq]
    omega
  have run := G.run _ X.stack _ _ ⟨Value.ref (n + 1) :: us, []⟩ (Value.ref (n + 1) :: (us ++ ds)) _ _ (fun _ _ _ => False)
    (hr.make C us []) (J2.env0.make C us []) (hb _ (Value.ref (n + 1) :: us) J2.kIn ln) r2 pr
  refine wpAny_call (PySem.HandSPX.call_own F.excBase_ValueError (fun Y => PySem.HandSPX.refsVE_contains Y bm tail) (J.kIn _ _ lC)
    (PySem.W.looks_findIn J.kIn iC) (fun self => PySem.W.bind_fn J.kIn self tI) lu (codeAny_mono run fun r s' hq => ?_))
  cases r with
  | error er => exact hx pins σ _ _ er s' J2 hq
  | ok fl => cases fl with
    | ret u =>
      obtain ⟨v, H2, o2, b2, u2, k2, rv2, ev, d, fs, ea, ed, e1, q2⟩ := hq
      subst ev
      obtain ⟨h2, g2, d2, t2, os'⟩ := s'
      obtain ⟨t0, G2, J3, kG, nG, hoe, na⟩ := mk_end0 (d2 := d2) (t2 := t2) J fresh kp u2 k2 o2 b2 ea ed e1
      exact ⟨rv2, n + 1, _, _, ⟨G2, g2, d2, t2, os'⟩, _, .ref C, some d, rfl, J3, kG, nG, hoe, ⟨rfl, rfl, fun _ z => by cases z; rfl⟩, rfl, rfl, na, rfl, b2, raises_own T.exC T.tyC, q2⟩
    | next => exact hq.elim
    | brk => exact hq.elim
    | cont => exact hq.elim
/-- what the written part says of an own error class with an __init__ -/
structure ErrC (K : PySem.W.Frag) (mg : Str → Option Value) (nm : Str) (C fI : Addr) : Prop where
  o : OexC K C
  g : mg nm = some (.ref C)
  i : PySem.W.findIn K (.ref C) "__init__" = some (some (.ref fI))
  t : PySem.W.typeIn K (.ref fI) = some (.type "function")
def dRaise1 (xc : DX) (nm : Nat) (f : Str) (da : DA) (d : DEnds) (γ : Env) : Prop := da γ fun rs γ1 => allV rs ∧ match rs.map RS.data with
  | [y] => xc nm (some [(f, y)]) γ1
  | _ => False
def dRaise2 (xc : DX) (nm : Nat) (f g : Str) (da : DA) (d : DEnds) (γ : Env) : Prop := da γ fun rs γ1 => allV rs ∧ match rs.map RS.data with
  | [y, z] => xc nm (some [(g, z), (f, y)]) γ1
  | _ => False
section
variable {K : PySem.W.Frag} {B : Bs} {F H : Hp} {σ : L2.St} {γ : Env}
/-- an exception's dict, new -/
theorem Rep.newX (R : Rep K B F H σ γ) {p : Addr} {fv : List (Str × V)} {fs : List (Str × D)} (hp : H p = none) (h : RpFs (B.kz K) F fv fs) : Rep K B (upd F p (.xd fv)) (upd H p (.xd fv)) σ γ ∧ Ex F (upd F p (.xd fv)) ∧ XdOk K B (upd F p (.xd fv)) (some p) (some fs) := by
  obtain ⟨f1, f2, f3, f4⟩ := R.fresh hp
  obtain ⟨R2, e⟩ := (R.alloc (.xd fv) hp).freeze (a := p) (o := .xd fv) upd_same f1 (.inr f2) fun i q c' hg => ⟨f4 i q c' hg, fun x _ z => by cases z⟩
  exact ⟨R2, e, fv, upd_same, h.mono e⟩
theorem del_upd {H H2 : Hp} {a d : Addr} {o : HO} (ha : H a = none) (h : ∀ b, b ≠ a → b ≠ d → H2 b = H b) : upd (L2.del H2 a) d o = upd H d o := by
  funext b
  by_cases hd : b = d
  · subst hd; rw [upd_same, upd_same]
  · rw [upd_ne hd, upd_ne hd]
    by_cases hb : b = a
    · subst hb; rw [del_same, ha]
    · rw [del_ne hb, h b hb hd]
end
section
variable {X : Cx} {B : Bs} {ct : Nat → Addr} {W : WX} {xc : DX} {nm : Nat} {f g x : Str} {a b : Expr} {ta : TA} {da : DA} {p pos pos2 : Pos} {fI : Addr} {fd : FuncData} {ps : List Str} {k : Nat}
theorem s_raise1 (hc : X.calm = true) (xo : XOk X.K ct B W xc) (tk : L2N.Takes X W) (T : ErrC X.K X.mg x (ct nm) fI) (hf : PySem.W.findIn X.K (.ref (ct nm)) f = some none) (G : FnOk X.prog X.w X.K X.mg X.base CX0 k fI fd ps (spI1 X.K f)) (hr : Room (k + 1) X.A) (hb : Binds X.K fd ps []) (h : XA X B [a] ta da)
    (hg : Gl X x := by rfl) (hdb : (x == ("__debug__" : Str)) = false := by decide) (he : starEach (a :: []) X.env = (false, eval a X.env) :: starEach [] X.env := by rfl) (hpl : (backTo pos (starEach [] X.env)).any (·.1) = false := by rfl) :
    XS X B (.Raise (some (.Call (.Name x p) [a] [] pos)) none pos2) (fun _ σ H => tMkO (ct nm) (spI1 X.K f) [] ta σ H fun cls d H' => W cls d σ H') (dRaise1 xc nm f da) := ⟨L2N.ps_raise hc tk (mk_err T.o T.i T.t G hr hb .nil pass0 hg T.g h.pa hdb he hpl), fun F H σ γ E d R hq k => by
  refine h.sa F H σ γ _ _ R hq fun vs F1 H1 γ1 rs R1 e1 o1 ⟨h1, h2⟩ => ?_
  split at h2
  · rename_i y es
    have ra := allV_rp o1 h1
    rw [es] at ra
    cases ra with
    | cons ry t => cases t with
      | nil =>
        refine ⟨by simp, fun a1 ha => ⟨a1, ct nm, _, rfl, T.o, hf, upd_same, fun dx hd hne => ⟨rfl, dx, _, upd_same, by rw [upd_ne hne, upd_same], ?_, ?_⟩⟩⟩
        · rw [upd_ne hne] at hd; exact hd
        · have hd' : H1 dx = none := by rw [upd_ne hne] at hd; exact hd
          rw [del_upd ha fun b h3 h4 => by rw [upd_ne h3, upd_ne h4, upd_ne h3]]
          obtain ⟨R2, ex, xd⟩ := R1.newX hd' (.cons ry .nil)
          exact xo _ _ _ _ nm _ _ R2 xd h2
  · exact h2.elim⟩
theorem s_raise2 (hc : X.calm = true) (xo : XOk X.K ct B W xc) (tk : L2N.Takes X W) (T : ErrC X.K X.mg x (ct nm) fI) (hf : PySem.W.findIn X.K (.ref (ct nm)) f = some none) (hf2 : PySem.W.findIn X.K (.ref (ct nm)) g = some none) (G : FnOk X.prog X.w X.K X.mg X.base CX0 k fI fd ps (spI2 X.K f g)) (hr : Room (k + 1) X.A) (hb : Binds X.K fd ps []) (h : XA X B [a, b] ta da)
    (hg : Gl X x := by rfl) (hdb : (x == ("__debug__" : Str)) = false := by decide) (he : starEach (a :: [b]) X.env = (false, eval a X.env) :: starEach [b] X.env := by rfl) (hpl : (backTo pos (starEach [b] X.env)).any (·.1) = false := by rfl) :
    XS X B (.Raise (some (.Call (.Name x p) [a, b] [] pos)) none pos2) (fun _ σ H => tMkO (ct nm) (spI2 X.K f g) [] ta σ H fun cls d H' => W cls d σ H') (dRaise2 xc nm f g da) := ⟨L2N.ps_raise hc tk (mk_err T.o T.i T.t G hr hb .nil pass0 hg T.g h.pa hdb he hpl), fun F H σ γ E d R hq k => by
  refine h.sa F H σ γ _ _ R hq fun vs F1 H1 γ1 rs R1 e1 o1 ⟨h1, h2⟩ => ?_
  split at h2
  · rename_i y z es
    have ra := allV_rp o1 h1
    rw [es] at ra
    cases ra with
    | cons ry t => cases t with
      | cons rz t => cases t with
        | nil =>
          refine ⟨by simp, fun a1 ha => ⟨a1, ct nm, _, _, rfl, T.o, hf, hf2, upd_same, fun dx hd hne => ⟨rfl, dx, _, by rw [upd_ne (Ne.symm hne), upd_same], upd_same, ?_, ?_⟩⟩⟩
          · rw [upd_ne hne] at hd; exact hd
          · have hd' : H1 dx = none := by rw [upd_ne hne] at hd; exact hd
            rw [del_upd ha fun b h3 h4 => by rw [upd_ne h4, upd_ne h3, upd_ne h4, upd_ne h3]]
            obtain ⟨R2, ex, xd⟩ := R1.newX hd' (.cons rz (.cons ry .nil))
            exact xo _ _ _ _ nm _ _ R2 xd h2
  · exact h2.elim⟩
end

/-! ### try -/
/-- what the clause asks: is the class nm one of c's -/
def dTryAs (sub : Nat → Option Bool) (i : Nat) (tb : DX → DS) (ts : Addr → Nat → Xf → DS) (xc : DX) (d : DEnds) (γ : Env) : Prop := tb (fun nm fs γ1 => ∃ b, sub nm = some b ∧ (b = true → ∀ a, ts a nm fs { nx := fun γ2 => d.nx (put γ2 i .no), rt := d.rt, bk := fun γ2 => d.bk (put γ2 i .no), ct := fun γ2 => d.ct (put γ2 i .no) } (put γ1 i (.val (.ref a)))) ∧ (b = false → xc nm fs γ1)) d γ
def dTry (sub : Nat → Option Bool) (tb : DX → DS) (ts : Addr → Nat → Xf → DS) (xc : DX) (d : DEnds) (γ : Env) : Prop := tb (fun nm fs γ1 => ∃ b, sub nm = some b ∧ (b = true → ∀ a, ts a nm fs d γ1) ∧ (b = false → xc nm fs γ1)) d γ
section
variable {K : PySem.W.Frag} {B : Bs} {F F0 H H0 : Hp} {σ σ0 : L2.St} {γ γ0 : Env} {E : Ends} {d : DEnds}
/-- a slot is emptied -/
theorem Rep.clear (R : Rep K B F H σ γ) (i : Nat) : Rep K B F H (σ.set i none) (put γ i .no) := by
  have key : ∀ {j : Nat} {p : Option Nat} {c : OC} {s : Option V}, (put γ i .no)[j]? = some (.own p c) → (σ.set i none)[j]? = some s → γ[j]? = some (.own p c) ∧ σ[j]? = some s := fun {j p c s} h1 h2 => by
    rcases get_put h1 with ⟨_, z⟩ | ⟨n, z⟩
    · cases z
    · rw [List.getElem?_set_ne (Ne.symm n)] at h2
      exact ⟨z, h2⟩
  refine ⟨R.fh, by rw [List.length_set, put_len]; exact R.len, fun j s t hs hg => ?_, fun i j a p c q c' h1 h2 h3 h4 => R.nd i j a p c q c' (key h1 h3).1 (key h2 h4).1 (key h1 h3).2 (key h2 h4).2, R.b1, R.b2, R.b3, fun j a p c h1 h2 => R.b4 j a p c (key h1 h2).1 (key h1 h2).2, fun j a p c h1 h2 => R.b5 j a p c (key h1 h2).1 (key h1 h2).2, R.bN, R.bd⟩
  rcases get_put hg with ⟨rfl, rfl⟩ | ⟨n, z⟩
  · trivial
  · rw [List.getElem?_set_ne (Ne.symm n)] at hs
    exact R.sl j s t hs z
theorem Rep.upm (R : Rep K B F H σ γ) {b : Addr} (h : b ∈ (B.re F H σ γ).m ∨ (B.re F H σ γ).H b = none) : b ∈ B.m ∨ B.H b = none := h.elim R.owns fun e => .inr (R.fresh e).2.1
theorem Rep.rsback (R : Rep K B F H σ γ) {F' H' : Hp} {σ' : L2.St} {γ' : Env} {v : V} {s : RS} (o : RsOk K (B.re F H σ γ) F' H' σ' γ' v s) : RsOk K B F' H' σ' γ' v s := by
  cases s with
  | val x => exact o
  | own j c => exact o
  | new c =>
    obtain ⟨a, rfl, N⟩ := o
    exact ⟨a, rfl, N.fa, N.ok.base rfl rfl fun dx _ h => R.upm h, N.bn, R.upm N.bm, N.na⟩
/-- ends over a new base -/
theorem EndsOk.re (k : EndsOk K B F E d) (R : Rep K B F H σ γ) : EndsOk K (B.re F H σ γ) F E d := ⟨fun F' H' σ' γ' R' e h => k.nx F' H' σ' γ' (R.back R') e h, fun F' H' σ' γ' v s R' e o h => k.rt F' H' σ' γ' v s (R.back R') e (R.rsback o) h, fun F' H' σ' γ' R' e h => k.bk F' H' σ' γ' (R.back R') e h, fun F' H' σ' γ' R' e h => k.ct F' H' σ' γ' (R.back R') e h⟩
end
theorem takes_any {X : Cx} (hs : X.stack = X.env :: X.outer) (hf : X.env.frame = some X.env.locals) (W : WX) :
    L2N.Takes (X.tr [] fun e s1 => wpAny (model X.prog X.w) X.A (noteFrame e X.env) (fun _ s2 => wpAny (model X.prog X.w) X.A (setFlight e none) (fun _ _ => True) (fun _ _ => True) s2) (fun _ _ => True) s1) W := fun u s' ⟨a, B, sI, pins, σ, H, cls, d, eu, J, nb, up, sky, na, os, ag, w⟩ => by
  subst eu
  have hfr : X.A.frames = some (X.env :: X.outer) := by rw [← hs]; exact J.ok.frames
  have sky' : Sky B (X.env :: X.outer) a (L2N.Zn cls d) X.env.locals s'.heap := by rw [← hs]; exact sky
  exact L2N.Sky.land (Q := fun _ _ => True) L2N.Zn.steady hfr hf sky' fun _ _ _ => trivial
/-- what holds of a caught exception, ahead of its suite -/
def tsP (K : PySem.W.Frag) (ct : Nat → Addr) (ts : Addr → Value → Option Addr → TS) (a : Addr) (cls : Value) (d : Option Addr) : TS := fun E σ H => (∃ (B : Bs) (nm : Nat) (fs : Xf), cls = .ref (ct nm) ∧ XdOk K B B.F d fs) ∧ ts a cls d E σ H
theorem pss_pre {X : Cx} {P : Prop} {ss : List Stmt} {t : TS} (h : P → PSs X ss t) : PSs X ss (fun E σ H => P ∧ t E σ H) := ⟨fun pins s σ H D I ⟨p, q⟩ => (h p).run pins s σ H D I q⟩
section
variable {X : Cx} {B : Bs} {ct : Nat → Addr} {W : WX} {xc : DX} {x n : Str} {c : Addr} {i : Nat} {body suite : List Stmt} {b₀ : Stmt} {np pos pos' : Pos} {tb : WX → TS} {db : DX → DS} {ts : Addr → Value → Option Addr → TS} {dsu : Addr → Nat → Xf → DS} {sub : Nat → Option Bool}
theorem s_try_as (i : Nat) (hN : X.N.Nodup) (hc : Names X x (.ref c)) (xo : XOk X.K ct B W xc) (tk : L2N.Takes X W) (hsub : ∀ nm b, sub nm = some b → PySem.W.exmOne X.K (.ref (ct nm)) (.ref c) = some b)
    (hb : ∀ (B' : Bs) (W' : WX) (xc' : DX) (pn : List (Addr × Obj)) (xe : Value → Shared → Prop), XOk X.K ct B' W' xc' → L2N.Takes (X.tr pn xe) W' → PassesOwn (model X.prog X.w) X.A X.env xe → XSs (X.tr pn xe) B' body (tb W') (db xc'))
    (hsu : ∀ (B' : Bs) (a : Addr) (oe : Obj) (cls : Value) (d : Option Addr) (pn : List (Addr × Obj)) (nm : Nat) (fs : Xf), L2N.Zn cls d oe → (∃ vs, oe.data = .fields vs) → cls = .ref (ct nm) → XdOk X.K B' B'.F d fs → XSs (X.suite a ((a, oe) :: pn)) B' (b₀ :: suite) (ts a cls d) (dsu a nm fs))
    (hi : X.N[i]? = some n := by rfl) (hln : X.env.kindOf n = some .local := by rfl) (hs : X.stack = X.env :: X.outer := by rfl) (hf : X.env.frame = some X.env.locals := by rfl) :
    XS X B (.Try body [.ExceptHandler (some (.Name x np)) (some n) (b₀ :: suite) pos'] [] [] pos) (fun D σ H => tb (wAs X.K (.ref c) i (tsP X.K ct ts) W D) D σ H) (dTryAs sub i db dsu xc) := ⟨
  L2N.ps_try_as hs hf hN hi hln hc tk (fun W' pn xe tk' po => (hb ⟨fun _ => none, fun _ => none, fun _ => none, fun _ => none, [], fun _ => False, fun _ h => h.elim⟩ W' (fun _ _ _ => False) pn xe (fun _ _ _ _ _ _ _ _ _ h => h.elim) tk' po).ps)
    (fun a oe cls d pn hz hv => pss_pre fun ⟨B', nm, fs, e1, e2⟩ => (hsu B' a oe cls d pn nm fs hz hv e1 e2).ps),
  fun F H σ γ E d R hq k => by
  have key : XOk X.K ct (B.re F H σ γ) (wAs X.K (.ref c) i (tsP X.K ct ts) W E) (fun nm fs γ1 => ∃ b, sub nm = some b ∧ (b = true → ∀ a, dsu a nm fs { nx := fun γ2 => d.nx (put γ2 i .no), rt := d.rt, bk := fun γ2 => d.bk (put γ2 i .no), ct := fun γ2 => d.ct (put γ2 i .no) } (put γ1 i (.val (.ref a)))) ∧ (b = false → xc nm fs γ1)) := by
    intro F' H' σ' γ' nm dd fs R' xd ⟨b, hb1, h1, h2⟩
    refine ⟨b, hsub nm b hb1, fun e a ha => ?_, fun e => xo F' H' σ' γ' nm dd fs (R.back R') xd (h2 e)⟩
    have R2 : Rep X.K (B.re F H σ γ) F' H' (σ'.set i (some (.ref a))) (put γ' i (.val (.ref a))) := R'.setVal i (.ref a)
    have xd2 : XdOk X.K ((B.re F H σ γ).re F' H' (σ'.set i (some (.ref a))) (put γ' i (.val (.ref a)))) F' dd fs := xd
    refine ⟨⟨_, nm, fs, rfl, xd2⟩, ?_⟩
    have kk : EndsOk X.K B F' { nx := fun σ' H' => E.nx (σ'.set i none) H', rt := E.rt, bk := fun σ' H' => E.bk (σ'.set i none) H', ct := fun σ' H' => E.ct (σ'.set i none) H' } { nx := fun γ2 => d.nx (put γ2 i .no), rt := d.rt, bk := fun γ2 => d.bk (put γ2 i .no), ct := fun γ2 => d.ct (put γ2 i .no) } :=
      have k2 := k.mono R'.b2
      ⟨fun F3 H3 σ3 γ3 R3 e3 h3 => k2.nx F3 H3 _ _ (R3.clear i) e3 h3, k2.rt, fun F3 H3 σ3 γ3 R3 e3 h3 => k2.bk F3 H3 _ _ (R3.clear i) e3 h3, fun F3 H3 σ3 γ3 R3 e3 h3 => k2.ct F3 H3 _ _ (R3.clear i) e3 h3⟩
    have kr : EndsOk X.K (B.re F H σ γ) F' _ _ := ⟨fun F3 H3 σ3 γ3 R3 e3 h3 => kk.nx F3 H3 σ3 γ3 (R.back R3) e3 h3, fun F3 H3 σ3 γ3 v s R3 e3 o3 h3 => kk.rt F3 H3 σ3 γ3 v s (R.back R3) e3 (R.rsback o3) h3, fun F3 H3 σ3 γ3 R3 e3 h3 => kk.bk F3 H3 σ3 γ3 (R.back R3) e3 h3, fun F3 H3 σ3 γ3 R3 e3 h3 => kk.ct F3 H3 σ3 γ3 (R.back R3) e3 h3⟩
    exact (hsu _ a ⟨.ref (ct nm), dd, .fields #[.none, .none, .none], #[]⟩ _ dd [] nm fs ⟨rfl, rfl, fun vs e => by cases e; rfl⟩ ⟨_, rfl⟩ rfl xd2).ss F' H' _ _ _ _ R2.re (h1 e a) (kr.re R2)
  exact (hb (B.re F H σ γ) _ _ [] _ key (takes_any hs hf _) PassesOwn.looking).ss F H σ γ E d R.re hq (k.re R)⟩
end
theorem init1 {K : PySem.W.Frag} {f n1 n2 : Str} {vs : List V} {H : Hp} {Q : VK} {E : XK} (h : spI1 K f vs H Q E) : tOst K f (tVar 0) (tVar 1) { nx := fun _ H' => Q .non H', rt := Q } (L2.start [n1, n2] vs) H := by
  obtain ⟨a, C, y, rfl, T, hno, ha, k⟩ := h
  exact ⟨y, rfl, .ref a, rfl, a, C, rfl, T, hno, .inl ⟨ha, fun dx h1 h2 => k dx h1 h2⟩⟩
theorem init1_len {K : PySem.W.Frag} {f n1 n2 : Str} {vs : List V} {H : Hp} {Q : VK} {E : XK} (h : spI1 K f vs H Q E) : vs.length = [n1, n2].length := by
  obtain ⟨a, C, y, rfl, _⟩ := h
  rfl
theorem init2 {K : PySem.W.Frag} {f g n1 n2 n3 : Str} {vs : List V} {H : Hp} {Q : VK} {E : XK} (h : spI2 K f g vs H Q E) : tSeq (tOst K f (tVar 0) (tVar 1)) (tOst K g (tVar 0) (tVar 2)) { nx := fun _ H' => Q .non H', rt := Q } (L2.start [n1, n2, n3] vs) H := by
  obtain ⟨a, C, y, z, rfl, T, hno, hno2, ha, k⟩ := h
  exact ⟨y, rfl, .ref a, rfl, a, C, rfl, T, hno, .inl ⟨ha, fun dx h1 h2 => ⟨z, rfl, .ref a, rfl, a, C, rfl, T, hno2, .inr ⟨dx, _, upd_same, by rw [upd_ne h2, upd_same], by simp, k dx h1 h2⟩⟩⟩⟩
theorem init2_len {K : PySem.W.Frag} {f g n1 n2 n3 : Str} {vs : List V} {H : Hp} {Q : VK} {E : XK} (h : spI2 K f g vs H Q E) : vs.length = [n1, n2, n3].length := by
  obtain ⟨a, C, y, z, rfl, _⟩ := h
  rfl
end DL

set_option Elab.async false
set_option linter.all false
set_option maxRecDepth 100000
set_option maxHeartbeats 2000000
namespace DL
open PySem PySem.Spec PyProof.Rows L2
open Evl (Ex ex_l ex_t)
/-! ### a caught exception is read -/
theorem fs_get {K : KZ} {F : Hp} {n : Str} {dv : D} : ∀ {fv : List (Str × V)} {fs : List (Str × D)}, RpFs K F fv fs → fs.lookup n = some dv → ∃ v, fv.lookup n = some v ∧ Rp K F v dv
  | _, _, .nil, h => by cases h
  | _, _, @RpFs.cons _ _ m v vs d ds r t, h => by
    by_cases e : n = m
    · subst e
      simp only [List.lookup, beq_self_eq_true, Option.some.injEq] at h ⊢
      subst h
      exact ⟨v, rfl, r⟩
    · have e' : (n == m) = false := by simpa using e
      simp only [List.lookup, e'] at h ⊢
      exact fs_get t h
def tXfV (K : PySem.W.Frag) (a : Addr) (cls : Value) (d : Option Addr) (n : Str) (i : Nat) : TE := fun σ H Q => ∃ C, (XfC K C ∧ PySem.W.findIn K (.ref C) n = some none) ∧ tXf a cls d C n (tVar i) σ H Q
def dXf (rd : Nat → Str → Bool) (i : Nat) (a : Addr) (nm : Nat) (fs : Xf) (n : Str) (γ : Env) (q : RS → Env → Prop) : Prop := look γ i = .val (.ref a) ∧ rd nm n = true ∧ ∃ l v, fs = some l ∧ l.lookup n = some v ∧ q (.val v) γ
/-- e.n -/
theorem x_xf {X : Cx} {B : Bs} {ct : Nat → Addr} {a : Addr} {oe : Obj} {cls : Value} {d : Option Addr} {pn : List (Addr × Obj)} {nm : Nat} {n x : Str} {fs : Xf} {rd : Nat → Str → Bool} {p pos : Pos} (i : Nat) (hz : L2N.Zn cls d oe) (hf : ∃ vs, oe.data = .fields vs) (hcls : cls = .ref (ct nm)) (xd : XdOk X.K B B.F d fs)
    (hrd : ∀ nm n, rd nm n = true → XfC X.K (ct nm) ∧ PySem.W.findIn X.K (.ref (ct nm)) n = some none)
    (hN : X.N[i]? = some x := by rfl) (hv : Vis X.env.scope x := by first | exact Or.inl rfl | exact Or.inr (Or.inl rfl) | exact Or.inr (Or.inr rfl)) (hd : (x == ("__debug__" : Str)) = false := by decide) (hcd : (x == ("__classdict__" : Str)) = false := by decide)
    (hb : attributeBase (.Name x p) n X.env (eval (.Name x p) X.env) = eval (.Name x p) X.env := by rfl) :
    XE (X.suite a ((a, oe) :: pn)) B (.Attribute (.Name x p) n pos) (tXfV X.K a cls d n i) (dXf rd i a nm fs n) := ⟨⟨fun pins s σ H Q I ⟨C, ⟨T, hno⟩, h⟩ => (pe_xf (X := X) T hno hz.zc hf (pe_var (X := X.suite a ((a, oe) :: pn)) hN hv hd hcd) hb).run pins s σ H Q I h⟩, fun F H σ γ Q q R ⟨h1, h2, l, dv, h3, h4, h5⟩ k => by
  obtain ⟨T, hno⟩ := hrd nm n h2
  obtain ⟨v, hs, r⟩ := R.val h1
  cases r
  subst h3
  cases d with
  | none => exact xd.elim
  | some dd =>
    obtain ⟨fv, x1, x2⟩ := xd
    obtain ⟨u, hu, ru⟩ := fs_get (x2.mono R.b2) h4
    exact ⟨ct nm, ⟨T, hno⟩, _, hs, rfl, hcls, dd, fv, u, rfl, R.fh _ _ (R.b2 _ _ x1), hu, k u F H γ (.val dv) R (Evl.Ex.refl F) ru h5⟩⟩
/-- isinstance asks what the bases say -/
theorem kit_ref {K : PySem.W.Frag} {t : Value} {C : Addr} {b : Bool} (hdct : PySem.W.hasDictIn K C = true) (ht : PySem.W.typeIn K (.ref C) = some (.type "type")) (hs : PySem.W.subIn K t t = some true) (h : PySem.W.subIn K t (.ref C) = some b) : PySem.W.kitOne K t (.ref C) = some b := by
  unfold PySem.W.kitOne
  by_cases e : t = .ref C
  · rw [if_pos (by rw [e]; exact beq_self_eq_true _)]
    rw [← h, ← e, hs]
  · rw [if_neg (by simpa using e)]
    obtain ⟨cd, hc, _⟩ := PySem.W.any_some hdct
    have g : ((PySem.W.clsIn K C).isSome && PySem.W.typeIn K (.ref C) == some (.type "type")) = true := by rw [hc, ht]; rfl
    unfold PySem.W.kitCls
    simp only [g, if_true]
    exact h
/-! isinstance(e, C) -/
def rIsX (K : PySem.W.Frag) (a : Addr) (cls : Value) (d : Option Addr) : List V → Hp → VK → Prop := fun xs H Q => ∃ (D c : Addr) (b : Bool), xs = [.ref a, .ref c] ∧ cls = .ref D ∧ ExcC K D ∧ (d = none ∨ ∃ dd fv, d = some dd ∧ H dd = some (.xd fv)) ∧ PySem.W.kitOne K (.ref D) (.ref c) = some b ∧ Q (.bl b) H
theorem call_isX {X : Cx} {a : Addr} {oe : Obj} {cls : Value} {d : Option Addr} {pn : List (Addr × Obj)} (hz : L2N.Zn cls d oe) (hf : ∃ vs, oe.data = .fields vs) : CallR (X.suite a ((a, oe) :: pn)) (.builtin "isinstance") (rIsX X.K a cls d) := fun {pins s σ H xs us Q} I r h => by
  obtain ⟨D, c, b, rfl, hD, C, hd, e, q⟩ := h
  cases r with
  | cons rx rr => cases rr with
    | cons rt rr =>
      cases rr
      cases rx
      cases rt
      obtain ⟨hget, _⟩ := I.pin (a, oe) (List.mem_append_left _ List.mem_cons_self)
      obtain ⟨vs, hv⟩ := hf
      obtain ⟨cdD, hcD, _⟩ := PySem.W.any_some C.hd
      have hcl : (PySem.W.clsIn X.K D).isSome = true := by rw [hcD]; rfl
      have nc : PySem.W.notCls oe = true := by unfold PySem.W.notCls; rw [hv] <;> rfl
      have fin : ∀ {od : Option Obj}, PySem.W.InstAt s.heap a oe D od → wpAny (model (X.suite a ((a, oe) :: pn)).prog (X.suite a ((a, oe) :: pn)).w) (X.suite a ((a, oe) :: pn)).A (call (.builtin "isinstance") [.ref a, .ref c]) (EP (X.suite a ((a, oe) :: pn)) pins σ Q) (X.suite a ((a, oe) :: pn)).xe s := fun J =>
        PySem.W.kia_one (PySem.W.kitx_exc hcl C.hg C.hk C.hs C.ha C.hn C.ht C.hm) I.kIn J e (fun z => nomatch z) fun tk => ⟨.bl b, H, I.kept (t' := tk) fun _ _ z => z, rfl, q⟩
      rcases hd with hd | ⟨dd, fv, hd, hx⟩
      · exact fin (od := none) ⟨hget, hz.zc.1.trans hD, nc, by rw [hz.zc.2, hd]; trivial⟩
      · have ok : ObjOk X.prog X.w H s.heap dd (.xd fv) := I.hok dd _ hx
        obtain ⟨mA, hns, _⟩ := ok
        obtain ⟨od, ho, _⟩ := lookIn_ns hns
        exact fin (od := some od) ⟨hget, hz.zc.1.trans hD, nc, by rw [hz.zc.2, hd]; exact ho⟩
def dIsE (kit : Nat → Nat → Option Bool) (i : Nat) (a : Addr) (nm t : Nat) (γ : Env) (q : RS → Env → Prop) : Prop := look γ i = .val (.ref a) ∧ ∃ b, kit nm t = some b ∧ q (.val (.bl b)) γ
theorem x_isE {X : Cx} {B : Bs} {ct : Nat → Addr} {a : Addr} {oe : Obj} {cls : Value} {d : Option Addr} {pn : List (Addr × Obj)} {nm tn : Nat} {t x : Str} {fs : Xf} {kit : Nat → Nat → Option Bool} {p p1 p2 pos : Pos} (i : Nat) (hz : L2N.Zn cls d oe) (hf : ∃ vs, oe.data = .fields vs) (hcls : cls = .ref (ct nm)) (xd : XdOk X.K B B.F d fs)
    (hkit : ∀ nm t b, kit nm t = some b → ExcC X.K (ct nm) ∧ PySem.W.kitOne X.K (.ref (ct nm)) (.ref (ct t)) = some b) (hm : X.mg "isinstance" = none) (ht : X.mg t = some (.ref (ct tn)))
    (hN : X.N[i]? = some x := by rfl) (hv : Vis X.env.scope x := by first | exact Or.inl rfl | exact Or.inr (Or.inl rfl) | exact Or.inr (Or.inr rfl)) (hd : (x == ("__debug__" : Str)) = false := by decide) (hcd : (x == ("__classdict__" : Str)) = false := by decide)
    (hg : Gl X "isinstance" := by rfl) (hgt : Gl X t := by rfl) (hdt : (t == ("__debug__" : Str)) = false := by decide)
    (s1 : starEach (.Name x p1 :: [.Name t p2]) X.env = (false, eval (.Name x p1) X.env) :: starEach [.Name t p2] X.env := by rfl) (s2 : starEach (.Name t p2 :: []) X.env = (false, eval (.Name t p2) X.env) :: starEach [] X.env := by rfl) (hpl : (backTo pos (starEach [.Name t p2] X.env)).any (·.1) = false := by rfl) :
    XE (X.suite a ((a, oe) :: pn)) B (.Call (.Name "isinstance" p) [.Name x p1, .Name t p2] [] pos) (tCB (rIsX X.K a cls d) (tCons (tVar i) (tCons (tC (.ref (ct tn))) tNil))) (dIsE kit i a nm tn) :=
  ⟨pe_callB (X := X.suite a ((a, oe) :: pn)) (call_isX hz hf) hg hm (by decide +kernel) (pa_cons (pe_var (X := X.suite a ((a, oe) :: pn)) hN hv hd hcd) (pa_cons (pe_glob (X := X.suite a ((a, oe) :: pn)) hgt ht rfl hdt) pa_nil s2) s1) (by decide) (by decide) s1 hpl, fun F H σ γ Q q R ⟨h1, b, h2, h3⟩ k => by
  obtain ⟨T, hk⟩ := hkit nm tn b h2
  obtain ⟨v, hs, r⟩ := R.val h1
  cases r
  have hx : d = none ∨ ∃ dd fv, d = some dd ∧ H dd = some (.xd fv) := by
    cases d with
    | none => exact .inl rfl
    | some dd =>
      cases fs with
      | none => exact xd.elim
      | some l =>
        obtain ⟨fv, x1, _⟩ := xd
        exact .inr ⟨dd, fv, rfl, R.fh _ _ (R.b2 _ _ x1)⟩
  exact ⟨_, hs, ct nm, ct tn, b, rfl, hcls, T, hx, hk, k _ F H γ (.val (.bl b)) R (Evl.Ex.refl F) (.bl b) h3⟩⟩
end DL

set_option Elab.async false
set_option linter.all false
set_option maxRecDepth 100000
set_option maxHeartbeats 2000000
namespace DL
open PySem PySem.Spec PyProof.Rows L2
open Evl (Ex ex_l ex_t)
open L2H (Hot1 RoomH cxH FnH fn_ofH HotC pe_callH)
section
variable {K : PySem.W.Frag} {B : Bs}
/-! ### further methods of lists -/
def mIns (ds as : List D) (q : List D → D → Prop) : Prop := match as with
  | [.int i, x] => 0 ≤ i ∧ i < 2 ^ 62 ∧ ds.length < 1000000 ∧ q (ds.take i.toNat ++ [x] ++ ds.drop i.toNat) .non
  | _ => False
theorem md_insert : MutD K (fun x vs H Q => ∃ (l : Addr) (xs : List V) (i : Int) (y : V), x = .ref l ∧ vs = [.int i, y] ∧ H l = some (.lst xs) ∧ xs.length < sizeLine ∧ 0 ≤ i ∧ i < 2 ^ 63 ∧ Q .non (upd H l (.lst (xs.take i.toNat ++ [y] ++ xs.drop i.toNat)))) mIns := fun z F H a vs ds xs as Q q eFH ha ra rx hf k => by
  unfold mIns at hf
  split at hf
  · obtain ⟨x, y, rfl, r1, r2⟩ := two_rs rx.p
    cases r1
    obtain ⟨i1, i2, h1, h2⟩ := hf
    exact ⟨a, vs, _, y, rfl, rfl, ha, Nat.lt_of_lt_of_le (by rw [ra.length]; exact h1) (by decide), i1, by omega, k _ _ _ _ (RpAll.of (P_app (P_app (P_take _ ra.p) (.cons r2 .nil)) (P_drop _ ra.p))) .non h2⟩
  · exact hf.elim
def mClear (ds as : List D) (q : List D → D → Prop) : Prop := match as with
  | [] => q [] .non
  | _ => False
theorem md_clear : MutD K rClear mClear := fun z F H a vs ds xs as Q q eFH ha ra rx hf k => by
  unfold mClear at hf
  split at hf
  · cases rx
    exact ⟨a, vs, rfl, rfl, ha, k _ _ _ _ .nil .non hf⟩
  · exact hf.elim
def mRev (ds as : List D) (q : List D → D → Prop) : Prop := match as with
  | [] => q ds.reverse .non
  | _ => False
theorem md_reverse : MutD K rReverse mRev := fun z F H a vs ds xs as Q q eFH ha ra rx hf k => by
  unfold mRev at hf
  split at hf
  · cases rx
    exact ⟨a, vs, rfl, rfl, ha, k _ _ _ _ (RpAll.of (P_rev ra.p)) .non hf⟩
  · exact hf.elim
def mExt (ds as : List D) (q : List D → D → Prop) : Prop := match as with
  | [.lst es] => ds.length + es.length ≤ 1000000 ∧ q (ds ++ es) .non
  | _ => False
theorem md_extend : MutD K rExtend mExt := fun z F H a vs ds xs as Q q eFH ha ra rx hf k => by
  unfold mExt at hf
  split at hf
  · obtain ⟨x, rfl, r1⟩ := one_rs rx.p
    cases r1 with
    | @lst b ws _ hb rb =>
      exact ⟨a, b, vs, ws, rfl, rfl, ha, eFH _ _ hb, sz_le (by rw [ra.length, rb.length]; exact hf.1), k _ _ _ _ (RpAll.of (P_app ra.p rb.p)) .non hf.2⟩
  · exact hf.elim
/-! methods that only read -/
def RdD (K : PySem.W.Frag) (r : V → List V → Hp → VK → Prop) (f : List D → List D → (D → Prop) → Prop) : Prop := ∀ (z : Addr → Prop) (F H : Hp) (a : Addr) (vs : List V) (ds : List D) (xs : List V) (as : List D) (Q : VK) (q : D → Prop), Ex F H → H a = some (.lst vs) → RpAll ⟨K, z⟩ F vs ds → RpAll ⟨K, z⟩ F xs as → f ds as q →
  (∀ v d, Rp ⟨K, z⟩ F v d → q d → Q v H) → r (.ref a) xs H Q
def dRd (f : List D → List D → (D → Prop) → Prop) (de : DE) (da : DA) (γ : Env) (q : RS → Env → Prop) : Prop := de γ fun s γ1 => match s.data with
  | .lst ds => da γ1 fun rs γ2 => s.ok γ2 ∧ allV rs ∧ f ds (rs.map RS.data) fun d => q (.val d) γ2
  | _ => False
theorem se_rd {te : TE} {de : DE} {ta : TA} {da : DA} {r : V → List V → Hp → VK → Prop} {f : List D → List D → (D → Prop) → Prop} (hm : RdD K r f) (he : SE K B te de) (ha : SA K B ta da) : SE K B (tBM K "list" r te ta) (dRd f de da) := fun F H σ γ Q q R hq k => by
  refine he F H σ γ _ _ R hq fun x F1 H1 γ1 s R1 e1 o1 h1 => ?_
  obtain ⟨F2, R2, e2, o2⟩ := o1.fz R1
  split at h1
  · rename_i ds es
    have rx := o2.rs R2
    rw [RS.fz_data, es] at rx
    obtain ⟨a, vs, rfl, h2, r1⟩ := rx.lst R2.fh
    refine ⟨Or.inl ⟨rfl, vs, Evl.sq_of h2⟩, ha F2 H1 σ γ1 _ _ R2 h1 fun ws F3 H3 γ3 rs R3 e3 o3 ⟨h3, h4, h5⟩ => ?_⟩
    have ox := (o2.later e3 R3 (fz_ok s γ3 h3) (fz_idem s)).rs R3
    rw [RS.fz_data, es] at ox
    obtain ⟨a', vs', ea, h6, r6⟩ := ox.lst R3.fh
    cases ea
    exact hm B.z F3 H3 a vs' ds ws _ Q _ R3.fh h6 r6 (allV_rp o3 h4) h5 fun v d rd hq => k v F3 H3 γ3 (.val d) R3 ((e1.trans e2).trans e3) rd hq
  · exact h1.elim
/-- the first place of a number -/
def mIndex (ds as : List D) (q : D → Prop) : Prop := match as with
  | [.int y] => ∃ (ns : List Int) (j : Nat), ds = ns.map D.int ∧ ns[j]? = some y ∧ (∀ m, m < j → ns[m]? ≠ some y) ∧ q (.int (j : Nat))
  | _ => False
theorem rd_index : RdD K (rIndex K) mIndex := fun z F H a vs ds xs as Q q eFH ha ra rx hf k => by
  unfold mIndex at hf
  split at hf
  · obtain ⟨x, rfl, r1⟩ := one_rs rx.p
    cases r1
    obtain ⟨ns, j, rfl, h1, h2, h3⟩ := hf
    have ev := rp_ints ra
    subst ev
    refine ⟨a, _, _, j, _, rfl, rfl, Evl.sq_of ha, rfl, by simp [flatV], by rw [List.getElem?_map, h1]; rfl, by simp [eqV], fun m z' hm hz => ?_, k _ _ (.int _) h3⟩
    rw [List.getElem?_map] at hz
    cases e : ns[m]? with
    | none => rw [e] at hz; cases hz
    | some y' =>
      rw [e] at hz
      cases hz
      have ne : y' ≠ _ := fun e2 => h2 m hm (by rw [e, e2])
      simpa [eqV] using ne
  · exact hf.elim
/-! xs[i], xs a list or a tuple -/
def fIxQ : D → D → (RS → Prop) → Prop
  | .lst xs, .int i, q => ∃ d, atI xs i = some d ∧ q (.val d)
  | .tup xs, .int i, q => ∃ d, atI xs i = some d ∧ q (.val d)
  | _, _, _ => False
theorem od_ixQ : OpD K (rIx K) fIxQ := fun B F H σ γ x y d e Q q R rx ry hf k => by
  unfold fIxQ at hf
  split at hf
  · exact .inl (od_ixL B F H σ γ x y _ _ Q q R rx ry hf k)
  · exact .inr (.inl (od_ixT B F H σ γ x y _ _ Q q R rx ry hf k))
  · exact hf.elim
def dBits (de : DE) (γ : Env) (q : RS → Env → Prop) : Prop := de γ fun s γ1 => match s.data with
  | .int i => q (.val (.int (Builtin.Int.intBits i : Nat))) γ1
  | _ => False
end
section
variable {X : Cx} {B : Bs} {e o c : Expr} {te : TE} {de : DE} {ta : TA} {da : DA} {es : List Expr}
theorem x_rd {r : V → List V → Hp → VK → Prop} {f : List D → List D → (D → Prop) → Prop} (pe : PE X o te → PA X es ta → PE X c (tBM X.K "list" r te ta)) (hd : RdD X.K r f) (ho : XE X B o te de) (h : XA X B es ta da) : XE X B c (tBM X.K "list" r te ta) (dRd f de da) := ⟨pe ho.pe h.pa, se_rd hd ho.se h.sa⟩
theorem x_bits {apos pos : Pos} (ho : XE X B o te de) (hbase : attributeBase o "bit_length" X.env (eval o X.env) = eval o X.env := by rfl) (hline : (apos.endLine == pos.line) = true := by rfl) : XE X B (.Call (.Attribute o "bit_length" apos) [] [] pos) (tBits te) (dBits de) := ⟨pe_bits ho.pe hbase hline, fun F H σ γ Q q R hq k => by
  refine ho.se F H σ γ _ _ R hq fun x F1 H1 γ1 s R1 e1 o1 h1 => ?_
  split at h1
  · rename_i i es
    have r := o1.rs R1
    rw [es] at r
    exact ⟨i, r.int, k _ F1 H1 γ1 (.val _) R1 e1 (.int _) h1⟩
  · exact h1.elim⟩
end
/-- the j-th statement of a class -/
def methOf (j : Nat) : Stmt → Stmt
  | .ClassDef (body := ss) .. => ss.getD j (.Pass ⟨0, 0, 0, 0⟩)
  | st => st
/-! ### helpers that are called inside an except suite -/
section
variable {K : PySem.W.Frag} {F0 H : Hp} {m : List Addr} {z : ZN H} {vs : List V} {as : List Sx} {p : RS → List Sx → Prop} {Q : VK}
theorem entry_ends (R0 : Rep K (entry F0 H m z vs) F0 H (vs.map some) as) (hq : ∀ r as' v F' H', p r as' → Rep K (entry F0 H m z vs) F' H' (vs.map some) as' → RsOk K (entry F0 H m z vs) F' H' (vs.map some) as' v r → r.kept → Q v H') :
    EndsOk K (entry F0 H m z vs) F0 { nx := fun _ H' => Q .non H', rt := Q } (endsOf as p) := by
  refine ⟨fun F' H' σ' γ' R' _ h1 => ?_, fun F' H' σ' γ' v r R' _ o ⟨hk, h1⟩ => ?_, fun _ _ _ _ _ _ z => z, fun _ _ _ _ _ _ z => z⟩
  · obtain ⟨zs, ho, hp⟩ := outP h1
    exact hq (.val .non) zs .non F' H' hp (R0.outs R' ho) .non trivial
  · obtain ⟨zs, ho, hp⟩ := outP h1
    have R2 := R0.outs R' ho
    refine hq r zs v F' H' hp R2 ?_ hk
    cases r with
    | val d => exact o
    | own j c => exact hk.elim
    | new c =>
      obtain ⟨a, rfl, N⟩ := o
      refine ⟨a, rfl, N.fa, N.ok, N.bn, N.bm, fun i p' c' h1 h2 => ?_⟩
      obtain ⟨_, ok⟩ := R2.ownObj h1 h2
      have e1 : H a = none := N.bn
      obtain ⟨_, h3⟩ := outs_get ho
      rcases h3 i _ h1 with ⟨p2, c0, c2, e2, _, _⟩ | ⟨_, n2⟩
      · obtain ⟨_, ok2⟩ := R0.ownObj e2 h2
        obtain ⟨o, ho, _⟩ := ok2.obj
        rw [e1] at ho; cases ho
      · exact n2 p' c' rfl
end
theorem fn_okH {P : Program} {w : World} {K : PySem.W.Frag} {mg : Str → Option Value} {base : Heap} {x qual : Str} {st : Stmt} {f : Addr} {fd : FuncData} {N ps : List Str} {k n : Nat} {fs : FS} {ds : DS} (F : Fun K x qual st f fd) (S : FnScope N ps (defScope st)) (hn : ps.length = n) (hN : n ≤ N.length)
    (body : ∀ (B : Bs) (cd : Value) (A : Around) (o : List PySem.Env) (s : Shared) (H : Hp) (E : XK) (p : Addr × Obj), Hot1 A p → RoomH k (A.deeper (envOfC qual (defScope st) s.heap.objs.size f cd)) → ∃ ts, XSs (cxH CX0 P w K mg base N qual (defScope st) f cd A o s H E p) B (defBody st) ts ds)
    (h : ∀ as p, as.length = n → fs as p → ds (endsOf as p) (startG N.length as)) : FnH P w K mg base CX0 (k + 1) f fd ps (spOf K n fs) := by
  obtain ⟨_, _, _, _, _, _, cd, _, _, e, lk, hc⟩ := F.ex
  subst e
  refine fn_ofH lk hc S (fun vs H Q E h => h.1.trans hn.symm) fun A o s H vs Q E pp hot hr ⟨hl, F0, m, z, as, p, R0, hf, hq⟩ => ?_
  have ha : as.length = n := by have := R0.len; rw [List.length_map] at this; omega
  obtain ⟨ts, b⟩ := body (entry F0 H m z vs) cd A o s H E pp hot hr
  exact ⟨ts, b.ps, b.ss F0 H _ _ _ (endsOf as p) (R0.start (by rw [hl]; exact hN)) (h as p ha hf) (entry_ends R0 hq)⟩
theorem hot_su {X : Cx} {a : Addr} {oe : Obj} {cls : Value} {d : Option Addr} {pn : List (Addr × Obj)} (hz : L2N.Zn cls d oe) (hf : ∃ vs, oe.data = .fields vs) : HotC (X.suite a ((a, oe) :: pn)) := by
  obtain ⟨vs, hv⟩ := hf
  exact ⟨(a, oe), ⟨rfl, vs, hv, hz.2.2 vs hv⟩, List.mem_cons_self⟩
theorem x_callH {X : Cx} {B : Bs} {a : Expr} {es : List Expr} {ta : TA} {da : DA} {k n : Nat} {f : Addr} {fd : FuncData} {ps : List Str} {fs : FS} {x : Str} {p pos : Pos} (K : PySem.W.Frag) (hK : X.K = K) (hc : HotC X) (G : FnH X.prog X.w X.K X.mg X.base CX0 k f fd ps (spOf X.K n fs)) (hr : RoomH k X.A) (hm : X.mg x = some (.ref f)) (hk : PySem.W.keepIn X.K (.ref f) = true) (hb : Binds X.K fd ps []) (h : XA X B (a :: es) ta da)
    (hg : Gl X x := by rfl) (hdb : (x == ("__debug__" : Str)) = false := by decide) (he : starEach (a :: es) X.env = (false, eval a X.env) :: starEach es X.env := by rfl) (hpl : (backTo pos (starEach es X.env)).any (·.1) = false := by rfl) :
    XE X B (.Call (.Name x p) (a :: es) [] pos) (tCallS (spOf K n fs) (fun _ => E0) ta) (dCall n fs [] da) := by
  subst hK
  refine ⟨pe_callH G hr hc hg hm hk hb (fun _ _ _ _ _ _ _ z => z.elim) h.pa hdb he hpl, fun F H σ γ Q q R hq kk => ?_⟩
  have z := (se_call (n := n) (fs := fs) (E := E0) h.sa (od := .nil)) F H σ γ Q q R hq kk
  have z' : ta σ H fun vs H1 => spOf X.K n fs (vs ++ []) H1 Q E0 := z
  simp only [List.append_nil] at z'
  exact z'
end DL

set_option Elab.async false
set_option linter.all false
set_option maxRecDepth 100000
set_option maxHeartbeats 2000000
namespace DL
open PySem PySem.Spec PyProof.Rows L2
open Evl (Ex ex_l ex_t)
/-! ### f(..), what is owned lent; the answer is flat, or a new list of flat things -/
def lendR : RS → (RS → Prop) → Prop
  | .val d, q => flatD d ∧ q (.val d)
  | .new (.lst ds), q => flatAll ds ∧ q (.new (.lst ds))
  | _, _ => False
def dCallL (n : Nat) (fs : FS) (da : DA) (γ : Env) (q : RS → Env → Prop) : Prop := da γ fun rs γ1 => noNew rs ∧ rs.length = n ∧ fs (rs.map fun r => Sx.val r.data) fun r _ => lendR r fun r => q r γ1
def dCallLX (n : Nat) (fs : FSX) (da : DA) (γ : Env) (q : RS → Env → Prop) : Prop := da γ fun rs γ1 => noNew rs ∧ rs.length = n ∧ fs (rs.map fun r => Sx.val r.data) (fun r _ => lendR r fun r => q r γ1) fun _ _ _ => False
section
variable {K : PySem.W.Frag} {B : Bs} {F1 H1 : Hp} {σ : L2.St} {γ1 : Env} {vs : List V} {rs : List RS}
theorem lend_entry (R1 : Rep K B F1 H1 σ γ1) (o1 : Paired (RsOk K B F1 H1 σ γ1) vs rs) (h0 : noNew rs) : ∃ F2, Rep K (entry F2 H1 [] R1.zn vs) F2 H1 (vs.map some) (rs.map fun r => Sx.val r.data) := by
  obtain ⟨F2, e2, e3, ra⟩ := R1.lend (lent o1 h0)
  refine ⟨F2, ?_⟩
  have e0 : (rs.map fun r => Sx.val r.data) = (rs.map RS.data).map Sx.val := by rw [List.map_map]; rfl
  rw [e0]
  have none : ∀ {i : Nat} {p : Option Nat} {c : OC}, ((rs.map RS.data).map Sx.val)[i]? ≠ some (.own p c) := fun {i p c} h => by
    rw [List.getElem?_map] at h
    cases q : (rs.map RS.data)[i]? with
    | none => rw [q] at h; cases h
    | some d => rw [q] at h; cases h
  refine ⟨e3, by rw [List.length_map, List.length_map, P_len ra.p], fun i s t hs hg => ?_, fun i j a p c q c' h1 => absurd h1 none, fun b o e => ⟨fun _ => e, o, e⟩, Evl.Ex.refl F2, fun b o _ _ => rfl, fun i a p c h1 => absurd h1 none, fun i a p c h1 => absurd h1 none, fun b o e => ⟨o, e⟩, fun a o e => ⟨o, e, .refl o⟩⟩
  rw [List.getElem?_map] at hs hg
  cases q : (rs.map RS.data)[i]? with
  | none => rw [q] at hg; cases hg
  | some d =>
    rw [q] at hg
    cases hg
    obtain ⟨v, hv, r⟩ := P_get ra.p q
    rw [hv] at hs
    exact ⟨v, (Option.some.inj hs).symm, r⟩
theorem lend_exit (R1 : Rep K B F1 H1 σ γ1) {F2 F3 H3 : Hp} {as' : List Sx} {v : V} {r : RS} {Q : VK} {q : RS → Env → Prop} (R3 : Rep K (entry F2 H1 [] R1.zn vs) F3 H3 (vs.map some) as') (ok : RsOk K (entry F2 H1 [] R1.zn vs) F3 H3 (vs.map some) as' v r) (hp : lendR r fun r => q r γ1)
    (k : ∀ v F' H' γ' s, Rep K B F' H' σ γ' → Ex F1 F' → RsOk K B F' H' σ γ' v s → q s γ' → Q v H') : Q v H3 := by
  have eH : Ex H1 H3 := fun b o e => (R3.b1 b o e).1 (by simp [entry])
  unfold lendR at hp
  split at hp
  · rename_i d
    refine k v F1 H3 γ1 (.val d) (R1.grow eH) (Evl.Ex.refl F1) ?_ hp.2
    have ok' : Rp (B.kz K) F3 v d := ok
    show Rp (B.kz K) F1 v d
    have hf := hp.1
    cases ok' with
    | non => exact .non
    | bl b => exact .bl b
    | int i => exact .int i
    | str x => exact .str x
    | _ => exact hf.elim
  · rename_i ds
    obtain ⟨a, ea, N⟩ := ok
    obtain ⟨ws, hl, hr⟩ := N.ok
    have ha : H1 a = none := N.bn
    obtain ⟨f1, f2, f3, f4⟩ := R1.fresh ha
    exact k v F1 H3 γ1 (.new (.lst ds)) (R1.grow eH) (Evl.Ex.refl F1) ⟨a, ea, f1, ⟨ws, hl, flat_rp hr hp.1⟩, f3, .inr f2, f4⟩ hp.2
  · exact hp.elim
theorem se_callL {n : Nat} {fs : FS} {E : XK} {ta : TA} {da : DA} (h : SA K B ta da) : SE K B (tCall (spOf K n fs) [] E ta) (dCallL n fs da) := fun F H σ γ Q q R hq k => by
  refine h F H σ γ _ _ R hq fun vs F1 H1 γ1 rs R1 e1 o1 ⟨h0, h2, h3⟩ => ?_
  obtain ⟨F2, RE⟩ := lend_entry R1 o1 h0
  rw [List.append_nil]
  exact ⟨by rw [P_len o1]; exact h2, F2, [], _, _, _, RE, h3, fun r as' v F3 H3 hp R3 ok hk => lend_exit R1 R3 ok hp fun v F' H' γ' s R' e' o' hq => k v F' H' γ' s R' (e1.trans e') o' hq⟩
theorem se_callLX {ct : Nat → Addr} {n : Nat} {fs : FSX} {ta : TA} {da : DA} (h : SA K B ta da) : SE K B (tCall (spOfX K ct n fs) [] E0 ta) (dCallLX n fs da) := fun F H σ γ Q q R hq k => by
  refine h F H σ γ _ _ R hq fun vs F1 H1 γ1 rs R1 e1 o1 ⟨h0, h2, h3⟩ => ?_
  obtain ⟨F2, RE⟩ := lend_entry R1 o1 h0
  rw [List.append_nil]
  exact ⟨by rw [P_len o1]; exact h2, F2, [], _, _, _, _, RE, h3, fun r as' v F3 H3 hp R3 ok hk => lend_exit R1 R3 ok hp fun v F' H' γ' s R' e' o' hq => k v F' H' γ' s R' (e1.trans e') o' hq, fun _ _ _ _ _ _ z _ _ => z.elim⟩
end
section
variable {X : Cx} {B : Bs} {a : Expr} {es : List Expr} {ta : TA} {da : DA} {k n : Nat} {f : Addr} {fd : FuncData} {ps : List Str} {x : Str} {p pos : Pos}
theorem x_callL (K : PySem.W.Frag) (hK : X.K = K) {fs : FS} (G : FnOk X.prog X.w X.K X.mg X.base CX0 k f fd ps (spOf X.K n fs)) (hr : Room k X.A) (hm : X.mg x = some (.ref f)) (hk : PySem.W.keepIn X.K (.ref f) = true) (hb : Binds X.K fd ps []) (h : XA X B (a :: es) ta da)
    (hg : Gl X x := by rfl) (hdb : (x == ("__debug__" : Str)) = false := by decide) (he : starEach (a :: es) X.env = (false, eval a X.env) :: starEach es X.env := by rfl) (hpl : (backTo pos (starEach es X.env)).any (·.1) = false := by rfl) :
    XE X B (.Call (.Name x p) (a :: es) [] pos) (tCall (spOf K n fs) [] E0 ta) (dCallL n fs da) := by
  subst hK
  exact ⟨pe_call G hr hg hm hk hb .nil pass0 h.pa hdb he hpl, se_callL h.sa⟩
theorem x_callLX (K : PySem.W.Frag) (hK : X.K = K) {ct : Nat → Addr} {fs : FSX} (G : FnOk X.prog X.w X.K X.mg X.base (L2N.CX X.prog X.w) k f fd ps (spOfX X.K ct n fs)) (hr : Room k X.A) (hm : X.mg x = some (.ref f)) (hk : PySem.W.keepIn X.K (.ref f) = true) (hb : Binds X.K fd ps []) (h : XA X B (a :: es) ta da)
    (hg : Gl X x := by rfl) (hdb : (x == ("__debug__" : Str)) = false := by decide) (he : starEach (a :: es) X.env = (false, eval a X.env) :: starEach es X.env := by rfl) (hpl : (backTo pos (starEach es X.env)).any (·.1) = false := by rfl) :
    XE X B (.Call (.Name x p) (a :: es) [] pos) (tCall (spOfX K ct n fs) [] E0 ta) (dCallLX n fs da) := by
  subst hK
  exact ⟨pe_call G hr hg hm hk hb .nil passN h.pa hdb he hpl, se_callLX h.sa⟩
end
/-! ### try, its suite unread -/
def TryX (sub : Nat → Option Bool) (i : Nat) (ts : Addr → Nat → Xf → DS) (xc : DX) (d : DEnds) (nm : Nat) (fs : Xf) (γ1 : Env) : Prop := ∃ b, sub nm = some b ∧ (b = true → ∀ a, ts a nm fs { nx := fun γ2 => d.nx (put γ2 i .no), rt := d.rt, bk := fun γ2 => d.bk (put γ2 i .no), ct := fun γ2 => d.ct (put γ2 i .no) } (put γ1 i (.val (.ref a)))) ∧ (b = false → xc nm fs γ1)
theorem dTryAs_eq {sub : Nat → Option Bool} {i : Nat} {tb : DX → DS} {ts : Addr → Nat → Xf → DS} {xc : DX} {d : DEnds} {γ : Env} : dTryAs sub i tb ts xc d γ = tb (fun nm fs γ1 => TryX sub i ts xc d nm fs γ1) d γ := rfl
theorem try_in {sub : Nat → Option Bool} {i : Nat} {ts : Addr → Nat → Xf → DS} {xc : DX} {d : DEnds} {nm : Nat} {fs : Xf} {γ1 : Env} (h : sub nm = some true) (k : ∀ a, ts a nm fs { nx := fun γ2 => d.nx (put γ2 i .no), rt := d.rt, bk := fun γ2 => d.bk (put γ2 i .no), ct := fun γ2 => d.ct (put γ2 i .no) } (put γ1 i (.val (.ref a)))) : TryX sub i ts xc d nm fs γ1 := ⟨true, h, fun _ => k, fun z => by cases z⟩
theorem try_out {sub : Nat → Option Bool} {i : Nat} {ts : Addr → Nat → Xf → DS} {xc : DX} {d : DEnds} {nm : Nat} {fs : Xf} {γ1 : Env} (h : sub nm = some false) (k : xc nm fs γ1) : TryX sub i ts xc d nm fs γ1 := ⟨false, h, (fun z => by cases z), fun _ => k⟩
end DL

set_option Elab.async false
set_option linter.all false
set_option maxRecDepth 100000
set_option maxHeartbeats 2000000
namespace DL
open PySem PySem.Spec PyProof.Rows L2
open Evl (Ex ex_l ex_t)
/-! ### instances of the text's own classes -/
section
variable {K : KZ} {F H : Hp}
theorem Rs.obj {C : String} {fs : List (Str × D)} {v : V} (e : Ex F H) (h : Rs K F H v (.obj C fs)) : ∃ a dx fv, v = .ref a ∧ H a = some (.ins (ctOf K.fr C) dx fv) ∧ RpFs K F fv fs := by
  rcases h with h | ⟨a, rfl, ⟨_, _, z, _⟩ | ⟨_, dx, fv, fs', z, h1, h2, h3⟩ | ⟨_, _, z, _⟩⟩
  · cases h with
    | obj h1 h2 h3 => exact ⟨_, _, _, rfl, e _ _ h1, h3⟩
  · cases z
  · cases z; exact ⟨a, dx, fv, rfl, h1, h3⟩
  · cases z
def putD (f : Str) (v : D) : List (Str × D) → List (Str × D)
  | [] => [(f, v)]
  | (g, x) :: r => if g = f then (g, v) :: r else (g, x) :: putD f v r
theorem putD_nil {f : Str} {v : D} : putD f v [] = [(f, v)] := rfl
theorem putD_cons {f g : Str} {v x : D} {r : List (Str × D)} : putD f v ((g, x) :: r) = if g = f then (g, v) :: r else (g, x) :: putD f v r := rfl
theorem put_rp {f : Str} {v : V} {d : D} (r : Rp K F v d) : ∀ {fv : List (Str × V)} {fs : List (Str × D)}, RpFs K F fv fs → RpFs K F (putF f v fv) (putD f d fs)
  | _, _, .nil => .cons r .nil
  | _, _, @RpFs.cons _ _ g x vs y ds r1 t => by
    unfold putF putD
    by_cases e : g = f
    · rw [if_pos e, if_pos e]; exact .cons r t
    · rw [if_neg e, if_neg e]; exact .cons r1 (put_rp r t)
theorem fs_len : ∀ {fv : List (Str × V)} {fs : List (Str × D)}, RpFs K F fv fs → fv.length = fs.length
  | _, _, .nil => rfl
  | _, _, .cons _ t => by rw [List.length_cons, List.length_cons, fs_len t]
theorem fs_none {n : Str} : ∀ {fv : List (Str × V)} {fs : List (Str × D)}, RpFs K F fv fs → fs.lookup n = none → fv.lookup n = none
  | _, _, .nil, h => rfl
  | _, _, @RpFs.cons _ _ m v vs d ds r t, h => by
    by_cases e : n = m
    · subst e
      simp [List.lookup] at h
    · have e' : (n == m) = false := by simpa using e
      simp only [List.lookup, e'] at h ⊢
      exact fs_none t h
end
/-- class, attribute: a plain attribute -/
abbrev FT := String → Str → Bool
def FtOk (K : PySem.W.Frag) (tab : FT) : Prop := ∀ C f, tab C f = true → Cls K (ctOf K C) ∧ NoAttr K (ctOf K C) f
def fFld (tab : FT) (f : Str) : D → (RS → Prop) → Prop
  | .obj C fs, q => tab C f = true ∧ ∃ d, fs.lookup f = some d ∧ q (.val d)
  | _, _ => False
def rFld (K : PySem.W.Frag) (f : Str) : V → Hp → VK → Prop := fun x H Q => ∃ a C dx fs v, x = .ref a ∧ H a = some (.ins C dx fs) ∧ Cls K C ∧ NoAttr K C f ∧ fs.lookup f = some v ∧ Q v H
theorem ud_fld {K : PySem.W.Frag} {tab : FT} {f : Str} (ht : FtOk K tab) : UnD K (rFld K f) (fFld tab f) := fun B F H σ γ x d Q q R rx hf k => by
  unfold fFld at hf
  split at hf
  · rename_i C fs
    obtain ⟨h1, d, hd, hq⟩ := hf
    obtain ⟨a, dx, fv, rfl, h2, h3⟩ := rx.obj R.fh
    obtain ⟨v, hv, r⟩ := fs_get h3 hd
    obtain ⟨c, n⟩ := ht C f h1
    exact ⟨a, _, dx, fv, v, rfl, h2, c, n, hv, vk R k r hq⟩
  · exact hf.elim
theorem x_fld {X : Cx} {B : Bs} {e : Expr} {te : TE} {de : DE} {tab : FT} {pos : Pos} (f : Str) (ht : FtOk X.K tab) (h : XE X B e te de) (hb : attributeBase e f X.env (eval e X.env) = eval e X.env := by rfl) : XE X B (.Attribute e f pos) (tFld X.K te f) (d1 (fFld tab f) de) := ⟨pe_fld h.pe hb, se_un (ud_fld ht) h.se⟩
section
variable {K : PySem.W.Frag} {B : Bs} {F F' H H' : Hp} {σ : L2.St} {γ : Env}
/-- the instance in slot j is written anew -/
theorem Rep.writeI (R : Rep K B F H σ γ) {j : Nat} {p : Option Nat} {C : String} {fs fs' : List (Str × D)} {a dx : Addr} {fv fv' : List (Str × V)} (hl : look γ j = .own p (.ins C fs)) (hs : σ[j]? = some (some (.ref a))) (ha : H a = some (.ins (ctOf K C) dx fv)) (r : RpFs (B.kz K) F fv' fs') :
    Rep K B F (upd H a (.ins (ctOf K C) dx fv')) σ (put γ j (.own p (.ins C fs'))) := by
  obtain ⟨a', hs', hg, fa, ok⟩ := R.own hl
  obtain rfl : a = a' := by rw [hs] at hs'; cases hs'; rfl
  have ne_own : ∀ {b x : Addr}, H b = some (.own x) → b ≠ a := fun h e => by
    subst e
    rw [ha] at h; cases h
  have key : ∀ {i : Nat} {q : Option Nat} {c : OC}, (put γ j (.own p (.ins C fs')))[i]? = some (.own q c) → ∃ c0, γ[i]? = some (.own q c0) ∧ ((i = j ∧ c = .ins C fs') ∨ (i ≠ j ∧ c0 = c)) := fun h => by
    rcases get_put h with ⟨rfl, e⟩ | ⟨n, e⟩
    · injection e with e1 e2
      subst e1; subst e2
      exact ⟨_, hg, .inl ⟨rfl, rfl⟩⟩
    · exact ⟨_, e, .inr ⟨n, rfl⟩⟩
  refine ⟨fun b o e => ?_, by rw [put_len]; exact R.len, fun i s t h1 h2 => ?_, fun i i' b q c q' c' h1 h2 h3 h4 => ?_, fun b o e => ?_, R.b2, R.b3, fun i b q c h1 h2 => ?_, fun i b q c h1 h2 => ?_, fun b o e => ?_, fun b o e => ?_⟩
  · have n : b ≠ a := fun z => by subst z; rw [fa] at e; cases e
    rw [upd_ne n]; exact R.fh b o e
  · rcases get_put h2 with ⟨rfl, rfl⟩ | ⟨n, e⟩
    · rw [hs] at h1; cases h1
      obtain ⟨dx', fv0, q1, q2, q3, q4, q5, q6⟩ := ok
      rw [ha] at q1
      cases q1
      exact ⟨a, rfl, fa, dx, fv', upd_same, (upd_ne (ne_own q2)).trans q2, q3, q4, q5, r⟩
    · have q := R.sl i s t h1 e
      cases t with
      | no => trivial
      | val d => exact q
      | own q' c =>
        obtain ⟨b, e', f, ok'⟩ := q
        subst e'
        have nb : b ≠ a := fun z => by subst z; exact n (R.nd i j b q' c p (.ins C fs) e hg h1 hs)
        exact ⟨b, rfl, f, ok'.heap (upd_ne nb) fun dx hd => upd_ne (ne_own hd)⟩
  · obtain ⟨_, y1, _⟩ := key h1
    obtain ⟨_, y2, _⟩ := key h2
    exact R.nd i i' b q _ q' _ y1 y2 h3 h4
  · obtain ⟨x1, o', x2⟩ := R.b1 b o e
    by_cases hb : b = a
    · subst hb
      rw [upd_same]
      refine ⟨fun n => ?_, _, rfl⟩
      rcases R.b5 j b p _ hg hs with z | z
      · exact absurd z n
      · rw [e] at z; cases z
    · rw [upd_ne hb]; exact ⟨x1, o', x2⟩
  · obtain ⟨_, y1, _⟩ := key h1
    exact R.b4 i b q _ y1 h2
  · obtain ⟨_, y1, _⟩ := key h1
    exact R.b5 i b q _ y1 h2
  · obtain ⟨o', x2⟩ := R.bN b o e
    by_cases hb : b = a
    · subst hb; exact ⟨_, upd_same⟩
    · rw [upd_ne hb]; exact ⟨o', x2⟩
  · obtain ⟨o', x2, kn⟩ := R.bd b o e
    by_cases hb : b = a
    · subst hb
      rw [ha] at x2
      cases x2
      exact ⟨_, upd_same, kn.trans ⟨_, rfl⟩⟩
    · rw [upd_ne hb]; exact ⟨o', x2, kn⟩
theorem kept_rp {v : V} {s : RS} (o : RsOk K B F H σ γ v s.fz) (hk : s.kept) : Rp (B.kz K) F v s.data := by
  cases s with
  | val x => exact o
  | new c => exact o
  | own j c => exact hk.elim
end
/-- name.f = e -/
def dSetF (tab : FT) (j : Nat) (f : Str) (de : DE) (d : DEnds) (γ : Env) : Prop := de γ fun s γ1 => s.kept ∧ match look γ1 j with
  | .own p (.ins C fs) => tab C f = true ∧ fs.length < 1000 ∧ d.nx (put γ1 j (.own p (.ins C (putD f s.data fs))))
  | _ => False
def dAugF (tab : FT) (j : Nat) (f : Str) (g : Int → Int → Int) (de : DE) (d : DEnds) (γ : Env) : Prop := match look γ j with
  | .own _ (.ins C fs) => tab C f = true ∧ ∃ i, fs.lookup f = some (.int i) ∧ de γ fun s γ1 => match s.data, look γ1 j with
    | .int k, .own p (.ins C' fs') => C' = C ∧ fs'.length < 1000 ∧ d.nx (put γ1 j (.own p (.ins C (putD f (.int (g i k)) fs'))))
    | _, _ => False
  | _ => False
section
variable {X : Cx} {B : Bs} {e : Expr} {te : TE} {de : DE} {tab : FT} {pos pos' p3 : Pos}
theorem s_setF (j : Nat) (f : Str) {o : Str} (ht : FtOk X.K tab) (he : XE X B e te de) (hN : X.N[j]? = some o := by rfl) (hv : Vis X.env.scope o := by first | exact Or.inl rfl | exact Or.inr (Or.inl rfl) | exact Or.inr (Or.inr rfl)) (hd : (o == ("__debug__" : Str)) = false := by decide) (hcd : (o == ("__classdict__" : Str)) = false := by decide)
    (hs : swapsWith e (some (.Attribute (.Name o p3) f pos')) pos.line X.env = pure false := by rfl) : XS X B (.Assign [.Attribute (.Name o p3) f pos'] e pos) (sFld X.K (tVar j) te f) (dSetF tab j f de) := ⟨ps_fld (pe_var hN hv hd hcd) he.pe hs, fun F H σ γ E d R hq k => by
  refine he.se F H σ γ _ _ R hq fun v F1 H1 γ1 s R1 e1 o1 ⟨hk, q⟩ => ?_
  obtain ⟨F2, R2, e2, o2⟩ := o1.fz R1
  split at q
  · rename_i p C fs hl
    obtain ⟨a, hs, hg, fa, dx, fv, ha, q2, q3, q4, q5, q6⟩ := R2.own hl
    obtain ⟨c, n⟩ := ht C f q.1
    exact ⟨_, hs, a, _, dx, fv, rfl, ha, c, n, by rw [fs_len q6]; exact q.2.1, k.nx F2 _ σ _ (R2.writeI hl hs ha (put_rp (kept_rp o2 hk) q6)) (e1.trans e2) q.2.2⟩
  · exact q.elim⟩
theorem s_augF (j : Nat) (f : Str) {o : Str} {op : Operator} {g : Int → Int → Int} {rd : V → V → Hp → VK → Prop} (ht : FtOk X.K tab) (he : XE X B e te de) (hop : InOp X op rd) (hrd : ∀ i k H Q, Q (.int (g i k)) H → rd (.int i) (.int k) H Q) (hN : X.N[j]? = some o := by rfl) (hv : Vis X.env.scope o := by first | exact Or.inl rfl | exact Or.inr (Or.inl rfl) | exact Or.inr (Or.inr rfl)) (hd : (o == ("__debug__" : Str)) = false := by decide) (hcd : (o == ("__classdict__" : Str)) = false := by decide) :
    XS X B (.AugAssign (.Attribute (.Name o p3) f pos') op e pos) (sFldAug X.K (tVar j) te rd f) (dAugF tab j f g de) := ⟨ps_fldaug (pe_var hN hv hd hcd) he.pe hop, fun F H σ γ E d R hq k => by
  unfold dAugF at hq
  split at hq
  · rename_i p C fs hl
    obtain ⟨h1, i, hi, hq⟩ := hq
    obtain ⟨a, hs, hg, fa, dx, fv, ha, q2, q3, q4, q5, q6⟩ := R.own hl
    obtain ⟨c, n⟩ := ht C f h1
    obtain ⟨u, hu, ru⟩ := fs_get q6 hi
    cases ru
    refine ⟨_, hs, a, _, dx, fv, _, rfl, ha, c, n, hu, ?_⟩
    refine he.se F H σ γ _ _ R hq fun v F1 H1 γ1 s R1 e1 o1 q => ?_
    split at q
    · rename_i kk p' C' fs' es hl'
      obtain ⟨rfl, hlen, hq⟩ := q
      have rv := o1.rs R1
      rw [es] at rv
      obtain ⟨a', hs', hg', fa', dx', fv', ha', q2', q3', q4', q5', q6'⟩ := R1.own hl'
      obtain rfl : a = a' := by rw [hs] at hs'; cases hs'; rfl
      rw [rv.int]
      exact hrd i kk _ _ ⟨dx', fv', ha', by rw [fs_len q6']; exact hlen, k.nx F1 _ σ _ (R1.writeI hl' hs ha' (put_rp (.int _) q6')) e1 hq⟩
    · exact q.elim
  · exact hq.elim⟩
end
/-- C(..) -/
def dMake (C : String) (n : Nat) (fs : FS) (dds : List D) (da : DA) (γ : Env) (q : RS → Env → Prop) : Prop := da γ fun rs γ1 => allV rs ∧ rs.length + dds.length + 1 = n ∧
  fs (.own (some 0) (.ins C []) :: ((rs.map RS.data).map Sx.val ++ dds.map Sx.val)) fun r as' => r = .val .non ∧ match as' with
    | .own _ (.ins C' fs') :: _ => C' = C ∧ q (.new (.ins C fs')) γ1
    | _ => False
section
variable {K : PySem.W.Frag} {B : Bs} {F1 H1 : Hp} {σ : L2.St} {γ1 : Env} {vs : List V} {ds : List D}
theorem make_entry {C : String} {x dx : Addr} (fh : Ex F1 H1) (ra : RpAll (B.kz K) F1 vs ds) (hx : H1 x = none) (hdx : H1 dx = none) (ne : dx ≠ x) (Z : ZN (upd (upd H1 dx (.own x)) x (.ins (ctOf K C) dx []))) (hZ : Z.1 = B.z) :
    Rep K (entry F1 (upd (upd H1 dx (.own x)) x (.ins (ctOf K C) dx [])) [x, dx] Z (.ref x :: vs)) F1 (upd (upd H1 dx (.own x)) x (.ins (ctOf K C) dx [])) ((V.ref x :: vs).map some) (.own (some 0) (.ins C []) :: ds.map Sx.val) := by
  have one : ∀ {i : Nat} {p : Option Nat} {c : OC}, (Sx.own (some 0) (.ins C []) :: ds.map Sx.val)[i]? = some (.own p c) → i = 0 ∧ p = some 0 ∧ c = .ins C [] := fun {i p c} h => by
    cases i with
    | zero => simp at h; exact ⟨rfl, h.1.symm, h.2.symm⟩
    | succ i =>
      simp only [List.getElem?_cons_succ, List.getElem?_map] at h
      cases q : ds[i]? with
      | none => rw [q] at h; cases h
      | some d => rw [q] at h; cases h
  have fx : F1 x = none := by
    cases e : F1 x with
    | none => rfl
    | some o => have := fh _ _ e; rw [hx] at this; cases this
  have fdx : F1 dx = none := by
    cases e : F1 dx with
    | none => rfl
    | some o => have := fh _ _ e; rw [hdx] at this; cases this
  refine ⟨fun b o e => ?_, by rw [List.length_map, List.length_cons, List.length_cons, List.length_map, P_len ra.p], fun i s t hs hg => ?_, fun i j a p c q c' h1 h2 h3 h4 => ?_, fun b o e => ⟨fun _ => e, o, e⟩, Evl.Ex.refl F1, fun b o _ _ => rfl, fun i a p c h1 h2 => ?_, fun i a p c h1 h2 => ?_, fun b o e => ⟨o, e⟩, fun a o e => ⟨o, e, .refl o⟩⟩
  · have n1 : b ≠ x := fun z => by subst z; rw [fx] at e; cases e
    have n2 : b ≠ dx := fun z => by subst z; rw [fdx] at e; cases e
    rw [upd_ne n1, upd_ne n2]; exact fh b o e
  · cases i with
    | zero =>
      simp at hs hg
      subst hs; subst hg
      refine ⟨x, rfl, fx, dx, [], upd_same, by rw [upd_ne ne]; exact upd_same, fdx, fun z => ?_, .inl (by show dx ∈ [x, dx]; simp), .nil⟩
      exact absurd (show (upd (upd H1 dx (.own x)) x (.ins (ctOf K C) dx [])) x = none from z) (by rw [upd_same]; simp)
    | succ i =>
      simp only [List.map_cons, List.getElem?_cons_succ, List.getElem?_map] at hs hg
      cases q : ds[i]? with
      | none => rw [q] at hg; cases hg
      | some d =>
        rw [q] at hg
        cases hg
        obtain ⟨v, hv, r⟩ := P_get ra.p q
        rw [hv] at hs
        refine ⟨v, (Option.some.inj hs).symm, ?_⟩
        have e : (entry F1 (upd (upd H1 dx (.own x)) x (.ins (ctOf K C) dx [])) [x, dx] Z (.ref x :: vs)).kz K = B.kz K := by
          show (⟨K, Z.1⟩ : KZ) = ⟨K, B.z⟩
          rw [hZ]
        rw [e]
        exact r
  · obtain ⟨rfl, _⟩ := one h1
    obtain ⟨rfl, _⟩ := one h2
    rfl
  · obtain ⟨rfl, rfl, rfl⟩ := one h1
    simp at h2
    subst h2
    exact ⟨fun k hk => by cases hk; rfl, fun z => by cases z⟩
  · obtain ⟨rfl, rfl, rfl⟩ := one h1
    simp at h2
    subst h2
    exact .inl (by show x ∈ [x, dx]; simp)
/-- later: the heap has grown, more stays -/
theorem Rep.later (R1 : Rep K B F1 H1 σ γ1) {F3 H3 : Hp} (fh : Ex F3 H3) (eH : Ex H1 H3) (eF : Ex F1 F3) (sF : ∀ b o, H1 b = some o → F3 b = F1 b) : Rep K B F3 H3 σ γ1 := by
  have R2 := R1.grow eH
  refine ⟨fh, R2.len, fun i s t hs hg => ?_, R2.nd, R2.b1, R2.b2.trans eF, fun b o e n => ?_, R2.b4, R2.b5, R2.bN, R2.bd⟩
  · have q1 := R1.sl i s t hs hg
    cases t with
    | no => trivial
    | val d => obtain ⟨v, e, r⟩ := q1; exact ⟨v, e, r.mono eF⟩
    | own p c =>
      obtain ⟨a, e, f, ok⟩ := q1
      subst e
      obtain ⟨o, ho, _⟩ := ok.obj
      refine ⟨a, rfl, (sF a o ho).trans f, ?_⟩
      cases c with
      | lst ds => obtain ⟨vs, h1, h2⟩ := ok; exact ⟨vs, eH _ _ h1, h2.mono eF⟩
      | dct ds => obtain ⟨vs, h1, h2⟩ := ok; exact ⟨vs, eH _ _ h1, h2.mono eF⟩
      | ins C fs => obtain ⟨dx, fv, h1, h2, h3, h4, h5, h6⟩ := ok; exact ⟨dx, fv, eH _ _ h1, eH _ _ h2, (sF dx _ h2).trans h3, h4, h5, h6.mono eF⟩
  · obtain ⟨_, o2, e2⟩ := R1.b1 b o e
    exact (sF b o2 e2).trans (R1.b3 b o e n)
theorem make_exit {C : String} {x dx : Addr} {p : Option Nat} {fs' : List (Str × D)} {rest : List Sx} {F3 H3 : Hp} (R1 : Rep K B F1 H1 σ γ1) (hx : H1 x = none) (hdx : H1 dx = none) (ne : dx ≠ x) {Z : ZN (upd (upd H1 dx (.own x)) x (.ins (ctOf K C) dx []))} (hZ : Z.1 = B.z)
    (R3 : Rep K (entry F1 (upd (upd H1 dx (.own x)) x (.ins (ctOf K C) dx [])) [x, dx] Z (.ref x :: vs)) F3 H3 ((V.ref x :: vs).map some) (.own p (.ins C fs') :: rest)) :
    Rep K B F3 H3 σ γ1 ∧ Ex F1 F3 ∧ RsOk K B F3 H3 σ γ1 (.ref x) (.new (.ins C fs')) := by
  have h2 : ∀ b o, H1 b = some o → (upd (upd H1 dx (.own x)) x (.ins (ctOf K C) dx [])) b = some o ∧ b ∉ [x, dx] := fun b o e => by
    have n1 : b ≠ x := fun z => by subst z; rw [hx] at e; cases e
    have n2 : b ≠ dx := fun z => by subst z; rw [hdx] at e; cases e
    exact ⟨by rw [upd_ne n1, upd_ne n2]; exact e, by simp [n1, n2]⟩
  have eH : Ex H1 H3 := fun b o e => (R3.b1 b o (h2 b o e).1).1 (h2 b o e).2
  have sF : ∀ b o, H1 b = some o → F3 b = F1 b := fun b o e => R3.b3 b o (h2 b o e).1 (h2 b o e).2
  have R4 := R1.later R3.fh eH R3.b2 sF
  refine ⟨R4, R3.b2, x, rfl, ?_⟩
  obtain ⟨a, ea, fa, dx', fv, q1, q2, q3, q4, q5, q6⟩ := R3.sl 0 _ _ rfl rfl
  cases ea
  obtain ⟨o', g1, fs2, g2⟩ := R3.bd x _ (show (entry F1 (upd (upd H1 dx (.own x)) x (.ins (ctOf K C) dx [])) [x, dx] Z (.ref x :: vs)).H x = some (.ins (ctOf K C) dx []) from upd_same)
  subst g2
  rw [g1] at q1
  cases q1
  obtain ⟨f1, f2, f3, f4⟩ := R1.fresh hx
  obtain ⟨d1, d2, d3, d4⟩ := R1.fresh hdx
  refine ⟨fa, ⟨dx, fv, g1, q2, q3, fun _ => d3, .inr d2, ?_⟩, f3, .inr f2, f4⟩
  have e : (entry F1 (upd (upd H1 dx (.own x)) x (.ins (ctOf K C) dx [])) [x, dx] Z (.ref x :: vs)).kz K = B.kz K := by
    show (⟨K, Z.1⟩ : KZ) = ⟨K, B.z⟩
    rw [hZ]
  rw [e] at q6
  exact q6
theorem se_make {C : String} {n : Nat} {fs : FS} {dvs : List V} {dds : List D} {E : XK} {ta : TA} {da : DA} (h : SA K B ta da) (od : Paired (fun v d => ∀ z F, Rp ⟨K, z⟩ F v d) dvs dds) : SE K B (tMake (ctOf K C) (spOf K n fs) dvs E ta) (dMake C n fs dds da) := fun F H σ γ Q q R hq k => by
  refine h F H σ γ _ _ R hq fun vs F1 H1 γ1 rs R1 e1 o1 ⟨h0, h2, h3⟩ x dx hx hdx ne => ?_
  have all : RpAll (B.kz K) F1 (vs ++ dvs) (rs.map RS.data ++ dds) := RpAll.of (P_app (allV_rp o1 h0).p (P_mono (fun v d z => z _ _) od))
  let Z : ZN (upd (upd H1 dx (.own x)) x (.ins (ctOf K C) dx [])) := ⟨B.z, fun a ha => by
    obtain ⟨o, e⟩ := R1.znp a ha
    have n1 : a ≠ x := fun z => by subst z; rw [hx] at e; cases e
    have n2 : a ≠ dx := fun z => by subst z; rw [hdx] at e; cases e
    exact ⟨o, by rw [upd_ne n1, upd_ne n2]; exact e⟩⟩
  have RE := make_entry (C := C) R1.fh all hx hdx ne Z rfl
  rw [List.map_append] at RE
  refine ⟨by simp only [List.length_cons, List.length_append]; rw [P_len o1, P_len od]; omega, F1, _, Z, _, _, RE, h3, fun r as' v F3 H3 ⟨hr, hp⟩ R3 ok hk => ?_⟩
  subst hr
  split at hp
  · rename_i p C' fs' rest
    obtain ⟨rfl, hp⟩ := hp
    obtain ⟨R4, e4, o4⟩ := make_exit R1 hx hdx ne rfl R3
    have ok' : Rp _ F3 v .non := ok
    cases ok'
    exact ⟨rfl, k _ F3 H3 γ1 _ R4 (e1.trans e4) o4 hp⟩
  · exact hp.elim
end
section
variable {X : Cx} {B : Bs} {a : Expr} {es : List Expr} {ta : TA} {da : DA} {k n : Nat} {C : String} {f : Addr} {fd : FuncData} {ps : List Str} {fs : FS} {x : Str} {p pos : Pos}
theorem x_make (K : PySem.W.Frag) (hK : X.K = K) (M : Mk X.K (ctOf X.K C) f) (G : FnOk X.prog X.w X.K X.mg X.base CX0 k f fd ps (spOf X.K n fs)) (hr : Room (k + 1) X.A) (hm : X.mg x = some (.ref (ctOf X.K C))) (hb : Binds X.K fd ps []) (h : XA X B (a :: es) ta da)
    (hg : Gl X x := by rfl) (hdb : (x == ("__debug__" : Str)) = false := by decide) (he : starEach (a :: es) X.env = (false, eval a X.env) :: starEach es X.env := by rfl) (hpl : (backTo pos (starEach es X.env)).any (·.1) = false := by rfl) :
    XE X B (.Call (.Name x p) (a :: es) [] pos) (tMake (ctOf K C) (spOf K n fs) [] E0 ta) (dMake C n fs [] da) := by
  subst hK
  exact ⟨pe_make M G hr hg hm hb .nil pass0 h.pa hdb he hpl, se_make h.sa .nil⟩
theorem x_makeD {dvs : List V} {dds : List D} {ds : List Value} (K : PySem.W.Frag) (hK : X.K = K) (M : Mk X.K (ctOf X.K C) f) (G : FnOk X.prog X.w X.K X.mg X.base CX0 k f fd ps (spOf X.K n fs)) (hr : Room (k + 1) X.A) (hm : X.mg x = some (.ref (ctOf X.K C))) (hb : Binds X.K fd ps ds) (hd : Vals dvs ds) (od : Paired (fun v d => ∀ z F, Rp ⟨X.K, z⟩ F v d) dvs dds) (h : XA X B (a :: es) ta da)
    (hg : Gl X x := by rfl) (hdb : (x == ("__debug__" : Str)) = false := by decide) (he : starEach (a :: es) X.env = (false, eval a X.env) :: starEach es X.env := by rfl) (hpl : (backTo pos (starEach es X.env)).any (·.1) = false := by rfl) :
    XE X B (.Call (.Name x p) (a :: es) [] pos) (tMake (ctOf K C) (spOf K n fs) dvs E0 ta) (dMake C n fs dds da) := by
  subst hK
  exact ⟨pe_make M G hr hg hm hb hd pass0 h.pa hdb he hpl, se_make h.sa od⟩
theorem x_make0 {dvs : List V} {dds : List D} {ds : List Value} (K : PySem.W.Frag) (hK : X.K = K) (M : Mk X.K (ctOf X.K C) f) (G : FnOk X.prog X.w X.K X.mg X.base CX0 k f fd ps (spOf X.K n fs)) (hr : Room (k + 1) X.A) (hm : X.mg x = some (.ref (ctOf X.K C))) (hb : Binds X.K fd ps ds) (hd : Vals dvs ds) (od : Paired (fun v d => ∀ z F, Rp ⟨X.K, z⟩ F v d) dvs dds)
    (hg : Gl X x := by rfl) (hdb : (x == ("__debug__" : Str)) = false := by decide) :
    XE X B (.Call (.Name x p) [] [] pos) (tMake (ctOf K C) (spOf K n fs) dvs E0 tNil) (dMake C n fs dds dNil) := by
  subst hK
  exact ⟨pe_make0 M G hr hg hm hb hd pass0 hdb, se_make sa_nil od⟩
end
/-- a new thing that will not change -/
def dFz (de : DE) (γ : Env) (q : RS → Env → Prop) : Prop := de γ fun s γ1 => match s with
  | .new c => q (.val c.data) γ1
  | s => q s γ1
theorem x_fz {X : Cx} {B : Bs} {e : Expr} {te : TE} {de : DE} (h : XE X B e te de) : XE X B e te (dFz de) := ⟨h.pe, fun F H σ γ Q q R hq k => by
  refine h.se F H σ γ _ _ R hq fun v F1 H1 γ1 s R1 e1 o1 h1 => ?_
  obtain ⟨F2, R2, e2, o2⟩ := o1.fz R1
  cases s with
  | val d => exact k v F1 H1 γ1 _ R1 e1 o1 h1
  | own j c => exact k v F1 H1 γ1 _ R1 e1 o1 h1
  | new c => exact k v F2 H1 γ1 (.val c.data) R2 (e1.trans e2) o2 h1⟩
/-! ### methods -/
/-- what a method of the class is -/
inductive Disp (P : Program) (w : World) (K : PySem.W.Frag) (mg : Str → Option Value) (base : Heap) (CX : CXT) (km : Nat) (m : Str) (C : Addr) (sp : Sp) : Prop
  | mk {k : Nat} {f : Addr} {fd : FuncData} {ps : List Str} : Cls K C → Meth K C m f → FnOk P w K mg base CX k f fd ps sp → k ≤ km → Binds K fd ps [] → Disp P w K mg base CX km m C sp
def tMethP (P : Program) (w : World) (K : PySem.W.Frag) (mg : Str → Option Value) (base : Heap) (CX : CXT) (km : Nat) (m : Str) (E : L2.St → XK) (ta : TE) (t : TA) : TE := fun σ H Q => ta σ H fun x H1 => ∃ a C dx fs sp, x = .ref a ∧ H1 a = some (.ins C dx fs) ∧ fs.lookup m = none ∧ Disp P w K mg base CX km m C sp ∧
  t σ H1 fun vs H2 => sp (x :: vs) H2 Q (E σ)
section
variable {X : Cx} {CX : CXT} {km : Nat} {m : Str} {o e : Expr} {es : List Expr} {apos pos : Pos} {ta : TE} {t : TA} {E : L2.St → XK}
theorem run_fnS {k : Nat} {f : Addr} {fd : FuncData} {ps : List Str} {sp : Sp} {pins : List (Addr × Obj)} {σ : L2.St} {H : Hp} {s : Shared} {Q : VK} {us : List Value} {vs : List V} (F : FnOk X.prog X.w X.K X.mg X.base CX k f fd ps sp) (hr : Room k X.A) (hb : Binds X.K fd ps []) (hx : ∀ σ, PassesAt CX X σ (E σ))
    (I : Inv X pins σ H s) (r : Vals vs us) (h : sp vs H Q (E σ)) : wpAny (model X.prog X.w) X.A (call (.ref f) us) (EP X pins σ Q) X.xe s := by
  have hl : (us ++ []).length = ps.length := by rw [List.append_nil, ← r.length]; exact F.len _ _ _ _ h
  have hb' := hb s us I.kIn hl
  rw [List.append_nil] at hb'
  refine wpAny_call (codeAny_mono (F.run X.A X.stack s H ⟨us, []⟩ us vs Q (E σ) hr I.env0 hb' r h) fun r s' hq => ?_)
  cases r with
  | error e => exact hx σ pins H s e s' I hq
  | ok fl =>
    cases fl with
    | ret u => exact I.after hq
    | next => exact False.elim hq
    | brk => exact False.elim hq
    | cont => exact False.elim hq
theorem pe_methP {pl : Sem Bool} (he : PE X o ta) (hr : Room km X.A) (hx : ∀ σ, PassesAt CX X σ (E σ)) (ha : PA X (e :: es) t)
    (hst : starEach (e :: es) X.env = (false, eval e X.env) :: starEach es X.env := by rfl) (hpl : (backTo pos (starEach es X.env)).any (·.1) = false := by rfl)
    (ht : eval (.Call (.Attribute o m apos) (e :: es) [] pos) X.env = (do
      let ov ← eval o X.env
      standAt apos.atName
      let (f, first) ← holding [ov] (getMethod ov m pl)
      callWith pos f first (backTo pos (starEach (e :: es) X.env)) (backToKw pos (keywordEach [] X.env))) := by rfl) :
    PE X (.Call (.Attribute o m apos) (e :: es) [] pos) (tMethP X.prog X.w X.K X.mg X.base CX km m E ta t) := by
  refine ⟨fun pins s σ H Q I h => ?_⟩
  refine PySem.W.methodCall_KW (pl := pl) (thn (he.run pins s σ H _ I h) fun u s1 ⟨x, H1, I1, rx, a, C, dx, fs, sp, ex, ea, l, dp, q⟩ => ?_) ht
  subst ex
  obtain rfl : u = Value.ref a := rx
  obtain ⟨c, hm, F, hk, hb⟩ := dp
  refine getmeth_ok I1 ea c hm l ?_
  refine PySem.W.callWith_K (first := [.ref a]) (h₀ := X.base) I.ok.mod.kin hm.kp (thn (ha.run pos pins s1 σ H1 _ I1 q) fun us s2 ⟨vs, H2, I2, r, q2⟩ => ⟨I2.kIn, ?_⟩) hst hpl
  exact run_fnS (us := .ref a :: us) (vs := .ref a :: vs) F (hr.mono hk) hb hx I2 (.cons rfl r) q2
theorem pe_methP0 {pl : Sem Bool} (he : PE X o ta) (hr : Room km X.A) (hx : ∀ σ, PassesAt CX X σ (E σ))
    (ht : eval (.Call (.Attribute o m apos) [] [] pos) X.env = (do
      let ov ← eval o X.env
      standAt apos.atName
      let (f, first) ← holding [ov] (getMethod ov m pl)
      callWith pos f first (backTo pos (starEach [] X.env)) (backToKw pos (keywordEach [] X.env))) := by rfl) :
    PE X (.Call (.Attribute o m apos) [] [] pos) (tMethP X.prog X.w X.K X.mg X.base CX km m E ta tNil) := by
  refine ⟨fun pins s σ H Q I h => ?_⟩
  refine PySem.W.methodCall_KW (pl := pl) (thn (he.run pins s σ H _ I h) fun u s1 ⟨x, H1, I1, rx, a, C, dx, fs, sp, ex, ea, l, dp, q⟩ => ?_) ht
  subst ex
  obtain rfl : u = Value.ref a := rx
  obtain ⟨c, hm, F, hk, hb⟩ := dp
  refine getmeth_ok I1 ea c hm l ?_
  exact PySem.W.callWith_K0 (first := [.ref a]) I1.kIn hm.kp (run_fnS (us := [.ref a]) (vs := [.ref a]) F (hr.mono hk) hb hx I1 (.cons rfl .nil) q)
end
/-- classes, and what the method does there -/
abbrev MT := String → Option FS
abbrev MTX := String → Option FSX
def dMeth (m : Str) (n : Nat) (tb : MT) (de : DE) (da : DA) (γ : Env) (q : RS → Env → Prop) : Prop := de γ fun s γ1 => match s.data with
  | .obj C fl => fl.lookup m = none ∧ ∃ fs, tb C = some fs ∧ da γ1 fun rs γ2 => s.now γ2 fun s => (ownIx (s :: rs)).Nodup ∧ rs.length + 1 = n ∧ fs (argsOf 0 (s :: rs)) fun r as' => q r (upds γ2 (s :: rs) as')
  | _ => False
def dMethX (xc : DX) (m : Str) (n : Nat) (tb : MTX) (de : DE) (da : DA) (γ : Env) (q : RS → Env → Prop) : Prop := de γ fun s γ1 => match s.data with
  | .obj C fl => fl.lookup m = none ∧ ∃ fs, tb C = some fs ∧ da γ1 fun rs γ2 => s.now γ2 fun s => (ownIx (s :: rs)).Nodup ∧ rs.length + 1 = n ∧ fs (argsOf 0 (s :: rs)) (fun r as' => q r (upds γ2 (s :: rs) as')) fun nm xs as' => xc nm xs (upds γ2 (s :: rs) as')
  | _ => False
section
variable {P : Program} {w : World} {K : PySem.W.Frag} {mg : Str → Option Value} {base : Heap} {km : Nat} {B : Bs} {m : Str} {n : Nat} {te : TE} {de : DE} {ta : TA} {da : DA}
theorem se_meth {tb : MT} (hd : ∀ C fs, tb C = some fs → Disp P w K mg base CX0 km m (ctOf K C) (spOf K n fs)) (he : SE K B te de) (ha : SA K B ta da) : SE K B (tMethP P w K mg base CX0 km m (fun _ => E0) te ta) (dMeth m n tb de da) := fun F H σ γ Q q R hq k => by
  refine he F H σ γ _ _ R hq fun x F1 H1 γ1 s R1 e1 o1 h1 => ?_
  split at h1
  · rename_i C fl es
    obtain ⟨hl, fs, ht, h1⟩ := h1
    have r := o1.rs R1
    rw [es] at r
    obtain ⟨a, dx, fv, rfl, q2, q3⟩ := r.obj R1.fh
    obtain ⟨F2, R2, e2, o2⟩ := o1.fz R1
    refine ⟨a, _, dx, fv, _, rfl, q2, fs_none q3 hl, hd C fs ht, ?_⟩
    refine ha F2 H1 σ γ1 _ _ R2 h1 fun vs F3 H3 γ3 rs R3 e3 o3 h3 => ?_
    obtain ⟨s', o4, h4, h5, h6⟩ := o2.now e3 R3 h3
    have oo : Paired (RsOk K B F3 H3 σ γ3) (.ref a :: vs) (s' :: rs) := .cons o4 o3
    obtain ⟨m', hm, RE⟩ := R3.args (dvs := []) (dds := []) oo .nil h4
    simp only [List.append_nil, List.map_nil] at RE
    refine ⟨by simp only [List.length_cons]; rw [P_len o3]; omega, F3, m', _, _, _, RE, h6, fun r as' v F4 H4 hp R4 ok hk => ?_⟩
    obtain ⟨R5, e5, ok5⟩ := R3.called oo h4 (fun i v hv => hv) hm R4
    exact k v F4 H4 _ r R5 (((e1.trans e2).trans e3).trans e5) (ok5 v r hk ok) hp
  · exact h1.elim
theorem se_methX {ct : Nat → Addr} {W : WX} {xc : DX} {tb : MTX} (hd : ∀ C fs, tb C = some fs → Disp P w K mg base (L2N.CX P w) km m (ctOf K C) (spOfX K ct n fs)) (xo : XOk K ct B W xc) (he : SE K B te de) (ha : SA K B ta da) : SE K B (tMethP P w K mg base (L2N.CX P w) km m (WE W) te ta) (dMethX xc m n tb de da) := fun F H σ γ Q q R hq k => by
  refine he F H σ γ _ _ R hq fun x F1 H1 γ1 s R1 e1 o1 h1 => ?_
  split at h1
  · rename_i C fl es
    obtain ⟨hl, fs, ht, h1⟩ := h1
    have r := o1.rs R1
    rw [es] at r
    obtain ⟨a, dx, fv, rfl, q2, q3⟩ := r.obj R1.fh
    obtain ⟨F2, R2, e2, o2⟩ := o1.fz R1
    refine ⟨a, _, dx, fv, _, rfl, q2, fs_none q3 hl, hd C fs ht, ?_⟩
    refine ha F2 H1 σ γ1 _ _ R2 h1 fun vs F3 H3 γ3 rs R3 e3 o3 h3 => ?_
    obtain ⟨s', o4, h4, h5, h6⟩ := o2.now e3 R3 h3
    have oo : Paired (RsOk K B F3 H3 σ γ3) (.ref a :: vs) (s' :: rs) := .cons o4 o3
    have cc := call_core (W := WE W σ) (ct := ct) (n := n) (fs := fs) (dvs := []) (dds := []) (q := q) .nil R3 oo (fun F' H' γ' nm dd fs R' xd hx => xo F' H' σ γ' nm dd fs R' xd hx) h4 (by simp; omega) (by simpa using h6) fun v F' H' γ' s' R' e' o' hq => k v F' H' γ' s' R' (((e1.trans e2).trans e3).trans e') o' hq
    rw [List.append_nil] at cc
    exact cc
  · exact h1.elim
end
section
variable {X : Cx} {km : Nat} {B : Bs} {o a : Expr} {es : List Expr} {apos pos : Pos} {te : TE} {de : DE} {ta : TA} {da : DA} {n : Nat}
theorem x_meth (P : Program) (w : World) (K : PySem.W.Frag) (mg : Str → Option Value) (base : Heap) (hX : (X.prog, X.w, X.K, X.mg, X.base) = (P, w, K, mg, base)) (hr : Room km X.A) (m : Str) {tb : MT} {pl : Sem Bool} (hd : ∀ C fs, tb C = some fs → Disp P w K mg base CX0 km m (ctOf K C) (spOf K n fs)) (ho : XE X B o te de) (h : XA X B (a :: es) ta da)
    (hst : starEach (a :: es) X.env = (false, eval a X.env) :: starEach es X.env := by rfl) (hpl : (backTo pos (starEach es X.env)).any (·.1) = false := by rfl)
    (ht : eval (.Call (.Attribute o m apos) (a :: es) [] pos) X.env = (do
      let ov ← eval o X.env
      standAt apos.atName
      let (f, first) ← holding [ov] (getMethod ov m pl)
      callWith pos f first (backTo pos (starEach (a :: es) X.env)) (backToKw pos (keywordEach [] X.env))) := by rfl) :
    XE X B (.Call (.Attribute o m apos) (a :: es) [] pos) (tMethP P w K mg base CX0 km m (fun _ => E0) te ta) (dMeth m n tb de da) := by
  cases hX
  exact ⟨pe_methP ho.pe hr (fun _ _ _ _ _ _ h => pass0 _ _ _ _ _ _ h) h.pa hst hpl ht, se_meth hd ho.se h.sa⟩
theorem x_meth0 (P : Program) (w : World) (K : PySem.W.Frag) (mg : Str → Option Value) (base : Heap) (hX : (X.prog, X.w, X.K, X.mg, X.base) = (P, w, K, mg, base)) (hr : Room km X.A) (m : Str) {tb : MT} {pl : Sem Bool} (hd : ∀ C fs, tb C = some fs → Disp P w K mg base CX0 km m (ctOf K C) (spOf K n fs)) (ho : XE X B o te de)
    (ht : eval (.Call (.Attribute o m apos) [] [] pos) X.env = (do
      let ov ← eval o X.env
      standAt apos.atName
      let (f, first) ← holding [ov] (getMethod ov m pl)
      callWith pos f first (backTo pos (starEach [] X.env)) (backToKw pos (keywordEach [] X.env))) := by rfl) :
    XE X B (.Call (.Attribute o m apos) [] [] pos) (tMethP P w K mg base CX0 km m (fun _ => E0) te tNil) (dMeth m n tb de dNil) := by
  cases hX
  exact ⟨pe_methP0 ho.pe hr (fun _ _ _ _ _ _ h => pass0 _ _ _ _ _ _ h) ht, se_meth hd ho.se sa_nil⟩
theorem x_methX (P : Program) (w : World) (K : PySem.W.Frag) (mg : Str → Option Value) (base : Heap) (hX : (X.prog, X.w, X.K, X.mg, X.base) = (P, w, K, mg, base)) (hr : Room km X.A) (m : Str) {ct : Nat → Addr} {W : WX} {xc : DX} {tb : MTX} {pl : Sem Bool} (xo : XOk K ct B W xc) (tk : L2N.Takes X W) (hd : ∀ C fs, tb C = some fs → Disp P w K mg base (L2N.CX P w) km m (ctOf K C) (spOfX K ct n fs)) (ho : XE X B o te de) (h : XA X B (a :: es) ta da)
    (hst : starEach (a :: es) X.env = (false, eval a X.env) :: starEach es X.env := by rfl) (hpl : (backTo pos (starEach es X.env)).any (·.1) = false := by rfl)
    (ht : eval (.Call (.Attribute o m apos) (a :: es) [] pos) X.env = (do
      let ov ← eval o X.env
      standAt apos.atName
      let (f, first) ← holding [ov] (getMethod ov m pl)
      callWith pos f first (backTo pos (starEach (a :: es) X.env)) (backToKw pos (keywordEach [] X.env))) := by rfl) :
    XE X B (.Call (.Attribute o m apos) (a :: es) [] pos) (tMethP P w K mg base (L2N.CX P w) km m (WE W) te ta) (dMethX xc m n tb de da) := by
  cases hX
  exact ⟨pe_methP ho.pe hr (fun σ => L2N.passAt tk σ) h.pa hst hpl ht, se_methX hd xo ho.se h.sa⟩
theorem x_methX0 (P : Program) (w : World) (K : PySem.W.Frag) (mg : Str → Option Value) (base : Heap) (hX : (X.prog, X.w, X.K, X.mg, X.base) = (P, w, K, mg, base)) (hr : Room km X.A) (m : Str) {ct : Nat → Addr} {W : WX} {xc : DX} {tb : MTX} {pl : Sem Bool} (xo : XOk K ct B W xc) (tk : L2N.Takes X W) (hd : ∀ C fs, tb C = some fs → Disp P w K mg base (L2N.CX P w) km m (ctOf K C) (spOfX K ct n fs)) (ho : XE X B o te de)
    (ht : eval (.Call (.Attribute o m apos) [] [] pos) X.env = (do
      let ov ← eval o X.env
      standAt apos.atName
      let (f, first) ← holding [ov] (getMethod ov m pl)
      callWith pos f first (backTo pos (starEach [] X.env)) (backToKw pos (keywordEach [] X.env))) := by rfl) :
    XE X B (.Call (.Attribute o m apos) [] [] pos) (tMethP P w K mg base (L2N.CX P w) km m (WE W) te tNil) (dMethX xc m n tb de dNil) := by
  cases hX
  exact ⟨pe_methP0 ho.pe hr (fun σ => L2N.passAt tk σ) ht, se_methX hd xo ho.se sa_nil⟩
end
end DL

set_option Elab.async false
set_option linter.all false
set_option maxRecDepth 100000
set_option maxHeartbeats 2000000
namespace DL
open PySem PySem.Spec PyProof.Rows L2
open Evl (Ex ex_l ex_t)
/-! ### *e in a display -/
def seqD : D → (List D → Prop) → Prop
  | .lst ds, q => q ds
  | .tup ds, q => q ds
  | .scr ns, q => q (ns.map D.int)
  | _, _ => False
theorem seqD_of {d : D} {q : List D → Prop} (h : seqD d q) : ∃ ds, (d = .lst ds ∨ d = .tup ds ∨ (∃ ns, d = .scr ns ∧ ds = ns.map D.int)) ∧ q ds := by
  unfold seqD at h
  split at h
  · exact ⟨_, .inl rfl, h⟩
  · exact ⟨_, .inr (.inl rfl), h⟩
  · exact ⟨_, .inr (.inr ⟨_, rfl, rfl⟩), h⟩
  · exact h.elim
theorem vals_ok {K : PySem.W.Frag} {B : Bs} {F H : Hp} {σ : L2.St} {γ : Env} : ∀ {vs : List V} {ds : List D}, RpAll (B.kz K) F vs ds → Paired (RsOk K B F H σ γ) vs (ds.map RS.val)
  | _, _, .nil => .nil
  | _, _, .cons h t => .cons h (vals_ok t)
def dStar (de : DE) (dr : DA) (γ : Env) (q : List RS → Env → Prop) : Prop := de γ fun s γ1 => seqD s.data fun ds => dr γ1 fun rs γ2 => q (ds.map RS.val ++ rs) γ2
theorem sa_star {K : PySem.W.Frag} {B : Bs} {te : TE} {de : DE} {tr : TA} {dr : DA} (se : SE K B te de) (sr : SA K B tr dr) : SA K B (StX.tStar K te tr) (dStar de dr) := fun F H σ γ Q q R hq k => by
  refine se F H σ γ _ _ R hq fun x F1 H1 γ1 s R1 e1 o1 h1 => ?_
  obtain ⟨ds, hd, h1⟩ := seqD_of h1
  obtain ⟨F2, R2, e2, o2⟩ := o1.fz R1
  have rx := o2.rs R2
  rw [RS.fz_data] at rx
  obtain ⟨a, vs, rfl, hs, ra⟩ := rx.seq R2.fh hd
  refine ⟨a, vs, rfl, hs.symm, sr F2 H1 σ γ1 _ _ R2 h1 fun ws F3 H3 γ3 rs R3 e3 o3 h3 => ?_⟩
  exact k _ F3 H3 γ3 _ R3 ((e1.trans e2).trans e3) (P_app (vals_ok (ra.mono e3)) o3) h3
theorem xa_star {X : Cx} {B : Bs} {e : Expr} {es : List Expr} {p : Pos} {te : TE} {de : DE} {tr : TA} {dr : DA} (K : PySem.W.Frag) (hK : X.K = K) (he : XE X B e te de) (hr : XA X B es tr dr) (hs : starEach (.Starred e p :: es) X.env = (true, eval e X.env) :: starEach es X.env := by rfl) : XA X B (.Starred e p :: es) (StX.tStar K te tr) (dStar de dr) := by
  subst hK
  exact ⟨StX.pa_star he.pe hr.pa, sa_star he.se hr.sa⟩
/-! ### slices of tuples, t + u -/
section
variable {K : PySem.W.Frag}
theorem cut_whole {α : Type} {xs : List α} {lo hi : Option Int} (h : HT.sIx xs.length 0 lo = 0 ∧ HT.sIx xs.length xs.length hi = xs.length) : cut xs lo hi = xs := by
  unfold cut
  rw [h.1, h.2]
  simp
/-- the same, or a new one -/
theorem sd_tup : SlD K (rSlA K) fSlT := fun B F H σ γ x d lo hi Q q R rx hf k => by
  unfold fSlT at hf
  split at hf
  · rename_i xs
    have rf := rx.tupF
    obtain ⟨a, vs, rfl, h1, r1⟩ := rx.tup R.fh
    refine ⟨a, vs, rfl, h1, fun hw => ?_, fun _ p hp => ?_⟩
    · rw [r1.length] at hw
      rw [cut_whole hw] at hf
      exact vk R k rf hf
    · obtain ⟨R', ex, rp⟩ := R.newT hp (RpAll.of (cut_p r1.p))
      exact k _ _ _ (.val _) R' ex rp hf
  · exact hf.elim
def fCatT : D → D → (RS → Prop) → Prop
  | .tup xs, .tup ys, q => xs.length + ys.length ≤ 1000000 ∧ q (.val (.tup (xs ++ ys)))
  | _, _, _ => False
theorem od_catT : OpD K (rCatA K) fCatT := fun B F H σ γ x y d e Q q R rx ry hf k => by
  unfold fCatT at hf
  split at hf
  · rename_i xs ys
    have rfx := rx.tupF
    have rfy := ry.tupF
    obtain ⟨a, vs, rfl, h1, r1⟩ := rx.tup R.fh
    obtain ⟨b, ws, rfl, h2, r2⟩ := ry.tup R.fh
    refine ⟨a, b, vs, ws, rfl, rfl, h1, h2, sz_le (by rw [r1.length, r2.length]; exact hf.1), fun e => ?_, fun _ e => ?_, fun _ _ p hp => ?_⟩
    · subst e
      cases r1
      exact vk R k rfy hf.2
    · subst e
      cases r2
      rw [List.append_nil] at hf
      exact vk R k rfx hf.2
    · obtain ⟨R', ex, rp⟩ := R.newT hp (RpAll.of (P_app r1.p r2.p))
      exact k _ _ _ (.val _) R' ex rp hf.2
  · exact hf.elim
end
/-! ### == told by the data's form -/
theorem deq_self {d : D} (h : dOk d = true) : deq d d = true := by
  unfold dOk SeqAt.shaped at h
  simp only [Bool.and_eq_true] at h
  exact PySem.SeqAt.eqv_refl _ h.2.1
theorem deq_int {i j : Int} : deq (.int i) (.int j) = decide (i = j) := by
  unfold deq
  simp only [D.py, PyData.eqv]
  exact Bool.beq_eq_decide_eq i j
theorem deq_str {i j : Str} : deq (.str i) (.str j) = decide (i = j) := by
  unfold deq
  simp only [D.py, PyData.eqv]
  by_cases z : i = j
  · subst z; simp
  · rw [decide_eq_false z]; exact beq_eq_false_iff_ne.mpr z
theorem deq_tcons {x y : D} {xs ys : List D} : deq (.tup (x :: xs)) (.tup (y :: ys)) = (deq x y && deq (.tup xs) (.tup ys)) := by
  unfold deq
  simp only [D.py, pyAll, PyData.eqv, PyData.eqvAll]
theorem deq_tnil : deq (.tup []) (.tup []) = true := rfl
theorem deq_lcons {x y : D} {xs ys : List D} : deq (.lst (x :: xs)) (.lst (y :: ys)) = (deq x y && deq (.lst xs) (.lst ys)) := by
  unfold deq
  simp only [D.py, pyAll, PyData.eqv, PyData.eqvAll]
theorem deq_lnil : deq (.lst []) (.lst []) = true := rfl
theorem deq_tints (ns ms : List Int) : deq (.tup (ns.map D.int)) (.tup (ms.map D.int)) = decide (ns = ms) := deq_tup eqF_int (fun _ _ => trivial) fun _ _ => trivial
theorem dOk_tints (ns : List Int) : dOk (.tup (ns.map D.int)) = true := dOk_of (ok_tup fun x _ => ok_int x) (by decide)
theorem okN_str {s : Str} (h : (PyData.str s).canLay0 = true) : dOkN 0 (.str s) = true := by
  unfold dOkN
  simp only [D.pure, D.py, PyData.depth, h, Bool.true_and, decide_eq_true_eq]
  omega
theorem okN_tup {n : Nat} {xs : List D} (h : ∀ x ∈ xs, dOkN n x = true) : dOkN (n + 1) (.tup xs) = true := by
  have := ok_tup (f := fun d : D => d) (xs := xs) h
  rwa [List.map_id'] at this
theorem okN_lst {n : Nat} {xs : List D} (h : ∀ x ∈ xs, dOkN n x = true) : dOkN (n + 1) (.lst xs) = true := by
  have := ok_lst (f := fun d : D => d) (xs := xs) h
  rwa [List.map_id'] at this
/-! ### written texts told apart -/
theorem ofS_inj {a b : String} : (Str.ofString a = Str.ofString b) = (a = b) := by
  refine propext ⟨fun h => ?_, fun h => by rw [h]⟩
  rw [Str.ofString_eq_toList, Str.ofString_eq_toList] at h
  have h2 : a.toList.map Char.toNat = b.toList.map Char.toNat := by
    injection h with h
    simpa using congrArg Array.toList h
  have inj : ∀ {x y : List Char}, x.map Char.toNat = y.map Char.toNat → x = y := fun {x} => by
    induction x with
    | nil => intro y h; cases y with
      | nil => rfl
      | cons c y => simp at h
    | cons d x ih => intro y h; cases y with
      | nil => simp at h
      | cons c y =>
        simp only [List.map_cons, List.cons.injEq] at h
        have e : d = c := Char.toNat_inj.mp h.1
        rw [e, ih h.2]
  exact String.toList_inj.mp (inj h2)
theorem ofS_beq {a b : String} : (Str.ofString a == Str.ofString b) = (a == b) := by
  by_cases h : a = b
  · subst h; simp
  · rw [beq_eq_false_iff_ne.mpr h]
    exact beq_eq_false_iff_ne.mpr fun z => h (by rwa [ofS_inj] at z)
theorem allV_app {ds : List D} {rs : List RS} : allV (ds.map RS.val ++ rs) = allV rs := by
  induction ds with
  | nil => rfl
  | cons d ds ih => exact ih
theorem allV_vals {ds : List D} : allV (ds.map RS.val) = True := by
  induction ds with
  | nil => rfl
  | cons d ds ih => exact ih
theorem data_app {ds : List D} {rs : List RS} : (ds.map RS.val ++ rs).map RS.data = ds ++ rs.map RS.data := by
  induction ds with
  | nil => rfl
  | cons d ds ih => simp only [List.map_cons, List.cons_append, ih]; rfl
theorem data_vals {ds : List D} : (ds.map RS.val).map RS.data = ds := by
  induction ds with
  | nil => rfl
  | cons d ds ih => simp only [List.map_cons, ih]; rfl
end DL

set_option Elab.async false
set_option linter.all false
set_option maxRecDepth 100000
set_option maxHeartbeats 2000000
namespace DL
open PySem PySem.Spec PyProof.Rows L2
open Evl (Ex ex_l ex_t)
/-! ### lists that are lent; what comes back holds no list -/
mutual
def D.nol : D → Bool
  | .lst _ => false | .dct _ => false | .scr _ => false | .fr _ => false
  | .tup xs => nolAll xs | .obj _ fs => nolF fs
  | _ => true
def nolAll : List D → Bool
  | [] => true
  | x :: xs => x.nol && nolAll xs
def nolF : List (Str × D) → Bool
  | [] => true
  | (_, x) :: xs => x.nol && nolF xs
end
theorem nolAll_map {α : Type} {f : α → D} (h : ∀ x, (f x).nol = true) : ∀ xs : List α, nolAll (xs.map f) = true
  | [] => rfl
  | x :: xs => by rw [List.map_cons, nolAll, h x, nolAll_map h xs]; rfl
theorem nol_ints (ns : List Int) : nolAll (ns.map D.int) = true := nolAll_map (fun _ => rfl) ns
theorem nol_strs (ns : List Str) : nolAll (ns.map D.str) = true := nolAll_map (fun _ => rfl) ns
section
variable {K : PySem.W.Frag} {z : Addr → Prop} {F F' : Hp}
mutual
theorem Rp.off (ht : ∀ a xs, F a = some (.tup xs) → F' a = some (.tup xs)) (hi : ∀ a C dx fs, F a = some (.ins C dx fs) → F dx = some (.own a) → F' a = some (.ins C dx fs) ∧ F' dx = some (.own a)) (hs : ∀ a vs, SqT K F a vs → SqT K F' a vs) : ∀ {v : V} {d : D}, Rp ⟨K, z⟩ F v d → d.nol = true → Rp ⟨K, z⟩ F' v d
  | _, _, .non, _ => .non
  | _, _, .bl b, _ => .bl b
  | _, _, .int b, _ => .int b
  | _, _, .str b, _ => .str b
  | _, _, .ref b, _ => .ref b
  | _, _, .ty b, _ => .ty b
  | _, _, .kls b, _ => .kls b
  | _, _, .lst h a, n => absurd n (by simp [D.nol])
  | _, _, .scr h, n => absurd n (by simp [D.nol])
  | _, _, .dct h a, n => absurd n (by simp [D.nol])
  | _, _, .fr h a, n => absurd n (by simp [D.nol])
  | _, _, .tup h a, n => .tup (hs _ _ h) (RpAll.off ht hi hs a n)
  | _, _, .obj h1 h2 a, n => .obj (hi _ _ _ _ h1 h2).1 (hi _ _ _ _ h1 h2).2 (RpFs.off ht hi hs a n)
theorem RpAll.off (ht : ∀ a xs, F a = some (.tup xs) → F' a = some (.tup xs)) (hi : ∀ a C dx fs, F a = some (.ins C dx fs) → F dx = some (.own a) → F' a = some (.ins C dx fs) ∧ F' dx = some (.own a)) (hs : ∀ a vs, SqT K F a vs → SqT K F' a vs) : ∀ {v : List V} {d : List D}, RpAll ⟨K, z⟩ F v d → nolAll d = true → RpAll ⟨K, z⟩ F' v d
  | _, _, .nil, _ => .nil
  | _, _, .cons h t, n => .cons (Rp.off ht hi hs h (Bool.and_eq_true_iff.mp n).1) (RpAll.off ht hi hs t (Bool.and_eq_true_iff.mp n).2)
theorem RpFs.off (ht : ∀ a xs, F a = some (.tup xs) → F' a = some (.tup xs)) (hi : ∀ a C dx fs, F a = some (.ins C dx fs) → F dx = some (.own a) → F' a = some (.ins C dx fs) ∧ F' dx = some (.own a)) (hs : ∀ a vs, SqT K F a vs → SqT K F' a vs) : ∀ {v : List (Str × V)} {d : List (Str × D)}, RpFs ⟨K, z⟩ F v d → nolF d = true → RpFs ⟨K, z⟩ F' v d
  | _, _, .nil, _ => .nil
  | _, _, .cons h t, n => .cons (Rp.off ht hi hs h (Bool.and_eq_true_iff.mp n).1) (RpFs.off ht hi hs t (Bool.and_eq_true_iff.mp n).2)
end
end
/-- owned lists alone are lent -/
def lentL : List RS → Prop
  | [] => True
  | .val _ :: r => lentL r
  | .own _ (.lst _) :: r => lentL r
  | _ :: _ => False
section
variable {K : PySem.W.Frag} {B : Bs} {F H : Hp} {σ : L2.St} {γ : Env}
theorem Rep.freezeL (R : Rep K B F H σ γ) {i : Nat} {p : Option Nat} {ds : List D} (e : look γ i = .own p (.lst ds)) : ∃ a vs, σ[i]? = some (some (.ref a)) ∧ H a = some (.lst vs) ∧ Rep K B (upd F a (.lst vs)) H σ (put γ i (.val (.lst ds))) ∧ Ex F (upd F a (.lst vs)) ∧ Rp (B.kz K) (upd F a (.lst vs)) (.ref a) (.lst ds) := by
  obtain ⟨a, hs, hg, fa, ok⟩ := R.own e
  have R0 : Rep K B F H σ (put γ i .no) := R.told (fun _ _ => trivial) (fun _ _ z => by cases z)
  have na : ∀ (j : Nat) q c', (put γ i .no)[j]? = some (.own q c') → σ[j]? ≠ some (some (.ref a)) := fun j q c' h1 h2 => by
    rcases get_put h1 with ⟨_, z⟩ | ⟨n, z⟩
    · cases z
    · exact n (R.nd j i a q c' p _ z hg h2 hs)
  have b5 := R.b5 i a p _ hg hs
  obtain ⟨vs, h1, h2⟩ := ok
  obtain ⟨R', ex⟩ := R0.freeze h1 fa b5 fun i q c' hg => ⟨na i q c' hg, fun x _ z => by cases z⟩
  have rp : Rp (B.kz K) (upd F a (.lst vs)) (.ref a) (.lst ds) := .lst upd_same (h2.mono ex)
  have q := R'.told (i := i) (t := .val (.lst ds)) (fun s hs' => by rw [hs] at hs'; cases hs'; exact ⟨_, rfl, rp⟩) (fun _ _ z => by cases z)
  have pp : put (put γ i .no) i (.val (.lst ds)) = put γ i (.val (.lst ds)) := by rw [put_set, put_set, put_set, List.set_set]
  rw [pp] at q
  exact ⟨a, vs, hs, h1, q, ex, rp⟩
theorem Rep.lendL {B : Bs} {H : Hp} {σ : L2.St} : ∀ {vs : List V} {rs : List RS} {F : Hp} {γ : Env}, Rep K B F H σ γ → Paired (fun v r => (∃ d, r = .val d ∧ Rp (B.kz K) F v d) ∨ ∃ j ds, r = .own j (.lst ds) ∧ σ[j]? = some (some v) ∧ (∃ p, look γ j = .own p (.lst ds)) ∨ r = .own j (.lst ds) ∧ Rp (B.kz K) F v (.lst ds)) vs rs →
    ∃ F', Ex F F' ∧ Ex F' H ∧ RpAll (B.kz K) F' vs (rs.map RS.data) ∧ ∀ b, F' b = F b ∨ ∃ xs, H b = some (.lst xs)
  | _, _, F, γ, R, .nil => ⟨F, Evl.Ex.refl F, R.fh, .nil, fun _ => .inl rfl⟩
  | _, _, F, γ, R, @Paired.cons _ _ _ v r vs rs h t => by
    have step : ∃ F1 γ1, Rep K B F1 H σ γ1 ∧ Ex F F1 ∧ Rp (B.kz K) F1 v r.data ∧ (∀ b, F1 b = F b ∨ ∃ xs, H b = some (.lst xs)) ∧ ∀ j p ds, look γ j = .own p (.lst ds) → look γ1 j = .own p (.lst ds) ∨ ∃ a, σ[j]? = some (some (.ref a)) ∧ Rp (B.kz K) F1 (.ref a) (.lst ds) := by
      rcases h with ⟨d, rfl, h⟩ | ⟨j, ds, ⟨rfl, hs, p, hp⟩ | ⟨rfl, h⟩⟩
      · exact ⟨F, γ, R, Evl.Ex.refl F, h, fun _ => .inl rfl, fun j p c h => .inl h⟩
      · obtain ⟨a, ws, hs', ha, R1, e1, r1⟩ := R.freezeL hp
        rw [hs] at hs'
        cases hs'
        refine ⟨_, _, R1, e1, r1, fun b => ?_, fun i p' c' hl => ?_⟩
        · by_cases hb : b = a
          · subst hb; exact .inr ⟨ws, ha⟩
          · exact .inl (upd_ne hb)
        · by_cases e : i = j
          · subst e
            rw [hp] at hl
            cases hl
            exact .inr ⟨a, hs, r1⟩
          · refine .inl (look_of ?_)
            have := of_look hl (by intro z; cases z)
            rw [put_set, List.getElem?_set_ne (Ne.symm e)]
            exact this
      · exact ⟨F, γ, R, Evl.Ex.refl F, h, fun _ => .inl rfl, fun j p c h => .inl h⟩
    obtain ⟨F1, γ1, R1, e1, r1, d1, hk⟩ := step
    obtain ⟨F2, e2, e3, r2, d2⟩ := Rep.lendL (vs := vs) (rs := rs) R1 (P_mono (fun v r h => by
      rcases h with ⟨d, rfl, h⟩ | ⟨j, c, ⟨rfl, hs, p, hp⟩ | ⟨rfl, h⟩⟩
      · exact .inl ⟨d, rfl, h.mono e1⟩
      · rcases hk j p c hp with z | ⟨a, z1, z2⟩
        · exact .inr ⟨j, c, .inl ⟨rfl, hs, p, z⟩⟩
        · rw [hs] at z1
          cases z1
          exact .inr ⟨j, c, .inr ⟨rfl, z2⟩⟩
      · exact .inr ⟨j, c, .inr ⟨rfl, h.mono e1⟩⟩) t)
    refine ⟨F2, e1.trans e2, e3, .cons (r1.mono e2) r2, fun b => ?_⟩
    rcases d2 b with z | z
    · rw [z]; exact d1 b
    · exact .inr z
theorem lentP : ∀ {vs : List V} {rs : List RS}, Paired (RsOk K B F H σ γ) vs rs → lentL rs → Paired (fun v r => (∃ d, r = .val d ∧ Rp (B.kz K) F v d) ∨ ∃ j ds, r = .own j (.lst ds) ∧ σ[j]? = some (some v) ∧ (∃ p, look γ j = .own p (.lst ds)) ∨ r = .own j (.lst ds) ∧ Rp (B.kz K) F v (.lst ds)) vs rs
  | _, _, .nil, _ => .nil
  | _, .val d :: _, .cons h t, n => .cons (.inl ⟨d, rfl, h⟩) (lentP t n)
  | _, .own j (.lst ds) :: _, .cons ⟨hs, p, hg⟩ t, n => .cons (.inr ⟨j, ds, .inl ⟨rfl, hs, p, look_of hg⟩⟩) (lentP t n)
/-- what stood stays as it was, what is new may stay -/
def newF (H1 F1 F3 : Hp) : Hp := fun a => match H1 a with
  | none => F3 a
  | some _ => F1 a
theorem newF_old {H1 F1 F3 : Hp} {a : Addr} {o : HO} (h : H1 a = some o) : newF H1 F1 F3 a = F1 a := by unfold newF; rw [h]
theorem newF_new {H1 F1 F3 : Hp} {a : Addr} (h : H1 a = none) : newF H1 F1 F3 a = F3 a := by unfold newF; rw [h]
/-- behind a call to which lists were lent -/
theorem lend_back {F1 H1 F2 F3 H3 : Hp} (R1 : Rep K B F1 H1 σ γ) (fh : Ex F3 H3) (eH : Ex H1 H3) (s3 : ∀ b o, H1 b = some o → F3 b = F2 b) (s2 : ∀ b, F2 b = F1 b ∨ ∃ xs, H1 b = some (.lst xs)) :
    Rep K B (newF H1 F1 F3) H3 σ γ ∧ Ex F1 (newF H1 F1 F3) ∧ (∀ v d, Rp (B.kz K) F3 v d → d.nol = true → Rp (B.kz K) (newF H1 F1 F3) v d) ∧ (∀ v d, RpAll (B.kz K) F3 v d → nolAll d = true → RpAll (B.kz K) (newF H1 F1 F3) v d) ∧ ∀ v d, RpFs (B.kz K) F3 v d → nolF d = true → RpFs (B.kz K) (newF H1 F1 F3) v d := by
  have eF : Ex F1 (newF H1 F1 F3) := fun a o e => by rw [newF_old (R1.fh a o e)]; exact e
  have same : ∀ a o, F3 a = some o → (∀ xs, o ≠ .lst xs) → newF H1 F1 F3 a = some o := fun a o e n => by
    cases h : H1 a with
    | none => rw [newF_new h]; exact e
    | some o' =>
      rw [newF_old h]
      rcases s2 a with z | ⟨xs, z⟩
      · rw [← z, ← s3 a o' h]; exact e
      · have := fh a o e
        rw [eH a _ z] at this
        cases this
        exact absurd rfl (n xs)
  have ht : ∀ a xs, F3 a = some (.tup xs) → newF H1 F1 F3 a = some (.tup xs) := fun a xs e => same a _ e fun _ z => by cases z
  have hi : ∀ a C dx fs, F3 a = some (.ins C dx fs) → F3 dx = some (.own a) → newF H1 F1 F3 a = some (.ins C dx fs) ∧ newF H1 F1 F3 dx = some (.own a) := fun a C dx fs e1 e2 => ⟨same a _ e1 (fun _ z => by cases z), same dx _ e2 (fun _ z => by cases z)⟩
  have hs : ∀ a vs, SqT K F3 a vs → SqT K (newF H1 F1 F3) a vs := fun a vs h => by
    rcases h with (h | ⟨o, h⟩) | h
    · exact .inl (.inl (same a _ h fun _ z => by cases z))
    · exact .inl (.inr ⟨o, same a _ h fun _ z => by cases z⟩)
    · exact .inr h
  refine ⟨R1.later (fun a o e => ?_) eH eF fun b o e => newF_old e, eF, fun v d r n => Rp.off ht hi hs r n, fun v d r n => RpAll.off ht hi hs r n, fun v d r n => RpFs.off ht hi hs r n⟩
  cases h : H1 a with
  | none => rw [newF_new h] at e; exact fh a o e
  | some o' => rw [newF_old h] at e; exact eH a o (R1.fh a o e)
end
/-- what comes back -/
def lendN : RS → (RS → Prop) → Prop
  | .val d, q => d.nol = true ∧ q (.val d)
  | .new (.lst ds), q => nolAll ds = true ∧ q (.new (.lst ds))
  | .new (.ins C fs), q => nolF fs = true ∧ q (.new (.ins C fs))
  | _, _ => False
def dCallN (n : Nat) (fs : FS) (da : DA) (γ : Env) (q : RS → Env → Prop) : Prop := da γ fun rs γ1 => lentL rs ∧ rs.length = n ∧ fs (rs.map fun r => Sx.val r.data) fun r _ => lendN r fun r => q r γ1
def dMakeL (C : String) (n : Nat) (fs : FS) (dds : List D) (da : DA) (γ : Env) (q : RS → Env → Prop) : Prop := da γ fun rs γ1 => lentL rs ∧ rs.length + dds.length + 1 = n ∧
  fs (.own (some 0) (.ins C []) :: ((rs.map fun r => Sx.val r.data) ++ dds.map Sx.val)) fun r as' => r = .val .non ∧ match as' with
    | .own _ (.ins C' fs') :: _ => C' = C ∧ nolF fs' = true ∧ q (.new (.ins C fs')) γ1
    | _ => False
section
variable {K : PySem.W.Frag} {B : Bs}
theorem se_callLN {n : Nat} {fs : FS} {E : XK} {ta : TA} {da : DA} (h : SA K B ta da) : SE K B (tCall (spOf K n fs) [] E ta) (dCallN n fs da) := fun F H σ γ Q q R hq k => by
  refine h F H σ γ _ _ R hq fun vs F1 H1 γ1 rs R1 e1 o1 ⟨h0, h2, h3⟩ => ?_
  obtain ⟨F2, e2, e3, all, s2⟩ := Rep.lendL R1 (lentP o1 h0)
  have RE : Rep K (entry F2 H1 [] R1.zn (vs ++ [])) F2 H1 ((vs ++ []).map some) (rs.map fun r => Sx.val r.data) := by
    have none : ∀ {i : Nat} {p : Option Nat} {c : OC}, (rs.map fun r => Sx.val r.data)[i]? ≠ some (.own p c) := fun {i p c} h => by
      rw [List.getElem?_map] at h
      cases q : rs[i]? with
      | none => rw [q] at h; cases h
      | some d => rw [q] at h; cases h
    rw [List.append_nil]
    refine ⟨e3, by rw [List.length_map, List.length_map, P_len o1], fun i s t hs hg => ?_, fun i j a p c q c' h1 => absurd h1 none, fun b o e => ⟨fun _ => e, o, e⟩, Evl.Ex.refl F2, fun b o _ _ => rfl, fun i a p c h1 => absurd h1 none, fun i a p c h1 => absurd h1 none, fun b o e => ⟨o, e⟩, fun a o e => ⟨o, e, .refl o⟩⟩
    rw [List.getElem?_map] at hs hg
    cases q : rs[i]? with
    | none => rw [q] at hg; cases hg
    | some d =>
      rw [q] at hg
      cases hg
      obtain ⟨v, hv, r⟩ := P_get all.p (show (rs.map RS.data)[i]? = some d.data by rw [List.getElem?_map, q]; rfl)
      rw [hv] at hs
      exact ⟨v, (Option.some.inj hs).symm, r⟩
  refine ⟨by rw [List.append_nil, P_len o1]; exact h2, F2, [], _, _, _, RE, h3, fun r as' v F3 H3 hp R3 ok hk => ?_⟩
  have eH : Ex H1 H3 := fun b o e => (R3.b1 b o e).1 (by simp [entry])
  have s3 : ∀ b o, H1 b = some o → F3 b = F2 b := fun b o e => R3.b3 b o e (by simp [entry])
  obtain ⟨R4, e4, c1, c2, c3⟩ := lend_back R1 R3.fh eH s3 s2
  unfold lendN at hp
  split at hp
  · exact k v _ H3 γ1 (.val _) R4 (e1.trans e4) (c1 _ _ ok hp.1) hp.2
  · rename_i ds
    obtain ⟨a, ea, N⟩ := ok
    obtain ⟨ws, hl, hr⟩ := N.ok
    have ha : H1 a = none := N.bn
    obtain ⟨f1, f2, f3, f4⟩ := R1.fresh ha
    have fn : newF H1 F1 F3 a = none := by rw [newF_new ha]; exact N.fa
    exact k v _ H3 γ1 (.new (.lst ds)) R4 (e1.trans e4) ⟨a, ea, fn, ⟨ws, hl, c2 _ _ hr hp.1⟩, f3, .inr f2, f4⟩ hp.2
  · rename_i C fs'
    obtain ⟨a, ea, N⟩ := ok
    obtain ⟨dx, fv, g1, g2, g3, g4, g5, g6⟩ := N.ok
    have ha : H1 a = none := N.bn
    have hd : H1 dx = none := g4 ha
    obtain ⟨f1, f2, f3, f4⟩ := R1.fresh ha
    obtain ⟨d1, d2, d3, d4⟩ := R1.fresh hd
    have fn : newF H1 F1 F3 a = none := by rw [newF_new ha]; exact N.fa
    have fd : newF H1 F1 F3 dx = none := by rw [newF_new hd]; exact g3
    exact k v _ H3 γ1 (.new (.ins C fs')) R4 (e1.trans e4) ⟨a, ea, fn, ⟨dx, fv, g1, g2, fd, fun _ => d3, .inr d2, c3 _ _ g6 hp.1⟩, f3, .inr f2, f4⟩ hp.2
  · exact hp.elim
end
section
variable {X : Cx} {B : Bs} {a : Expr} {es : List Expr} {ta : TA} {da : DA} {k n : Nat} {f : Addr} {fd : FuncData} {ps : List Str} {fs : FS} {x : Str} {p pos : Pos}
theorem x_callLN (K : PySem.W.Frag) (hK : X.K = K) (G : FnOk X.prog X.w X.K X.mg X.base CX0 k f fd ps (spOf X.K n fs)) (hr : Room k X.A) (hm : X.mg x = some (.ref f)) (hk : PySem.W.keepIn X.K (.ref f) = true) (hb : Binds X.K fd ps []) (h : XA X B (a :: es) ta da)
    (hg : Gl X x := by rfl) (hdb : (x == ("__debug__" : Str)) = false := by decide) (he : starEach (a :: es) X.env = (false, eval a X.env) :: starEach es X.env := by rfl) (hpl : (backTo pos (starEach es X.env)).any (·.1) = false := by rfl) :
    XE X B (.Call (.Name x p) (a :: es) [] pos) (tCall (spOf K n fs) [] E0 ta) (dCallN n fs da) := by
  subst hK
  exact ⟨pe_call G hr hg hm hk hb .nil pass0 h.pa hdb he hpl, se_callLN h.sa⟩
end
section
variable {K : PySem.W.Frag} {B : Bs}
theorem se_makeL {C : String} {n : Nat} {fs : FS} {dvs : List V} {dds : List D} {E : XK} {ta : TA} {da : DA} (h : SA K B ta da) (od : Paired (fun v d => ∀ z F, Rp ⟨K, z⟩ F v d) dvs dds) : SE K B (tMake (ctOf K C) (spOf K n fs) dvs E ta) (dMakeL C n fs dds da) := fun F H σ γ Q q R hq k => by
  refine h F H σ γ _ _ R hq fun vs F1 H1 γ1 rs R1 e1 o1 ⟨h0, h2, h3⟩ x dx hx hdx ne => ?_
  obtain ⟨F2, e2, e3, all0, s2⟩ := Rep.lendL R1 (lentP o1 h0)
  have all : RpAll (B.kz K) F2 (vs ++ dvs) (rs.map RS.data ++ dds) := RpAll.of (P_app all0.p (P_mono (fun v d z => z _ _) od))
  let Z : ZN (upd (upd H1 dx (.own x)) x (.ins (ctOf K C) dx [])) := ⟨B.z, fun a ha => by
    obtain ⟨o, e⟩ := R1.znp a ha
    have n1 : a ≠ x := fun z => by subst z; rw [hx] at e; cases e
    have n2 : a ≠ dx := fun z => by subst z; rw [hdx] at e; cases e
    exact ⟨o, by rw [upd_ne n1, upd_ne n2]; exact e⟩⟩
  have RE := make_entry (B := B) (C := C) e3 all hx hdx ne Z rfl
  rw [List.map_append] at RE
  have hm : (rs.map fun r => Sx.val r.data) = (rs.map RS.data).map Sx.val := by rw [List.map_map]; rfl
  rw [hm] at h3
  refine ⟨by simp only [List.length_cons, List.length_append]; rw [P_len o1, P_len od]; omega, F2, _, Z, _, _, RE, h3, fun r as' v F3 H3 ⟨hr, hp⟩ R3 ok hk => ?_⟩
  subst hr
  have h2' : ∀ b o, H1 b = some o → (upd (upd H1 dx (.own x)) x (.ins (ctOf K C) dx [])) b = some o ∧ b ∉ [x, dx] := fun b o e => by
    have n1 : b ≠ x := fun z => by subst z; rw [hx] at e; cases e
    have n2 : b ≠ dx := fun z => by subst z; rw [hdx] at e; cases e
    exact ⟨by rw [upd_ne n1, upd_ne n2]; exact e, by simp [n1, n2]⟩
  have eH : Ex H1 H3 := fun b o e => (R3.b1 b o (h2' b o e).1).1 (h2' b o e).2
  have s3 : ∀ b o, H1 b = some o → F3 b = F2 b := fun b o e => R3.b3 b o (h2' b o e).1 (h2' b o e).2
  obtain ⟨R4, e4, c1, c2, c3⟩ := lend_back R1 R3.fh eH s3 s2
  split at hp
  · rename_i p C' fs' rest _
    obtain ⟨hC, hn, hp⟩ := hp
    subst hC
    obtain ⟨a, ea, fa, dx', fv, q1, q2, q3, q4, q5, q6⟩ := R3.sl 0 _ _ rfl rfl
    cases ea
    obtain ⟨o', g1, fs2, g2⟩ := R3.bd x _ (show (entry F2 (upd (upd H1 dx (.own x)) x (.ins (ctOf K C') dx [])) [x, dx] Z (.ref x :: (vs ++ dvs))).H x = some (.ins (ctOf K C') dx []) from upd_same)
    subst g2
    rw [g1] at q1
    cases q1
    obtain ⟨f1, f2, f3, f4⟩ := R1.fresh hx
    obtain ⟨d1, d2, d3, d4⟩ := R1.fresh hdx
    have ok' : Rp _ F3 v .non := ok
    cases ok'
    refine ⟨rfl, k _ _ H3 γ1 (.new (.ins C' fs')) R4 (e1.trans e4) ⟨x, rfl, by rw [newF_new hx]; exact fa, ⟨dx, fv, g1, q2, by rw [newF_new hdx]; exact q3, fun _ => d3, .inr d2, c3 _ _ q6 hn⟩, f3, .inr f2, f4⟩ hp⟩
  · exact hp.elim
end
section
variable {X : Cx} {B : Bs} {a : Expr} {es : List Expr} {ta : TA} {da : DA} {k n : Nat} {C : String} {f : Addr} {fd : FuncData} {ps : List Str} {fs : FS} {x : Str} {p pos : Pos}
theorem x_makeL (K : PySem.W.Frag) (hK : X.K = K) (M : Mk X.K (ctOf X.K C) f) (G : FnOk X.prog X.w X.K X.mg X.base CX0 k f fd ps (spOf X.K n fs)) (hr : Room (k + 1) X.A) (hm : X.mg x = some (.ref (ctOf X.K C))) (hb : Binds X.K fd ps []) (h : XA X B (a :: es) ta da)
    (hg : Gl X x := by rfl) (hdb : (x == ("__debug__" : Str)) = false := by decide) (he : starEach (a :: es) X.env = (false, eval a X.env) :: starEach es X.env := by rfl) (hpl : (backTo pos (starEach es X.env)).any (·.1) = false := by rfl) :
    XE X B (.Call (.Name x p) (a :: es) [] pos) (tMake (ctOf K C) (spOf K n fs) [] E0 ta) (dMakeL C n fs [] da) := by
  subst hK
  exact ⟨pe_make M G hr hg hm hb .nil pass0 h.pa hdb he hpl, se_makeL h.sa .nil⟩
theorem x_makeLD {dvs : List V} {dds : List D} {ds : List Value} (K : PySem.W.Frag) (hK : X.K = K) (M : Mk X.K (ctOf X.K C) f) (G : FnOk X.prog X.w X.K X.mg X.base CX0 k f fd ps (spOf X.K n fs)) (hr : Room (k + 1) X.A) (hm : X.mg x = some (.ref (ctOf X.K C))) (hb : Binds X.K fd ps ds) (hd : Vals dvs ds) (od : Paired (fun v d => ∀ z F, Rp ⟨X.K, z⟩ F v d) dvs dds) (h : XA X B (a :: es) ta da)
    (hg : Gl X x := by rfl) (hdb : (x == ("__debug__" : Str)) = false := by decide) (he : starEach (a :: es) X.env = (false, eval a X.env) :: starEach es X.env := by rfl) (hpl : (backTo pos (starEach es X.env)).any (·.1) = false := by rfl) :
    XE X B (.Call (.Name x p) (a :: es) [] pos) (tMake (ctOf K C) (spOf K n fs) dvs E0 ta) (dMakeL C n fs dds da) := by
  subst hK
  exact ⟨pe_make M G hr hg hm hb hd pass0 h.pa hdb he hpl, se_makeL h.sa od⟩
end
end DL

set_option Elab.async false
set_option linter.all false
set_option maxRecDepth 100000
set_option maxHeartbeats 2000000
namespace DL
open PySem PySem.Spec PyProof.Rows L2
open Evl (Ex ex_l ex_t)
/-! ### raise C(), an own class without an __init__ -/
theorem pmk_own0 {X : Cx} {C : Addr} {bmB : List Value} {B newId initId : String} {x : Str} {p pos : Pos} (F : ExcBaseFacts B newId initId bmB) (q : PySem.W.excIn X.K C bmB newId = true) (gC : X.mg x = some (.ref C)) (kC : PySem.W.keepIn X.K (.ref C) = true) (r : Raises X (.ref C)) (hg : Gl X x)
    (hdb : (x == ("__debug__" : Str)) = false := by decide) : L2N.PMk X (.Call (.Name x p) [] [] pos) (fun _ H Q => Q (.ref C) none H) := by
  intro pins s σ H Q I h
  refine wpAny_Call_Name_kw (ld_glob I hg gC ?_ hdb)
  refine PySem.W.callWith_K0 I.kIn kC ?_
  show wpAny _ _ (call (.ref C) []) _ _ _
  obtain ⟨bm, N, nm, qn, bs, hdct, sn, sub, ab, col, dd, k0, k1, k2, k3, k5, mN, hC, hN, hni, T⟩ := exc_obj I.kIn q
  refine wpAny_call_exc_subT F T hC hN hni (fun h' e hm => ?_) (by show 0 ≤ sizeLine; rw [sizeLine_eq]; omega)
  exact L2N.mk_of I hm r h (I.hok.gone hm.new)
def dRaise0 (xc : DX) (nm : Nat) (d : DEnds) (γ : Env) : Prop := xc nm none γ
theorem s_raise0 {X : Cx} {B : Bs} {ct : Nat → Addr} {W : WX} {xc : DX} {nm : Nat} {x : Str} {p pos pos2 : Pos} {bmB : List Value} {BB newId initId : String} (hc : X.calm = true) (xo : XOk X.K ct B W xc) (tk : L2N.Takes X W) (F : ExcBaseFacts BB newId initId bmB) (q : PySem.W.excIn X.K (ct nm) bmB newId = true) (gC : X.mg x = some (.ref (ct nm))) (kC : PySem.W.keepIn X.K (.ref (ct nm)) = true) (r : Raises X (.ref (ct nm))) (hg : Gl X x := by rfl)
    (hdb : (x == ("__debug__" : Str)) = false := by decide) : XS X B (.Raise (some (.Call (.Name x p) [] [] pos)) none pos2) (fun _ σ H => W (.ref (ct nm)) none σ H) (dRaise0 xc nm) := ⟨L2N.ps_raise hc tk (pmk_own0 F q gC kC r hg hdb), fun F H σ γ E d R hq k => xo F H σ γ nm none none R trivial hq⟩
/-! ### a number of the module -/
theorem x_gint {X : Cx} {B : Bs} {x : Str} {i : Int} {t : Tok} {pos : Pos} (hm : X.mg x = some (.int i t)) (hg : Gl X x := by rfl) (hd : (x == ("__debug__" : Str)) = false := by decide) : XE X B (.Name x pos) (tC (.int i)) (dC (.int i)) := x_glob hg hm ⟨_, rfl⟩ (fun _ _ => .int i) hd
end DL

set_option Elab.async false
set_option linter.all false
set_option maxRecDepth 100000
set_option maxHeartbeats 2000000
namespace DL
open PySem PySem.Spec PyProof.Rows L2
open Evl (Ex ex_l ex_t)
/-! ### [e for .. in .. for .. in ..] -/
def dLc2 (di : DI) (dg : DG) (dt : DT) (di1 : DI) (dg1 : DG) (dt1 : DT) (de : DE) (vs vs1 : List Nat) (γ : Env) (q : RS → Env → Prop) : Prop := di γ fun n y γ1 => ∃ I : Nat → List D → Env → Prop, I 0 [] (wipeG γ1 vs) ∧
  (∀ i acc γ2, i < n → I i acc γ2 → ∀ x, y i x → dg x γ2 fun γ3 => dt γ3 fun b γ4 => (b = true → di1 γ4 fun n1 y1 γ5 => ∃ I1 : Nat → List D → Env → Prop, I1 0 acc (wipeG γ5 vs1) ∧
    (∀ j acc1 γ6, j < n1 → I1 j acc1 γ6 → ∀ x1, y1 j x1 → dg1 x1 γ6 fun γ7 => dt1 γ7 fun b1 γ8 => (b1 = true → de γ8 fun s γ9 => s.kept ∧ acc1.length < 1000000 ∧ I1 (j + 1) (acc1 ++ [s.data]) (wipeG γ9 vs1)) ∧ (b1 = false → I1 (j + 1) acc1 (wipeG γ8 vs1))) ∧
    ∀ acc1 γ6, I1 n1 acc1 γ6 → I (i + 1) acc1 (wipeG γ6 vs)) ∧ (b = false → I (i + 1) acc (wipeG γ4 vs))) ∧
  ∀ acc γ2, I n acc γ2 → q (.new (.lst acc)) (restore γ1 γ2 vs)
/-- between turns: the list at L holds acc -/
structure LSt (K : PySem.W.Frag) (B : Bs) (F1 : Hp) (L : Addr) (σ : L2.St) (acc : List D) (γ : Env) (H : Hp) (F : Hp) (va : List V) : Prop where
  R : Rep K B F H σ γ
  e : Ex F1 F
  h : H L = some (.lst va)
  f : F L = none
  r : RpAll (B.kz K) F va acc
  na : ∀ (j : Nat) p c, γ[j]? = some (.own p c) → σ[j]? ≠ some (some (.ref L))
section
variable {K : PySem.W.Frag} {B : Bs} {F1 H F : Hp} {L : Addr} {σ : L2.St} {acc : List D} {γ : Env} {va : List V}
theorem LSt.off (S : LSt K B F1 L σ acc γ H F va) : L ∉ ownsOf σ γ H := fun z => by
  obtain ⟨j, a, p, c, h1, h2, h3⟩ := mem_owns.mp z
  rcases h3 with rfl | ⟨C, fs, h3⟩
  · exact S.na j p c h2 h1
  · obtain ⟨_, ok⟩ := S.R.ownObj h2 h1
    cases c with
    | lst ds => obtain ⟨_, q1, _⟩ := ok; rw [h3] at q1; cases q1
    | dct ds => obtain ⟨_, q1, _⟩ := ok; rw [h3] at q1; cases q1
    | ins C' fs' =>
      obtain ⟨dx, fv, q1, q2, _⟩ := ok
      rw [h3] at q1
      injection q1 with q1
      injection q1 with _ q1 _
      rw [← q1, S.h] at q2; cases q2
/-- what goes on over a base taken here keeps the list -/
theorem LSt.keep (S : LSt K B F1 L σ acc γ H F va) {F' H' : Hp} {σ' : L2.St} {γ' : Env} (R' : Rep K (B.re F H σ γ) F' H' σ' γ') (ex : Ex F F') : LSt K B F1 L σ' acc γ' H' F' va := by
  have nL := S.off
  refine ⟨S.R.back R', S.e.trans ex, (R'.b1 L _ S.h).1 nL, (R'.b3 L _ S.h nL).trans S.f, S.r.mono ex, fun j p c h1 h2 => ?_⟩
  rcases R'.b5 j L p c h1 h2 with z | z
  · exact nL z
  · have z' : H L = none := z
    rw [S.h] at z'; cases z'
theorem wipeG_own {vs : List Nat} {j : Nat} {p : Option Nat} {c : OC} (h : (wipeG γ vs)[j]? = some (.own p c)) : γ[j]? = some (.own p c) := by
  induction vs with
  | nil => exact h
  | cons v vs ih =>
    unfold wipeG at h
    rcases get_put h with ⟨_, e⟩ | ⟨_, e⟩
    · cases e
    · exact ih e
theorem LSt.wipe (S : LSt K B F1 L σ acc γ H F va) (vs : List Nat) : LSt K B F1 L (L2.wipe σ vs) acc (wipeG γ vs) H F va := ⟨S.R.wipe vs, S.e, S.h, S.f, S.r, fun j p c h1 h2 => by
  rw [wipe_get] at h2
  split at h2
  · cases h2
  · exact S.na j p c (wipeG_own h1) h2⟩
theorem LSt.add (S : LSt K B F1 L σ acc γ H F va) (bm : B.H L = none) {v : V} {d : D} (rv : Rp (B.kz K) F v d) : LSt K B F1 L σ (acc ++ [d]) γ (upd H L (.lst (va ++ [v]))) F (va ++ [v]) :=
  ⟨S.R.poke (o' := .lst (va ++ [v])) S.h (fun x z => by cases z) S.f (.inr bm) S.na ⟨_, rfl⟩, S.e, upd_same, S.f, RpAll.of (P_app S.r.p (.cons rv .nil)), S.na⟩
theorem wipe_sub {σ : L2.St} {vs vs1 : List Nat} (h : ∀ i ∈ vs1, i ∈ vs) : L2.wipe (L2.wipe σ vs1) vs = L2.wipe σ vs := by
  apply List.ext_getElem?
  intro j
  have hl : (L2.wipe σ vs1).length = σ.length := by
    have := fun k => wipe_get σ k vs1
    rcases Nat.lt_trichotomy (L2.wipe σ vs1).length σ.length with c | c | c
    · have q := this (L2.wipe σ vs1).length
      rw [List.getElem?_eq_none (Nat.le_refl _)] at q
      split at q
      · cases q
      · rw [List.getElem?_eq_getElem c] at q; cases q
    · exact c
    · have q := this σ.length
      rw [List.getElem?_eq_getElem c] at q
      split at q
      · omega
      · rw [List.getElem?_eq_none (Nat.le_refl _)] at q; cases q
  rw [wipe_get, wipe_get, wipe_get, hl]
  by_cases c : j ∈ vs ∧ j < σ.length
  · rw [if_pos c, if_pos c]
  · rw [if_neg c, if_neg c]
    by_cases c1 : j ∈ vs1 ∧ j < σ.length
    · exact absurd ⟨h j c1.1, c1.2⟩ c
    · rw [if_neg c1]
end
theorem se_lc2 {K : PySem.W.Frag} {B : Bs} {wi wi1 : TI} {di di1 : DI} {g g1 : TG} {dg dg1 : DG} {tt tt1 : TT} {dt dt1 : DT} {te : TE} {de : DE} {vs vs1 ix ix1 : List Nat} (hi : SI K B wi di) (hg : ∀ B, SG K B g dg ix) (ht : ∀ B, ST K B tt dt) (hi1 : ∀ B, SI K B wi1 di1) (hg1 : ∀ B, SG K B g1 dg1 ix1) (ht1 : ∀ B, ST K B tt1 dt1) (he : ∀ B, SE K B te de) (hs : ∀ i ∈ ix, i ∈ vs) (hs1 : ∀ i ∈ ix1, i ∈ vs1) (hv : ∀ i ∈ vs1, i ∈ vs) :
    SE K B (tLc2 wi g tt wi1 g1 tt1 te vs vs1) (dLc2 di dg dt di1 dg1 dt1 de vs vs1) := fun F H σ γ Q q R hq k => by
  refine hi F H σ γ _ _ R hq fun J F1 H1 γ1 n y R1 e1 jo ⟨I, i0, it, ie⟩ => ?_
  intro L hL
  obtain ⟨f1, f2, f3, f4⟩ := R1.fresh hL
  have S0 : LSt K B F1 L (L2.wipe σ vs) [] (wipeG γ1 vs) (upd H1 L (.lst [])) F1 [] := LSt.wipe ⟨R1.alloc _ hL, Evl.Ex.refl F1, upd_same, f1, .nil, f4⟩ vs
  refine ⟨fun i m H' => m = n - i ∧ i ≤ n ∧ ∃ F' γ' acc va, LSt K B F1 L (L2.wipe σ vs) acc γ' H' F' va ∧ I i acc γ', ⟨n, by omega, by omega, F1, _, [], [], S0, i0⟩, fun i m H' ⟨hm, hin, F2, γ2, acc, va, S2, i2⟩ => ?_⟩
  by_cases hlt : i < n
  · refine .inr ⟨jo.go B F2 H' _ γ2 i S2.R S2.e hlt, fun H3 => ∃ F' γ' acc va, LSt K B F1 L (L2.wipe σ vs) acc γ' H3 F' va ∧ I (i + 1) acc γ', fun H3 h => ⟨n - (i + 1), by omega, rfl, by omega, h⟩, fun x H3 hy => ?_⟩
    obtain ⟨F3, dd, R3, e3, rx, yx⟩ := jo.yl _ F2 H' _ γ2 i x H3 S2.R.re S2.e hlt hy rfl
    refine hg _ F3 H3 _ γ2 x dd _ _ R3 rx (it i acc γ2 hlt i2 dd yx) fun σ4 γ4 R4 o4 h4 => ?_
    have w4 : L2.wipe σ4 vs = L2.wipe σ vs := wipe_off o4 hs
    refine ⟨w4, ht _ F3 H3 σ4 γ4 _ _ R4 h4 fun b F5 H5 γ5 R5 e5 h5 => ?_⟩
    have S5 := S2.keep R5 (e3.trans e5)
    cases b with
    | false =>
      have S6 := S5.wipe vs
      rw [w4] at S6
      exact ⟨F5, _, acc, va, S6, h5.2 rfl⟩
    | true =>
      show wi1 σ4 H5 _
      refine hi1 _ F5 H5 σ4 γ5 _ _ S5.R.re (h5.1 rfl) fun J1 F6 H6 γ6 n1 y1 R6 e6 jo1 ⟨I1, j0, jt, je⟩ => ?_
      have S6 := S5.keep R6 e6
      have z6 : (B.re F5 H5 σ4 γ5).z = B.z := rfl
      refine ⟨fun j k' H7 => k' = n1 - j ∧ j ≤ n1 ∧ ∃ F' γ' acc va, LSt K B F6 L (L2.wipe σ4 vs1) acc γ' H7 F' va ∧ Ex F1 F6 ∧ I1 j acc γ', ⟨n1, by omega, by omega, F6, _, acc, va, LSt.wipe ⟨S6.R, Evl.Ex.refl F6, S6.h, S6.f, S6.r, S6.na⟩ vs1, S6.e, j0⟩, fun j k' H7 ⟨hk', hj, F7, γ7, acc7, va7, S7, e17, i7⟩ => ?_⟩
      by_cases hlt1 : j < n1
      · refine .inr ⟨jo1.go B F7 H7 _ γ7 j S7.R S7.e hlt1, fun H8 => ∃ F' γ' acc va, LSt K B F6 L (L2.wipe σ4 vs1) acc γ' H8 F' va ∧ Ex F1 F6 ∧ I1 (j + 1) acc γ', fun H8 h => ⟨n1 - (j + 1), by omega, rfl, by omega, h⟩, fun x1 H8 hy1 => ?_⟩
        obtain ⟨F8, d8, R8, e8, rx8, yx8⟩ := jo1.yl _ F7 H7 _ γ7 j x1 H8 S7.R.re S7.e hlt1 hy1 rfl
        refine hg1 _ F8 H8 _ γ7 x1 d8 _ _ R8 rx8 (jt j acc7 γ7 hlt1 i7 d8 yx8) fun σ9 γ9 R9 o9 h9 => ?_
        have w9 : L2.wipe σ9 vs1 = L2.wipe σ4 vs1 := wipe_off o9 hs1
        refine ⟨w9, ht1 _ F8 H8 σ9 γ9 _ _ R9 h9 fun b1 F10 H10 γ10 R10 e10 h10 => ?_⟩
        cases b1 with
        | false =>
          have S11 := (S7.keep R10 (e8.trans e10)).wipe vs1
          rw [w9] at S11
          exact ⟨F10, _, acc7, va7, S11, e17, h10.2 rfl⟩
        | true =>
          show te σ9 H10 _
          refine he _ F10 H10 σ9 γ10 _ _ R10 (h10.1 rfl) fun v F11 H11 γ11 s R11 e11 o11 ⟨hk, hlen, h12⟩ => ?_
          obtain ⟨F12, R12, e12, o12⟩ := o11.fz R11
          have rv := o12.kp hk
          have S12 := S7.keep R12 (((e8.trans e10).trans e11).trans e12)
          refine ⟨va7, S12.h, Nat.lt_of_lt_of_le (show va7.length < 1000001 by rw [S12.r.length]; omega) (by decide), ?_⟩
          have S13 := (S12.add f2 rv).wipe vs1
          rw [w9] at S13
          exact ⟨F12, _, _, _, S13, e17, h12⟩
      · obtain rfl : j = n1 := by omega
        refine .inl ⟨jo1.st B F7 H7 _ γ7 j S7.R S7.e (Nat.le_refl _), ?_⟩
        have S14 := S7.wipe vs
        rw [wipe_sub hv, w4] at S14
        exact ⟨F7, _, acc7, va7, ⟨S14.R, e17.trans S14.e, S14.h, S14.f, S14.r, S14.na⟩, je acc7 γ7 i7⟩
  · obtain rfl : i = n := by omega
    refine .inl ⟨jo.st B F2 H' _ γ2 i S2.R S2.e (Nat.le_refl _), ?_⟩
    have R3 : Rep K B F2 H' σ (restore γ1 γ2 vs) := Rep.rest R1 S2.R S2.e rfl
    refine k _ F2 H' _ (.new (.lst acc)) R3 (e1.trans S2.e) ⟨L, rfl, S2.f, ⟨va, S2.h, S2.r⟩, f3, .inr f2, fun j p c h1 h2 => ?_⟩ (ie acc γ2 i2)
    rcases restore_get h1 with ⟨_, z⟩ | ⟨nj, z⟩
    · unfold keepV at z
      split at z <;> cases z
    · exact S2.na j p c z (by rw [wipe_get, if_neg fun q => nj q.1]; exact h2)
section
variable {X : Cx} {B : Bs} {elt tg iter tg1 iter1 : Expr} {ifs ifs1 : List Expr} {scope : Scope} {pos spos : Pos} {wi wi1 : TI} {di di1 : DI} {g g1 : TG} {dg dg1 : DG} {tt tt1 : TT} {dt dt1 : DT} {te : TE} {de : DE} {ix ix1 : List Nat}
theorem x_lc2 (own : List (Str × Nat)) (vs1 : List Nat) (hc : X.calm = true) (hN : X.N.Nodup) (hi : XI X B tg iter wi di) (ok : BlkOk X.N X.env.scope scope own)
    (hg : ∀ (B : Bs) (s : Shared) (H : Hp) (C : Addr) (cl : List (Str × Addr)) (fp : List Addr), XG (X.blk s H scope (compEnvC scope cl C X.env) fp) B tg g dg ix) (ht : ∀ (B : Bs) (s : Shared) (H : Hp) (C : Addr) (cl : List (Str × Addr)) (fp : List Addr), XTs (X.blk s H scope (compEnvC scope cl C X.env) fp) B ifs tt dt)
    (hi1 : ∀ (B : Bs) (s : Shared) (H : Hp) (C : Addr) (cl : List (Str × Addr)) (fp : List Addr), XI (X.blk s H scope (compEnvC scope cl C X.env) fp) B tg1 iter1 wi1 di1)
    (hg1 : ∀ (B : Bs) (s : Shared) (H : Hp) (C : Addr) (cl : List (Str × Addr)) (fp : List Addr), XG (X.blk s H scope (compEnvC scope cl C X.env) fp) B tg1 g1 dg1 ix1) (ht1 : ∀ (B : Bs) (s : Shared) (H : Hp) (C : Addr) (cl : List (Str × Addr)) (fp : List Addr), XTs (X.blk s H scope (compEnvC scope cl C X.env) fp) B ifs1 tt1 dt1)
    (he : ∀ (B : Bs) (s : Shared) (H : Hp) (C : Addr) (cl : List (Str × Addr)) (fp : List Addr), XE (X.blk s H scope (compEnvC scope cl C X.env) fp) B elt te de) (hix : ∀ i ∈ ix, i ∈ own.map (·.2)) (hix1 : ∀ i ∈ ix1, i ∈ vs1) (hv : ∀ i ∈ vs1, i ∈ own.map (·.2)) (hs : ∀ x, foldedSetIterable iter X.env x = pure x := by intro _; rfl) (hs1 : ∀ env x, foldedSetIterable iter1 env x = pure x := by intro _ _; rfl) :
    XE X B (.ListComp elt [⟨tg, iter, ifs, 0⟩, ⟨tg1, iter1, ifs1, 0⟩] scope pos) (tLc2 wi g tt wi1 g1 tt1 te (own.map (·.2)) vs1) (dLc2 di dg dt di1 dg1 dt1 de (own.map (·.2)) vs1) :=
  ⟨pe_lc2 hc hN hi.pi ok hv (fun s H C cl fp => (hg B s H C cl fp).pg) (fun s H C cl fp => (ht B s H C cl fp).pt) (fun s H C cl fp => (hi1 B s H C cl fp).pi) (fun s H C cl fp => (hg1 B s H C cl fp).pg) (fun s H C cl fp => (ht1 B s H C cl fp).pt) (fun s H C cl fp => (he B s H C cl fp).pe) hs hs1,
    se_lc2 hi.si (fun B => (hg B X.s_0 X.H_0 0 [] []).sg) (fun B => (ht B X.s_0 X.H_0 0 [] []).st) (fun B => (hi1 B X.s_0 X.H_0 0 [] []).si) (fun B => (hg1 B X.s_0 X.H_0 0 [] []).sg) (fun B => (ht1 B X.s_0 X.H_0 0 [] []).st) (fun B => (he B X.s_0 X.H_0 0 [] []).se) hix hix1 hv⟩
theorem s_setLc2 (i : Nat) (own : List (Str × Nat)) (vs1 : List Nat) {y : Str} {py : Pos} (hc : X.calm = true) (hN : X.N.Nodup) (hi : XI X B tg iter wi di) (ok : BlkOk X.N X.env.scope scope own)
    (hg : ∀ (B : Bs) (s : Shared) (H : Hp) (C : Addr) (cl : List (Str × Addr)) (fp : List Addr), XG (X.blk s H scope (compEnvC scope cl C X.env) fp) B tg g dg ix) (ht : ∀ (B : Bs) (s : Shared) (H : Hp) (C : Addr) (cl : List (Str × Addr)) (fp : List Addr), XTs (X.blk s H scope (compEnvC scope cl C X.env) fp) B ifs tt dt)
    (hi1 : ∀ (B : Bs) (s : Shared) (H : Hp) (C : Addr) (cl : List (Str × Addr)) (fp : List Addr), XI (X.blk s H scope (compEnvC scope cl C X.env) fp) B tg1 iter1 wi1 di1)
    (hg1 : ∀ (B : Bs) (s : Shared) (H : Hp) (C : Addr) (cl : List (Str × Addr)) (fp : List Addr), XG (X.blk s H scope (compEnvC scope cl C X.env) fp) B tg1 g1 dg1 ix1) (ht1 : ∀ (B : Bs) (s : Shared) (H : Hp) (C : Addr) (cl : List (Str × Addr)) (fp : List Addr), XTs (X.blk s H scope (compEnvC scope cl C X.env) fp) B ifs1 tt1 dt1)
    (he : ∀ (B : Bs) (s : Shared) (H : Hp) (C : Addr) (cl : List (Str × Addr)) (fp : List Addr), XE (X.blk s H scope (compEnvC scope cl C X.env) fp) B elt te de) (hix : ∀ i ∈ ix, i ∈ own.map (·.2)) (hix1 : ∀ i ∈ ix1, i ∈ vs1) (hv : ∀ i ∈ vs1, i ∈ own.map (·.2)) (hsw : swapsWith (.ListComp elt [⟨tg, iter, ifs, 0⟩, ⟨tg1, iter1, ifs1, 0⟩] scope pos) (some (.Name y py)) spos.line X.env = pure true)
    (hy : X.N[i]? = some y := by rfl) (hyl : X.env.scope.names.lookup y = some .local := by rfl) (hs : ∀ x, foldedSetIterable iter X.env x = pure x := by intro _; rfl) (hs1 : ∀ env x, foldedSetIterable iter1 env x = pure x := by intro _ _; rfl) :
    XS X B (.Assign [.Name y py] (.ListComp elt [⟨tg, iter, ifs, 0⟩, ⟨tg1, iter1, ifs1, 0⟩] scope pos) spos) (tAsg (tLc2 wi g tt wi1 g1 tt1 te (own.map (·.2)) vs1) (gName i)) (dAsg i (dLc2 di dg dt di1 dg1 dt1 de (own.map (·.2)) vs1)) :=
  ⟨ps_setLc2 hc hN hy hyl hsw hi.pi ok hv (fun s H C cl fp => (hg B s H C cl fp).pg) (fun s H C cl fp => (ht B s H C cl fp).pt) (fun s H C cl fp => (hi1 B s H C cl fp).pi) (fun s H C cl fp => (hg1 B s H C cl fp).pg) (fun s H C cl fp => (ht1 B s H C cl fp).pt) (fun s H C cl fp => (he B s H C cl fp).pe) hs hs1,
    sa_name (se_lc2 hi.si (fun B => (hg B X.s_0 X.H_0 0 [] []).sg) (fun B => (ht B X.s_0 X.H_0 0 [] []).st) (fun B => (hi1 B X.s_0 X.H_0 0 [] []).si) (fun B => (hg1 B X.s_0 X.H_0 0 [] []).sg) (fun B => (ht1 B X.s_0 X.H_0 0 [] []).st) (fun B => (he B X.s_0 X.H_0 0 [] []).se) hix hix1 hv)⟩
end
end DL

set_option Elab.async false
set_option linter.all false
set_option maxRecDepth 100000
set_option maxHeartbeats 2000000
namespace DL
open PySem PySem.Spec PyProof.Rows L2
/-! ### loops told by the few slots that change -/
def puts (γ : Env) : List (Nat × Sx) → Env
  | [] => γ
  | (i, s) :: r => puts (put γ i s) r
theorem for_up {V : Type} (U : V → List (Nat × Sx)) (P : Nat → V → Prop) (v0 : V) {n : Nat} {y : Nat → D → Prop} {γ1 : Env} {dg : DG} {db : DS} {d : DEnds} (e0 : puts γ1 (U v0) = γ1) (h0 : P 0 v0)
    (hs : ∀ i v, i < n → P i v → ∀ x, y i x → dg x (puts γ1 (U v)) fun γ3 => db { nx := fun γ => ∃ v', puts γ1 (U v') = γ ∧ P (i + 1) v', ct := fun γ => ∃ v', puts γ1 (U v') = γ ∧ P (i + 1) v', bk := d.nx, rt := d.rt } γ3)
    (hd : ∀ v, P n v → d.nx (puts γ1 (U v))) : ForOk n y γ1 dg db d :=
  for_ok (fun i γ => ∃ v, puts γ1 (U v) = γ ∧ P i v) ⟨v0, e0, h0⟩ (fun i γ2 hi ⟨v, e, hp⟩ x hx => by subst e; exact hs i v hi hp x hx) (fun γ2 ⟨v, e, hp⟩ => by subst e; exact hd v hp)
/-- a comprehension told by what it has made -/
theorem lc_a {n : Nat} {y : Nat → D → Prop} {γ1 : Env} {dg : DG} {dt : DT} {de : DE} {vs : List Nat} {q : RS → Env → Prop} (hn : n ≤ 1000000) (A : Nat → List D) (h0 : A 0 = [])
    (hs : ∀ i x, i < n → y i x → dg x (wipeG γ1 vs) fun γ3 => dt γ3 fun b γ4 => (b = true → de γ4 fun s γ5 => s.kept ∧ A i ++ [s.data] = A (i + 1) ∧ wipeG γ5 vs = wipeG γ1 vs) ∧ (b = false → A i = A (i + 1) ∧ wipeG γ4 vs = wipeG γ1 vs))
    (hf : q (.new (.lst (A n))) (restore γ1 (wipeG γ1 vs) vs)) : LcOk n y γ1 dg dt de vs q :=
  lc_ok hn (fun i acc γ => acc = A i ∧ γ = wipeG γ1 vs) ⟨h0.symm, rfl⟩ (fun i acc γ hi ⟨e1, e2⟩ x hx => by
    subst e1; subst e2
    exact hs i x hi hx) fun acc γ ⟨e1, e2⟩ => by subst e1; subst e2; exact hf
theorem take_snoc {α : Type} {l : List α} {i : Nat} {x : α} (h : l[i]? = some x) : l.take i ++ [x] = l.take (i + 1) := by
  rw [List.take_add_one, h]; rfl
theorem rev_get {α : Type} {l : List α} {i : Nat} (h : i < l.length) : l.reverse[i]? = l[l.length - 1 - i]? := by
  rw [List.getElem?_reverse h]
theorem deq_lcn {x : D} {xs : List D} : deq (.lst (x :: xs)) (.lst []) = false := by simp [deq, PyData.eqv, D.py, pyAll, PyData.eqvAll]
theorem deq_lnc {x : D} {xs : List D} : deq (.lst []) (.lst (x :: xs)) = false := by simp [deq, PyData.eqv, D.py, pyAll, PyData.eqvAll]
theorem mapD_get {ns : List Int} {i : Nat} {x : D} (h : (ns.map D.int)[i]? = some x) : ∃ a, ns[i]? = some a ∧ x = .int a := by
  rw [List.getElem?_map] at h
  cases e : ns[i]? with
  | none => rw [e] at h; cases h
  | some a => rw [e] at h; cases h; exact ⟨a, rfl, rfl⟩
/-- two clauses -/
def Lc2In (I : List D → Env → Prop) (acc : List D) (n1 : Nat) (y1 : Nat → D → Prop) (γ5 : Env) (dg1 : DG) (dt1 : DT) (de : DE) (vs vs1 : List Nat) : Prop := ∃ I1 : Nat → List D → Env → Prop, I1 0 acc (wipeG γ5 vs1) ∧
    (∀ j acc1 γ6, j < n1 → I1 j acc1 γ6 → ∀ x1, y1 j x1 → dg1 x1 γ6 fun γ7 => dt1 γ7 fun b1 γ8 => (b1 = true → de γ8 fun s γ9 => s.kept ∧ acc1.length < 1000000 ∧ I1 (j + 1) (acc1 ++ [s.data]) (wipeG γ9 vs1)) ∧ (b1 = false → I1 (j + 1) acc1 (wipeG γ8 vs1))) ∧
    ∀ acc1 γ6, I1 n1 acc1 γ6 → I acc1 (wipeG γ6 vs)
def Lc2Ok (n : Nat) (y : Nat → D → Prop) (γ1 : Env) (dg : DG) (dt : DT) (di1 : DI) (dg1 : DG) (dt1 : DT) (de : DE) (vs vs1 : List Nat) (q : RS → Env → Prop) : Prop := ∃ I : Nat → List D → Env → Prop, I 0 [] (wipeG γ1 vs) ∧
  (∀ i acc γ2, i < n → I i acc γ2 → ∀ x, y i x → dg x γ2 fun γ3 => dt γ3 fun b γ4 => (b = true → di1 γ4 fun n1 y1 γ5 => Lc2In (I (i + 1)) acc n1 y1 γ5 dg1 dt1 de vs vs1) ∧ (b = false → I (i + 1) acc (wipeG γ4 vs))) ∧
  ∀ acc γ2, I n acc γ2 → q (.new (.lst acc)) (restore γ1 γ2 vs)
theorem dLc2_eq {di : DI} {dg : DG} {dt : DT} {di1 : DI} {dg1 : DG} {dt1 : DT} {de : DE} {vs vs1 : List Nat} {γ : Env} {q : RS → Env → Prop} : dLc2 di dg dt di1 dg1 dt1 de vs vs1 γ q = di γ fun n y γ1 => Lc2Ok n y γ1 dg dt di1 dg1 dt1 de vs vs1 q := rfl
theorem lc2_a {n : Nat} {y : Nat → D → Prop} {γ1 : Env} {dg : DG} {dt : DT} {di1 : DI} {dg1 : DG} {dt1 : DT} {de : DE} {vs vs1 : List Nat} {q : RS → Env → Prop} (A : Nat → List D) (h0 : A 0 = [])
    (hs : ∀ i x, i < n → y i x → dg x (wipeG γ1 vs) fun γ3 => dt γ3 fun b γ4 => (b = true → di1 γ4 fun n1 y1 γ5 => Lc2In (fun acc γ => acc = A (i + 1) ∧ γ = wipeG γ1 vs) (A i) n1 y1 γ5 dg1 dt1 de vs vs1) ∧ (b = false → A i = A (i + 1) ∧ wipeG γ4 vs = wipeG γ1 vs))
    (hf : q (.new (.lst (A n))) (restore γ1 (wipeG γ1 vs) vs)) : Lc2Ok n y γ1 dg dt di1 dg1 dt1 de vs vs1 q :=
  ⟨fun i acc γ => acc = A i ∧ γ = wipeG γ1 vs, ⟨h0.symm, rfl⟩, fun i acc γ hi ⟨e1, e2⟩ x hx => by
    subst e1; subst e2
    exact hs i x hi hx, fun acc γ ⟨e1, e2⟩ => by subst e1; subst e2; exact hf⟩
theorem lc2_in {I : List D → Env → Prop} {acc : List D} {n1 : Nat} {y1 : Nat → D → Prop} {γ5 : Env} {dg1 : DG} {dt1 : DT} {de : DE} {vs vs1 : List Nat} (A : Nat → List D) (h0 : A 0 = acc)
    (hs : ∀ j x1, j < n1 → y1 j x1 → dg1 x1 (wipeG γ5 vs1) fun γ7 => dt1 γ7 fun b1 γ8 => (b1 = true → de γ8 fun s γ9 => s.kept ∧ (A j).length < 1000000 ∧ A j ++ [s.data] = A (j + 1) ∧ wipeG γ9 vs1 = wipeG γ5 vs1) ∧ (b1 = false → A j = A (j + 1) ∧ wipeG γ8 vs1 = wipeG γ5 vs1))
    (hf : I (A n1) (wipeG (wipeG γ5 vs1) vs)) : Lc2In I acc n1 y1 γ5 dg1 dt1 de vs vs1 :=
  ⟨fun j acc γ => acc = A j ∧ γ = wipeG γ5 vs1, ⟨h0.symm, rfl⟩, fun j acc γ hj ⟨e1, e2⟩ x hx => by
    subst e1; subst e2
    exact hs j x hj hx, fun acc γ ⟨e1, e2⟩ => by subst e1; subst e2; exact hf⟩
theorem ok_bl (b : Bool) : dOkN 0 (.bl b) = true := by
  unfold dOkN
  simp only [D.pure, D.py, PyData.canLay0, PyData.depth, Bool.true_and, decide_eq_true_eq]
  omega
theorem cut_mid {α : Type} {xs : List α} {i j : Nat} (h : i ≤ j) : cut xs (some (i : Int)) (some (j : Int)) = (xs.drop i).take (j - i) := by
  unfold cut
  rw [HT.sIx_nat, HT.sIx_nat]
  by_cases c : i ≤ xs.length
  · rw [Nat.min_eq_left c, List.take_eq_take_iff, List.length_drop]
    omega
  · rw [Nat.min_eq_right (a := i) (by omega), List.drop_of_length_le (Nat.le_refl _), List.drop_of_length_le (by omega), List.take_nil, List.take_nil]
theorem rg_up {n m : Nat} (hm : 0 < m) (h1 : m < 1000000) (h2 : n < 1000000000) : RgC 0 (n : Int) (m : Int) ((n + m - 1) / m) := by
  have e : Builtin.Range.rangeSize 0 (n : Int) (m : Int) = ((n + m - 1) / m : Nat) := by
    unfold Builtin.Range.rangeSize
    rw [if_pos (by omega)]
    by_cases c : n = 0
    · subst c
      rw [if_neg (by omega), Nat.div_eq_of_lt (by omega)]
      rfl
    · rw [if_pos (by omega), show (n : Int) - 0 - 1 = ((n - 1 : Nat) : Int) by omega, show n + m - 1 = (n - 1) + m by omega, Nat.add_div_right _ hm]
      push_cast
      rfl
  refine ⟨by omega, by omega, ?_, e⟩
  have hle : (n + m - 1) / m ≤ n + m - 1 := Nat.div_le_self _ _
  unfold Builtin.Range.small
  rw [e]
  generalize (n + m - 1) / m = k at hle
  simp only [Builtin.Range.rangeFitsLong, Bool.and_eq_true, Bool.or_eq_true, decide_eq_true_eq, beq_iff_eq]
  refine ⟨⟨⟨⟨by omega, by omega⟩, by omega, by omega⟩, by omega, by omega⟩, .inr ?_⟩
  rw [if_pos (by omega)]
  simp only [Bool.and_eq_true, decide_eq_true_eq]
  omega
end DL


set_option Elab.async false
set_option linter.all false
set_option maxRecDepth 100000
set_option maxHeartbeats 4000000
namespace K02
open PySem PySem.Spec PyProof.Rows L2 DL
abbrev intsD (ns : List Int) : List D := ns.map D.int
/-! numbers as digits -/
def val (b : Int) : List Int → Int
  | [] => 0
  | d :: ds => d + b * val b ds
def dig (b : Int) (w : Int) (k : Nat) : Int := w / b ^ k % b
def digs (b : Int) (w : Int) (m : Nat) : List Int := (List.range m).map (dig b w)
theorem dig_zero {b w : Int} : dig b w 0 = w % b := by simp [dig]
theorem dig_succ {b w : Int} {k : Nat} (hb : 0 < b) : dig b w (k + 1) = dig b (w / b) k := by
  unfold dig
  rw [Int.pow_succ, Int.mul_comm, ← Int.ediv_ediv_of_nonneg (show (0 : Int) ≤ b by omega)]
theorem digs_succ {b w : Int} {m : Nat} (hb : 0 < b) : digs b w (m + 1) = w % b :: digs b (w / b) m := by
  unfold digs
  rw [List.range_succ_eq_map, List.map_cons, List.map_map, dig_zero]
  congr 1
  exact List.map_congr_left fun k _ => dig_succ hb
theorem val_digs {b : Int} (hb : 1 < b) : ∀ {ds : List Int} {m : Nat}, (∀ d ∈ ds, 0 ≤ d ∧ d < b) → ds.length ≤ m → digs b (val b ds) m = ds ++ List.replicate (m - ds.length) 0
  | [], 0, _, _ => rfl
  | [], m + 1, _, _ => by
    have := val_digs hb (ds := []) (m := m) (fun d h => by cases h) (Nat.zero_le _)
    rw [digs_succ (by omega)]
    simp only [val, Int.zero_emod, Int.zero_ediv] at this ⊢
    rw [this]
    simp [List.replicate_succ]
  | d :: ds, 0, _, h => by simp at h
  | d :: ds, m + 1, h, hl => by
    obtain ⟨h0, h1⟩ := h d List.mem_cons_self
    have ih := val_digs hb (ds := ds) (m := m) (fun x hx => h x (List.mem_cons_of_mem _ hx)) (by simp at hl; omega)
    rw [digs_succ (by omega)]
    have e1 : val b (d :: ds) % b = d := by
      show (d + b * val b ds) % b = d
      rw [Int.add_mul_emod_self_left]
      exact Int.emod_eq_of_lt h0 h1
    have e2 : val b (d :: ds) / b = val b ds := by
      show (d + b * val b ds) / b = val b ds
      rw [Int.add_mul_ediv_left _ _ (by omega), Int.ediv_eq_zero_of_lt h0 h1, Int.zero_add]
    rw [e1, e2, ih]
    simp
theorem val_digs_back {b : Int} (hb : 1 < b) : ∀ {m : Nat} {w : Int}, 0 ≤ w → w < b ^ m → val b (digs b w m) = w
  | 0, w, h0, h1 => by
    simp at h1
    show (0 : Int) = w
    omega
  | m + 1, w, h0, h1 => by
    rw [digs_succ (by omega)]
    show w % b + b * val b (digs b (w / b) m) = w
    rw [val_digs_back hb (Int.ediv_nonneg h0 (by omega)) (Int.ediv_lt_of_lt_mul (by omega) (by rw [← Int.pow_succ]; exact h1))]
    exact Int.emod_add_mul_ediv w b
theorem val_nn {b : Int} (hb : 0 < b) : ∀ {ds : List Int}, (∀ d ∈ ds, 0 ≤ d) → 0 ≤ val b ds
  | [], _ => Int.le_refl _
  | d :: ds, h => by
    have h1 := h d List.mem_cons_self
    have h2 := val_nn hb (ds := ds) fun x hx => h x (List.mem_cons_of_mem _ hx)
    exact Int.add_nonneg h1 (Int.mul_nonneg (by omega) h2)
theorem val_lt {b : Int} (hb : 0 < b) : ∀ {ds : List Int}, (∀ d ∈ ds, d < b) → val b ds < b ^ ds.length
  | [], _ => by simp [val]
  | d :: ds, h => by
    have h1 := h d List.mem_cons_self
    have h2 := val_lt hb (ds := ds) fun x hx => h x (List.mem_cons_of_mem _ hx)
    show d + b * val b ds < b ^ (ds.length + 1)
    have h3 : b * (val b ds + 1) ≤ b * b ^ ds.length := Int.mul_le_mul_of_nonneg_left (by omega) (by omega)
    rw [Int.mul_add, Int.mul_one] at h3
    rw [Int.pow_succ, Int.mul_comm (b ^ ds.length)]
    omega
theorem val_app {b : Int} : ∀ {ds es : List Int}, val b (ds ++ es) = val b ds + b ^ ds.length * val b es
  | [], es => by simp [val]
  | d :: ds, es => by
    show d + b * val b (ds ++ es) = d + b * val b ds + b ^ (ds.length + 1) * val b es
    rw [val_app, Int.mul_add, Int.pow_succ, Int.mul_comm (b ^ ds.length) b, Int.mul_assoc, Int.add_assoc]
abbrev chunk (m : Nat) (row : List Int) (i : Nat) : List Int := (row.drop (i * m)).take m
def cnt (m n : Nat) : Nat := (n + m - 1) / m
def wordsB (b : Int) (m : Nat) (row : List Int) : List Int := (List.range (cnt m row.length)).map fun i => val b (chunk m row i)
def Fits (w : Nat) (row : List Int) : Prop := ∀ x ∈ row, 0 ≤ x ∧ x < 2 ^ w
theorem cnt_mul {m n : Nat} (hm : 0 < m) : n ≤ cnt m n * m := by
  unfold cnt
  have h1 := Nat.div_add_mod (n + m - 1) m
  have h2 := Nat.mod_lt (n + m - 1) hm
  rw [Nat.mul_comm] at h1
  omega
theorem digs_len {b w : Int} {m : Nat} : (digs b w m).length = m := by simp [digs]
theorem digs_zero {b : Int} (hb : 1 < b) {m : Nat} : digs b 0 m = List.replicate m 0 := by
  have := val_digs hb (ds := []) (m := m) (fun d h => by cases h) (Nat.zero_le _)
  simpa [val] using this
theorem chunk_zero {m : Nat} {row : List Int} : chunk m row 0 = row.take m := by simp [chunk]
theorem chunk_succ {m : Nat} {row : List Int} {i : Nat} : chunk m row (i + 1) = chunk m (row.drop m) i := by
  unfold chunk
  rw [List.drop_drop, Nat.succ_mul, Nat.add_comm]
theorem flat_words {b : Int} {m : Nat} (hb : 1 < b) : ∀ (n : Nat) (row : List Int), (∀ x ∈ row, 0 ≤ x ∧ x < b) → row.length ≤ n * m →
    (List.range n).flatMap (fun i => digs b (val b (chunk m row i)) m) = row ++ List.replicate (n * m - row.length) 0
  | 0, row, _, h => by
    have : row = [] := List.eq_nil_of_length_eq_zero (by omega)
    subst this
    simp
  | n + 1, row, hf, h => by
    rw [List.range_succ_eq_map, List.flatMap_cons, List.flatMap_map]
    have ih := flat_words (m := m) hb n (row.drop m) (fun x hx => hf x (List.mem_of_mem_drop hx)) (by rw [List.length_drop]; rw [Nat.succ_mul n m] at h; omega)
    have e : (List.range n).flatMap (fun i => digs b (val b (chunk m row i.succ)) m) = (List.range n).flatMap (fun i => digs b (val b (chunk m (row.drop m) i)) m) := by
      congr 1
      funext i
      rw [Nat.succ_eq_add_one, chunk_succ]
    rw [e, ih, chunk_zero, val_digs hb (fun x hx => hf x (List.mem_of_mem_take hx)) (by rw [List.length_take]; omega), List.length_take, List.length_drop, Nat.succ_mul]
    by_cases c : m ≤ row.length
    · rw [Nat.min_eq_left c, Nat.sub_self]
      simp only [List.replicate_zero, List.append_nil]
      rw [← List.append_assoc, List.take_append_drop, show n * m - (row.length - m) = n * m + m - row.length by omega]
    · rw [List.drop_eq_nil_of_le (by omega), List.take_of_length_le (by omega), Nat.min_eq_right (by omega), List.append_assoc, List.nil_append, List.replicate_append_replicate]
      congr 2
      omega
theorem words_len {b : Int} {m : Nat} {row : List Int} : (wordsB b m row).length = cnt m row.length := by simp [wordsB]
theorem words_flat {b : Int} {m : Nat} (hb : 1 < b) (hm : 0 < m) {row : List Int} (hf : ∀ x ∈ row, 0 ≤ x ∧ x < b) : (wordsB b m row).flatMap (fun x => digs b x m) = row ++ List.replicate (cnt m row.length * m - row.length) 0 := by
  unfold wordsB
  rw [List.flatMap_map]
  exact flat_words hb _ row hf (cnt_mul hm)
/-- all digits of the words, and their low parts -/
def allD (b : Int) (m : Nat) (ws : List Int) : List Int := ws.flatMap fun x => digs b x m
def low (w : Nat) (row : List Int) : List Int := row.map (· % 2 ^ w)
def rdB (w : Nat) (m : Nat) (ws : List Int) (c : Nat) : List Int := (low w (allD (2 ^ (w + 1)) m ws)).take c
def goodB (w m : Nat) (ws : List Int) (c : Nat) : Prop := ws.length = cnt m c ∧ wordsB (2 ^ (w + 1)) m (rdB w m ws c) = ws
theorem allD_len {b : Int} {m : Nat} : ∀ {ws : List Int}, (allD b m ws).length = ws.length * m
  | [] => by simp [allD]
  | x :: ws => by
    have := allD_len (b := b) (m := m) (ws := ws)
    unfold allD at *
    rw [List.flatMap_cons, List.length_append, this, digs_len, List.length_cons, Nat.succ_mul]
    omega
theorem pow2_pos (w : Nat) : (0 : Int) < 2 ^ w := by exact_mod_cast Nat.two_pow_pos w
theorem pow2_s (w : Nat) : (2 : Int) ^ (w + 1) = 2 * 2 ^ w := by rw [Int.pow_succ, Int.mul_comm]
theorem rd_fits {w m : Nat} {ws : List Int} {c : Nat} : Fits w (rdB w m ws c) := fun x hx => by
  obtain ⟨y, _, rfl⟩ := List.mem_map.mp (List.mem_of_mem_take hx)
  have := pow2_pos w
  exact ⟨Int.emod_nonneg _ (by omega), Int.emod_lt_of_pos _ this⟩
theorem low_id {w : Nat} {row : List Int} (h : Fits w row) : low w row = row := by
  unfold low
  conv => rhs; rw [← List.map_id row]
  exact List.map_congr_left fun x hx => Int.emod_eq_of_lt (h x hx).1 (h x hx).2
theorem good_back {w m : Nat} {ws : List Int} {c : Nat} (hm : 0 < m) (h : goodB w m ws c) : (allD (2 ^ (w + 1)) m ws).take c = rdB w m ws c ∧ (rdB w m ws c).length = c := by
  obtain ⟨h1, h2⟩ := h
  have hb : (1 : Int) < 2 ^ (w + 1) := by rw [pow2_s]; have := pow2_pos w; omega
  have hl : (rdB w m ws c).length = c := by
    unfold rdB low
    rw [List.length_take, List.length_map, allD_len, h1]
    have := cnt_mul (m := m) (n := c) hm
    omega
  refine ⟨?_, hl⟩
  have hf : ∀ x ∈ rdB w m ws c, 0 ≤ x ∧ x < 2 ^ (w + 1) := fun x hx => by
    have := rd_fits x hx
    have := pow2_pos w
    rw [pow2_s]; omega
  have e := words_flat hb hm hf
  rw [h2] at e
  show (List.flatMap (fun x => digs (2 ^ (w + 1)) x m) ws).take c = _
  rw [e, List.take_append_of_le_length (by omega), List.take_of_length_le (by omega)]
theorem good_iff {w m : Nat} {ws : List Int} {c : Nat} (hm : 0 < m) : goodB w m ws c ↔ ¬ ((allD (2 ^ (w + 1)) m ws).take c).length < c ∧ (∀ x ∈ (allD (2 ^ (w + 1)) m ws).take c, x < 2 ^ w) ∧ wordsB (2 ^ (w + 1)) m ((allD (2 ^ (w + 1)) m ws).take c) = ws := by
  constructor
  · intro h
    obtain ⟨e, hl⟩ := good_back hm h
    rw [e]
    exact ⟨by omega, fun x hx => (rd_fits x hx).2, h.2⟩
  · rintro ⟨h1, h2, h3⟩
    have hb : (0 : Int) < 2 ^ (w + 1) := by rw [pow2_s]; have := pow2_pos w; omega
    have hf : Fits w ((allD (2 ^ (w + 1)) m ws).take c) := fun x hx => ⟨by
      have hx' := List.mem_of_mem_take hx
      unfold allD at hx'
      obtain ⟨y, _, hy⟩ := List.mem_flatMap.mp hx'
      unfold digs at hy
      obtain ⟨k, _, rfl⟩ := List.mem_map.mp hy
      exact Int.emod_nonneg _ (by omega), h2 x hx⟩
    have e : rdB w m ws c = (allD (2 ^ (w + 1)) m ws).take c := by
      unfold rdB
      unfold low
      rw [← List.map_take]
      exact low_id hf
    have hl : ((allD (2 ^ (w + 1)) m ws).take c).length = c := by rw [List.length_take] at h1 ⊢; omega
    refine ⟨?_, by rw [e]; exact h3⟩
    have := words_len (b := 2 ^ (w + 1)) (m := m) (row := (allD (2 ^ (w + 1)) m ws).take c)
    rw [h3, hl] at this
    exact this
/-- lanes below a bound -/
theorem val_map_sub {b B : Int} : ∀ {ds : List Int}, val b (ds.map fun x => B - x) = val b (ds.map fun _ => 1) * B - val b ds
  | [] => by simp [val]
  | d :: ds => by
    show B - d + b * val b (ds.map fun x => B - x) = (1 + b * val b (ds.map fun _ => 1)) * B - (d + b * val b ds)
    rw [val_map_sub, Int.add_mul, Int.one_mul, Int.mul_sub, Int.mul_assoc]
    omega
theorem digs_get {b w : Int} {m k : Nat} (h : k < m) : (digs b w m)[k]? = some (w / b ^ k % b) := by
  unfold digs
  rw [List.getElem?_map, List.getElem?_range h]
  rfl
theorem val_dig {b : Int} (hb : 1 < b) {ds : List Int} (hf : ∀ d ∈ ds, 0 ≤ d ∧ d < b) {k : Nat} {x : Int} (h : ds[k]? = some x) : val b ds / b ^ k % b = x := by
  obtain ⟨hl, _⟩ := List.getElem?_eq_some_iff.mp h
  have e := val_digs hb (ds := ds) (m := ds.length) hf (Nat.le_refl _)
  have g := digs_get (b := b) (w := val b ds) hl
  rw [e, Nat.sub_self, List.replicate_zero, List.append_nil, h] at g
  exact (Option.some.inj g).symm
theorem bit_low {w : Nat} {Y : Int} (p : (0 : Int) < 2 ^ w) : Y / 2 ^ w % 2 = Y % 2 ^ (w + 1) / 2 ^ w := by
  rw [pow2_s]
  generalize (2 : Int) ^ w = P at p
  have e1 := Int.emod_add_mul_ediv Y (2 * P)
  have r0 := Int.emod_nonneg Y (show 2 * P ≠ 0 by omega)
  have r1 := Int.emod_lt_of_pos Y (show 0 < 2 * P by omega)
  generalize Y % (2 * P) = r at *
  generalize Y / (2 * P) = q at *
  subst e1
  rw [show r + 2 * P * q = r + (2 * q) * P by rw [Int.mul_assoc, Int.mul_assoc, Int.mul_comm P q], Int.add_mul_ediv_right _ _ (by omega)]
  have d0 : 0 ≤ r / P := Int.ediv_nonneg r0 (by omega)
  have d1 : r / P < 2 := Int.ediv_lt_of_lt_mul p r1
  omega
theorem marks_bit {w : Nat} {ds : List Int} {B : Int} (hf : Fits w ds) (h0 : 0 ≤ B) (h1 : B ≤ 2 ^ w) {k : Nat} {x : Int} (h : ds[k]? = some x) :
    (val (2 ^ (w + 1)) (ds.map fun _ => 1) * (B + 2 ^ w - 1) - val (2 ^ (w + 1)) ds) / 2 ^ (k * (w + 1) + w) % 2 = if x < B then 1 else 0 := by
  rw [← val_map_sub (B := B + 2 ^ w - 1)]
  have p := pow2_pos w
  have hb : (1 : Int) < 2 ^ (w + 1) := by rw [pow2_s]; omega
  have hf' : ∀ d ∈ ds.map (fun x => B + 2 ^ w - 1 - x), 0 ≤ d ∧ d < 2 ^ (w + 1) := fun d hd => by
    obtain ⟨y, hy, rfl⟩ := List.mem_map.mp hd
    have := hf y hy
    rw [pow2_s]; omega
  have g := val_dig hb hf' (k := k) (x := B + 2 ^ w - 1 - x) (by rw [List.getElem?_map, h]; rfl)
  obtain ⟨hx0, hx1⟩ := hf x (List.mem_of_getElem? h)
  generalize val (2 ^ (w + 1)) (ds.map fun x => B + 2 ^ w - 1 - x) = V at g
  rw [Int.pow_add, ← Int.ediv_ediv_of_nonneg (by exact_mod_cast Nat.zero_le _), show k * (w + 1) = (w + 1) * k from Nat.mul_comm _ _, Int.pow_mul]
  generalize V / (2 ^ (w + 1)) ^ k = Y at g
  have e2 : Y / 2 ^ w % 2 = Y % 2 ^ (w + 1) / 2 ^ w := by
    exact bit_low p
  rw [e2, g]
  by_cases c : x < B
  · rw [if_pos c]
    rw [show B + 2 ^ w - 1 - x = (B - 1 - x) + 1 * 2 ^ w by omega, Int.add_mul_ediv_right _ _ (by omega), Int.ediv_eq_zero_of_lt (by omega) (by omega)]
    rfl
  · rw [if_neg c]
    exact Int.ediv_eq_zero_of_lt (by omega) (by omega)

/-- lanes of a word -/
def mny (w : Nat) : Nat := 60 / (w + 1)
def wds (w : Nat) (row : List Int) : List Int := wordsB (2 ^ (w + 1)) (mny w) row
def rd (w : Nat) (ws : List Int) (c : Nat) : List Int := rdB w (mny w) ws c
def Good (w : Nat) (ws : List Int) (c : Nat) : Prop := goodB w (mny w) ws c
def Wd (w : Nat) : Prop := 1 ≤ w ∧ w ≤ 29
/-- the least width -/
def IsW (row : List Int) (k : Nat) : Prop := 1 ≤ k ∧ (∀ x ∈ row, x < 2 ^ k) ∧ (k = 1 ∨ ∃ x ∈ row, 2 ^ (k - 1) ≤ x)
def Pool (ms : List Int) : Prop := ∀ x ∈ ms, 0 ≤ x
def Lns (w : Nat) (ds : List Int) : Prop := Fits w ds ∧ ds.length = mny w
def bls (ds : List Int) (B : Int) : List D := ds.map fun x => .bl (decide (x < B))
abbrev lD (row : List Int) : Sx := .val (.lst (intsD row))
abbrev iD (i : Int) : Sx := .val (.int i)
abbrev oD (ms : List Int) : Sx := .own (some 0) (.lst (intsD ms))
def fs_lane_count : FS := fun as p => ∃ w : Nat, as = [iD w] ∧ Wd w ∧ p (.val (.int (mny w))) as
def fs_width_of : FSX := fun as p x => ∃ row, as = [lD row] ∧ row.length ≤ 1000 ∧ (∀ k : Nat, Fits 29 row → IsW row k → p (.val (.int k)) as) ∧ (¬ Fits 29 row → x 1 (some [("chain", .str "lanes")]) as)
def fs_pack : FSX := fun as p x => ∃ row, ∃ w : Nat, as = [lD row, iD w] ∧ Wd w ∧ row.length ≤ 1000 ∧ (Fits w row → p (.new (.lst (intsD (wds w row)))) as) ∧ (¬ Fits w row → x 1 (some [("chain", .str "lanes")]) as)
def fs_unpack : FSX := fun as p x => ∃ ws, ∃ w c : Nat, as = [lD ws, iD w, iD c] ∧ Wd w ∧ ws.length ≤ 100 ∧ c ≤ 1000 ∧ (Good w ws c → p (.new (.lst (intsD (rd w ws c)))) as) ∧ (¬ Good w ws c → x 2 none as)
def fs_lanes_below : FS := fun as p => ∃ ds, ∃ w : Nat, ∃ B : Int, as = [iD (val (2 ^ (w + 1)) ds), iD w, iD B] ∧ Wd w ∧ Lns w ds ∧ 0 ≤ B ∧ B ≤ 2 ^ w ∧ p (.val (.tup (bls ds B))) as
def fs_l_digits : FS := fun as p => ∃ ns, as = [.val (.scr ns)] ∧ ns.length ≤ 63 ∧ ∀ ms, Pool ms → p (.new (.lst (intsD ms))) as
def fs_l_draw : FS := fun as p => ∃ (ms : List Int) (m : Int), as = [oD ms, iD m] ∧ Pool ms ∧ 0 < m ∧ m < 2 ^ 40 ∧ ∀ d ms', 0 ≤ d → d < m → Pool ms' → p (.val (.int d)) [oD ms', iD m]
def fs_l_words : FS := fun as p => ∃ row, ∃ w : Nat, as = [lD row, iD w] ∧ Wd w ∧ row.length ≤ 1000 ∧ Fits w row ∧ p (.new (.lst (intsD (wds w row)))) as
def fs_l_lanes : FS := fun as p => ∃ x : Int, ∃ w : Nat, as = [iD x, iD w] ∧ Wd w ∧ p (.new (.lst (intsD (digs (2 ^ (w + 1)) x (mny w))))) as
def fs_l_packed : FS := fun as p => ∃ ws, ∃ w c : Nat, as = [lD ws, iD w, iD c] ∧ Wd w ∧ ws.length ≤ 100 ∧ c ≤ 1000 ∧ (Good w ws c → p (.val (.lst (intsD (rd w ws c)))) as) ∧ (¬ Good w ws c → p (.new (.lst [])) as)
def fs_l_int : FS := fun as p => ∃ a b : Int, as = [iD a, iD b] ∧ p (.val (.bl (decide (a = b)))) as
def fs_l_ints : FS := fun as p => ∃ row : List Int, as = [lD row, lD row] ∧ row.length ≤ 100000 ∧ p (.val (.bl true)) as
def fs_l_read : FS := fun as p => ∃ ws, ∃ w c : Nat, as = [lD ws, iD w, iD c] ∧ Wd w ∧ ws.length ≤ 100 ∧ c ≤ 1000 ∧ (Good w ws c → 0 < c) ∧ p (.val (.bl true)) as
def fs_l_unfit : FS := fun as p => ∃ row, ∃ w : Nat, as = [lD row, iD w] ∧ row.length ≤ 1000 ∧ ((w = 0 ∧ ¬ Fits 29 row) ∨ (Wd w ∧ ¬ Fits w row)) ∧ p (.val (.bl true)) as
def fs_l_near : FS := fun as p => ∃ ms ws : List Int, as = [oD ms, lD ws] ∧ Pool ms ∧ 0 < ws.length ∧ ws.length ≤ 60 ∧ ∀ ws' ms' : List Int, ws'.length ≤ 61 → Pool ms' → p (.new (.lst (intsD ws'))) [oD ms', lD ws]
def fs_l_nothing : FS := fun as p => ∃ w : Nat, as = [iD w] ∧ Wd w ∧ p (.val (.bl true)) as
def fs_l_below : FS := fun as p => ∃ ds, ∃ w : Nat, ∃ B : Int, as = [iD (val (2 ^ (w + 1)) ds), iD w, iD B] ∧ Wd w ∧ Lns w ds ∧ 0 ≤ B ∧ B ≤ 2 ^ w ∧ p (.val (.bl true)) as
def fs_l_widths : FS := fun as p => ∃ row, ∃ w : Nat, as = [lD row, iD w] ∧ Wd w ∧ Fits w row ∧ 0 < row.length ∧ row.length ≤ 40 ∧ p (.val (.bl true)) as
def fs_l_drawn : FS := fun as p => ∃ ms, ∃ w : Nat, as = [oD ms, iD (2 ^ w)] ∧ Wd w ∧ Pool ms ∧ ∀ row ms', Fits w row → 0 < row.length → row.length ≤ 40 → Pool ms' → p (.new (.lst (intsD row))) [oD ms', iD (2 ^ w)]
def fs_l_bounds : FS := fun as p => ∃ ms row, ∃ w : Nat, as = [oD ms, lD (wds w row), lD row, iD w] ∧ Wd w ∧ Pool ms ∧ Fits w row ∧ 0 < row.length ∧ row.length ≤ 40 ∧ ∀ ms', Pool ms' → p (.val (.bl true)) [oD ms', lD (wds w row), lD row, iD w]
abbrev fs_law : FS := fsLaw
/-! printed by gen.py: what each def does, on data -/
/-! error classes: 0 ColonnadeError, 1 Unfit, 2 BadCells -/
def exKit (n t : Nat) : Option Bool := match n, t with
  | 1, 0 => some true
  | 1, 1 => some true
  | 1, 2 => some false
  | 2, 0 => some true
  | 2, 1 => some false
  | 2, 2 => some true
  | _, _ => none
def exRd (n : Nat) (f : Str) : Bool := match n with
  | 1 => decide (f = "chain")
  | _ => false
def exSub_0 (n : Nat) : Option Bool := exKit n 0
def exSub_1 (n : Nat) : Option Bool := exKit n 1
def exSub_2 (n : Nat) : Option Bool := exKit n 2
/-- slots: 0 width -/
def ds_lane_count : DS := (dRet (d2 fDiv (dC (.int 60)) (d2 fAdd (dVar 0) (dC (.int 1)))))
/-- slots: 0 numbers, 1 width, 2 number -/
def ds_width_of (xc : DX) : DS := (dSeq (dAsg 1 (dC (.int 1)))
  (dSeq (dFor (dIL (dVarV 0)) (gN 2) (dSeq (dIf (dNot (dB (dChain fLe fLe (dC (.int 0)) (dVar 2) (dC (.int 536870911))))) (dRaise1 xc 1 "chain" (dCons (dC (.str "lanes")) dNil)) dNext)
  (dAsg 1 (dCB fMax2 (dCons (dVar 1) (dCons (dBits (dVar 2)) dNil))))))
  (dRet (dVarM 1))))
/-- slots: 0 numbers, 1 width, 2 number, 3 many, 4 words, 5 start, 6 word, 7 lane -/
def ds_pack (xc : DX) : DS := (dSeq (dFor (dIL (dVarV 0)) (gN 2) (dIf (dNot (dB (dChain fLe fLt (dC (.int 0)) (dVar 2) (d2 fShl (dC (.int 1)) (dVar 1))))) (dRaise1 xc 1 "chain" (dCons (dC (.str "lanes")) dNil)) dNext))
  (dSeq (dAsg 3 (dCall 1 fs_lane_count [] (dCons (dVarV 1) dNil)))
  (dSeq (dAsg 4 (dLst dNil))
  (dSeq (dFor (dIR3 (dCons (dC (.int 0)) (dCons (dCB fLen (dCons (dVar 0) dNil)) (dCons (dVarV 3) dNil)))) (gN 5) (dSeq (dAsg 6 (dC (.int 0)))
  (dSeq (dFor (dIE (dCons (dSl fSlL (dVar 0) (dPart (dVar 5)) (dPart (d2 fAdd (dVar 5) (dVar 3)))) dNil)) (gT 2 (gsCons (gN 7) (gsCons (gN 2) gsNil))) (dAsg 6 (d2 fOr (dVar 6) (d2 fShl (dVar 2) (d2 fMul (dVar 7) (d2 fAdd (dVar 1) (dC (.int 1))))))))
  (dDrop (dMut 4 mApp (dCons (dVarV 6) dNil))))))
  (dRet (dVarM 4))))))
/-- slots: 0 words, 1 width, 2 count, 3 many, 4 lowest, 5 lanes, 6 numbers, 7 word, 8 lane -/
def ds_unpack (xc : DX) : DS := (dSeq (dAsg 3 (dCall 1 fs_lane_count [] (dCons (dVarV 1) dNil)))
  (dSeq (dIf (dB (d2 fNe (dCB fLen (dCons (dVar 0) dNil)) (d2 fDiv (d2 fSub (d2 fAdd (dVar 2) (dVar 3)) (dC (.int 1))) (dVar 3)))) (dRaise0 xc 2) dNext)
  (dSeq (dAsg 4 (d2 fSub (d2 fShl (dC (.int 1)) (dVar 1)) (dC (.int 1))))
  (dSeq (dAsg 5 (dLc2 (dIL (dVarV 0)) (gN 7) dYes (dIR1 (dCons (dVarV 3) dNil)) (gN 8) dYes (d2 fAnd (d2 fShr (dVar 7) (d2 fMul (dVar 8) (d2 fAdd (dVar 1) (dC (.int 1))))) (dVar 4)) [7, 8] [8]))
  (dSeq (dAsg 6 (dSl fSlL (dVar 5) dNo (dPart (dVar 2))))
  (dSeq (dIf (dB (d2 fNeD (dCallLX 2 fs_pack (dCons (dVar 6) (dCons (dVar 1) dNil))) (dCB fList (dCons (dVar 0) dNil)))) (dRaise0 xc 2) dNext)
  (dRet (dVarM 6))))))))
/-- slots: 0 word, 1 width, 2 bound, 3 many, 4 ones, 5 lane, 6 marks -/
def ds_lanes_below : DS := (dSeq (dAsg 3 (dCall 1 fs_lane_count [] (dCons (dVarV 1) dNil)))
  (dSeq (dAsg 4 (dC (.int 0)))
  (dSeq (dFor (dIR1 (dCons (dVarV 3) dNil)) (gN 5) (dAsg 4 (d2 fOr (dVar 4) (d2 fShl (dC (.int 1)) (d2 fMul (dVar 5) (d2 fAdd (dVar 1) (dC (.int 1))))))))
  (dSeq (dAsg 6 (d2 fSub (d2 fMul (dVar 4) (d2 fSub (d2 fAdd (dVar 2) (d2 fShl (dC (.int 1)) (dVar 1))) (dC (.int 1)))) (dVar 0)))
  (dRet (dCB fTuple (dCons (dLc (dIR1 (dCons (dVarV 3) dNil)) (gN 5) dYes (d2 fEq (d2 fAnd (d2 fShr (dVar 6) (d2 fAdd (d2 fMul (dVar 5) (d2 fAdd (dVar 1) (dC (.int 1)))) (dVar 1))) (dC (.int 1))) (dC (.int 1))) [5]) dNil)))))))
/-- slots: 0 _law_script, 1 _law_cell -/
def ds_l_digits : DS := (dRet (dLc (dIL (dSl fSlL (dVar 0) dNo (dPart (dC (.int 63))))) (gN 1) dYes (d2 fMod (dCB fAbs (dCons (dVar 1) dNil)) (d2 fPow (dC (.int 10)) (dC (.int 60)))) [1]))
/-- slots: 0 _law_pool, 1 _law_many, 2 _law_digit -/
def ds_l_draw : DS := (dSeq (dIf (dB (d2 fEqD (dVar 0) (dLst dNil))) (dRet (dC (.int 0))) dNext)
  (dSeq (dAsg 2 (d2 fMod (dCB fInt (dCons (d2 fIxL (dVar 0) (dC (.int 0))) dNil)) (dVar 1)))
  (dSeq (dSetI 0 (d2 fDivW (d2 fIxL (dVar 0) (dC (.int 0))) (dVar 1)) (dC (.int 0)))
  (dSeq (dIf (dB (d2 fEq (d2 fIxL (dVar 0) (dC (.int 0))) (dC (.int 0)))) (dDrop (dMut 0 mPopAt (dCons (dC (.int 0)) dNil))) dNext)
  (dRet (dVarM 2))))))
/-- slots: 0 _law_row, 1 _law_width, 2 _law_many, 3 _law_base, 4 _law_words_here, 5 _law_start, 6 _law_word, 7 _law_number -/
def ds_l_words : DS := (dSeq (dAsg 2 (d2 fDivW (dC (.int 60)) (d2 fAdd (dVar 1) (dC (.int 1)))))
  (dSeq (dAsg 3 (d2 fShl (dC (.int 2)) (dVar 1)))
  (dSeq (dAsg 4 (dLst dNil))
  (dSeq (dFor (dIR3 (dCons (dC (.int 0)) (dCons (dCB fLen (dCons (dVar 0) dNil)) (dCons (dVarV 2) dNil)))) (gN 5) (dSeq (dAsg 6 (dC (.int 0)))
  (dSeq (dFor (dIL (d1 fRev (dSl fSlL (dVar 0) (dPart (dVar 5)) (dPart (d2 fAdd (dVar 5) (dVar 2)))))) (gN 7) (dAsg 6 (d2 fAdd (d2 fMulW (dVar 6) (dVar 3)) (dVar 7))))
  (dDrop (dMut 4 mApp (dCons (dVarV 6) dNil))))))
  (dRet (dVarM 4))))))
/-- slots: 0 _law_word, 1 _law_width, 2 _law_base, 3 _law_lanes_here, 4 _law_k -/
def ds_l_lanes : DS := (dSeq (dAsg 2 (d2 fShl (dC (.int 2)) (dVar 1)))
  (dSeq (dAsg 3 (dLst dNil))
  (dSeq (dFor (dIR1 (dCons (d2 fDivW (dC (.int 60)) (d2 fAdd (dVar 1) (dC (.int 1)))) dNil)) (gN 4) (dSeq (dDrop (dMut 3 mApp (dCons (d2 fMod (dCB fInt (dCons (dVar 0) dNil)) (dVar 2)) dNil)))
  (dAsg 0 (d2 fDivW (dVar 0) (dVar 2)))))
  (dRet (dVarM 3)))))
/-- slots: 0 _law_words_here, 1 _law_width, 2 _law_count, 3 _law_row, 4 _law_word -/
def ds_l_packed : DS := (dSeq (dAsg 3 (dLst dNil))
  (dSeq (dFor (dIL (dVarV 0)) (gN 4) (dAsg 3 (d2 fCat (dVar 3) (dCall 2 fs_l_lanes [] (dCons (dVarV 4) (dCons (dVarV 1) dNil))))))
  (dSeq (dAsg 3 (dSl fSlL (dVar 3) dNo (dPart (dVar 2))))
  (dSeq (dIf (dOr (dB (d2 fLt (dCB fLen (dCons (dVar 3) dNil)) (dVar 2))) (dB (d2 fGe (dCB fMax (dCons (d2 fCat (dVar 3) (dLst (dCons (dC (.int 0)) dNil))) dNil)) (d2 fShl (dC (.int 1)) (dVar 1))))) (dRet (dLst dNil)) dNext)
  (dRet (dIfE (dB (d2 fEqD (dCallL 2 fs_l_words (dCons (dVar 3) (dCons (dVar 1) dNil))) (dVar 0))) (dVarV 3) (dLst dNil)))))))
/-- slots: 0 _law_told, 1 _law_due -/
def ds_l_int : DS := (dRet (dAndV (dCB fIsi (dCons (dVar 0) (dCons (dC (.ty "int")) dNil))) (dAndV (dNotV (dCB fIsi (dCons (dVar 0) (dCons (dC (.ty "bool")) dNil)))) (d2 fEq (dVar 0) (dVar 1)))))
/-- slots: 0 _law_told, 1 _law_due, 2 _law_k -/
def ds_l_ints : DS := (dSeq (dIf (dOr (dNot (dB (dCB fIsi (dCons (dVar 0) (dCons (dC (.ty "list")) dNil))))) (dB (d2 fNe (dCB fLen (dCons (dVar 0) dNil)) (dCB fLen (dCons (dVar 1) dNil))))) (dRet (dC (.bl false))) dNext)
  (dRet (dCB fAll (dCons (dLc (dIR1 (dCons (dCB fLen (dCons (dVar 1) dNil)) dNil)) (gN 2) dYes (dCall 2 fs_l_int [] (dCons (d2 fIxL (dVar 0) (dVar 2)) (dCons (d2 fIxL (dVar 1) (dVar 2)) dNil))) [2]) dNil))))
/-- slots: 0 _law_words_here, 1 _law_width, 2 _law_count, 3 _law_handed, 4 _law_due, 5 e, 6 _law_told, 7 _law_kin -/
def ds_l_read : DS := (dSeq (dAsg 3 (dCB fList (dCons (dVar 0) dNil)))
  (dSeq (dAsg 4 (dCall 3 fs_l_packed [] (dCons (dVarV 0) (dCons (dVarV 1) (dCons (dVarV 2) dNil)))))
  (dSeq (dTryAs exSub_2 5 (fun xc => (dAsg 6 (dCallX xc 3 fs_unpack [] (dCons (dVarV 3) (dCons (dVarV 1) (dCons (dVarV 2) dNil)))))) (fun a nm fs => (dSeq (dAsg 7 (dAndV (dIsE exKit 5 a nm 0) (dNotV (dIsE exKit 5 a nm 1))))
  (dRet (dAndV (dVar 7) (dAndV (d2 fEqD (dVar 3) (dVar 0)) (d2 fEqD (dVar 4) (dLst dNil))))))) (fun _ _ _ => False))
  (dSeq (dIf (dOr (dB (d2 fEqD (dVar 4) (dLst dNil))) (dOr (dNot (dB (dCallL 2 fs_l_ints (dCons (dVar 6) (dCons (dVar 4) dNil))))) (dB (d2 fNeD (dVar 3) (dVar 0))))) (dRet (dC (.bl false))) dNext)
  (dSeq (dDrop (dMut 6 mApp (dCons (dC (.int 0)) dNil)))
  (dRet (dCallL 2 fs_l_ints (dCons (dCallLX 3 fs_unpack (dCons (dVar 3) (dCons (dVar 1) (dCons (dVar 2) dNil)))) (dCons (dVar 4) dNil)))))))))
/-- slots: 0 _law_row, 1 _law_width, 2 _law_handed, 3 e, 4 _law_kin -/
def ds_l_unfit : DS := (dSeq (dAsg 2 (dCB fList (dCons (dVar 0) dNil)))
  (dSeq (dTryAs exSub_1 3 (fun xc => (dIf (dB (d2 fEq (dVar 1) (dC (.int 0)))) (dDrop (dCallX xc 1 fs_width_of [] (dCons (dVarV 2) dNil))) (dDrop (dCallX xc 2 fs_pack [] (dCons (dVarV 2) (dCons (dVarV 1) dNil)))))) (fun a nm fs => (dSeq (dAsg 4 (dAndV (dIsE exKit 3 a nm 0) (dNotV (dIsE exKit 3 a nm 2))))
  (dRet (dAndV (dVar 4) (dAndV (d2 fEq (dXf exRd 3 a nm fs "chain") (dC (.str "lanes"))) (d2 fEqD (dVar 2) (dVar 0))))))) (fun _ _ _ => False))
  (dRet (dC (.bl false)))))
/-- slots: 0 _law_pool, 1 _law_words_here, 2 _law_kind, 3 _law_at, 4 _law_turned, 5 _law_far, 6 _law_word, 7 _law_more -/
def ds_l_near : DS := (dSeq (dAsg 2 (dCall 2 fs_l_draw [] (dCons (dVar 0) (dCons (dC (.int 6)) dNil))))
  (dSeq (dAsg 3 (dCall 2 fs_l_draw [] (dCons (dVar 0) (dCons (dCB fLen (dCons (dVar 1) dNil)) dNil))))
  (dSeq (dIf (dOr (dB (d2 fEq (dVar 2) (dC (.int 0)))) (dB (d2 fEq (dVar 2) (dC (.int 1))))) (dSeq (dAsg 4 (d2 fXor (d2 fIxL (dVar 1) (dVar 3)) (d2 fShl (dC (.int 1)) (dCall 2 fs_l_draw [] (dCons (dVar 0) (dCons (dC (.int 60)) dNil))))))
  (dRet (d2 fCat (d2 fCat (dSl fSlL (dVar 1) dNo (dPart (dVar 3))) (dLst (dCons (dVarV 4) dNil))) (dSl fSlL (dVar 1) (dPart (d2 fAdd (dVar 3) (dC (.int 1)))) dNo)))) dNext)
  (dSeq (dIf (dB (d2 fEq (dVar 2) (dC (.int 5)))) (dSeq (dAsg 5 (d2 fShl (dC (.int 1)) (d2 fAdd (dC (.int 60)) (dCall 2 fs_l_draw [] (dCons (dVar 0) (dCons (dC (.int 70)) dNil))))))
  (dSeq (dAsg 6 (d2 fIxL (dVar 1) (dVar 3)))
  (dSeq (dAsg 4 (d2 fIxL (dLst (dCons (d2 fAdd (dVar 6) (dVar 5)) (dCons (d2 fSub (dVar 6) (dVar 5)) (dCons (d2 fSub (d1 fNeg (dC (.int 1))) (dVar 6)) dNil)))) (dCall 2 fs_l_draw [] (dCons (dVar 0) (dCons (dC (.int 3)) dNil)))))
  (dRet (d2 fCat (d2 fCat (dSl fSlL (dVar 1) dNo (dPart (dVar 3))) (dLst (dCons (dVarV 4) dNil))) (dSl fSlL (dVar 1) (dPart (d2 fAdd (dVar 3) (dC (.int 1)))) dNo)))))) dNext)
  (dSeq (dIf (dB (d2 fEq (dVar 2) (dC (.int 2)))) (dSeq (dAsg 7 (d2 fIxL (dLst (dCons (dC (.int 0)) (dCons (d2 fIxL (dVar 1) (dVar 3)) dNil))) (dCall 2 fs_l_draw [] (dCons (dVar 0) (dCons (dC (.int 2)) dNil)))))
  (dSeq (dAsg 3 (d2 fAdd (dVar 3) (dCall 2 fs_l_draw [] (dCons (dVar 0) (dCons (dC (.int 2)) dNil)))))
  (dRet (d2 fCat (d2 fCat (dSl fSlL (dVar 1) dNo (dPart (dVar 3))) (dLst (dCons (dVarV 7) dNil))) (dSl fSlL (dVar 1) (dPart (dVar 3)) dNo))))) dNext)
  (dSeq (dIf (dAnd (dB (d2 fEq (dVar 2) (dC (.int 3)))) (dB (d2 fGt (dCB fLen (dCons (dVar 1) dNil)) (dC (.int 1))))) (dRet (d2 fCat (dSl fSlL (dVar 1) dNo (dPart (dVar 3))) (dSl fSlL (dVar 1) (dPart (d2 fAdd (dVar 3) (dC (.int 1)))) dNo))) dNext)
  (dRet (d2 fCat (dSl fSlL (dVar 1) (dPart (dVar 3)) dNo) (dSl fSlL (dVar 1) dNo (dPart (dVar 3)))))))))))
/-- slots: 0 _law_width, 1 _law_words_here, 2 _law_count -/
def ds_l_nothing : DS := (dSeq (dIf (dNot (dB (dCallL 2 fs_l_ints (dCons (dCallLX 2 fs_pack (dCons (dLst dNil) (dCons (dVar 0) dNil))) (dCons (dLst dNil) dNil))))) (dRet (dC (.bl false))) dNext)
  (dSeq (dIf (dNot (dB (dCallL 2 fs_l_ints (dCons (dCallLX 3 fs_unpack (dCons (dLst dNil) (dCons (dVar 0) (dCons (dC (.int 0)) dNil)))) (dCons (dLst dNil) dNil))))) (dRet (dC (.bl false))) dNext)
  (dSeq (dFor (dIL (dLst (dCons (dTup (dCons (dLst (dCons (dC (.int 0)) dNil)) (dCons (dC (.int 0)) dNil))) (dCons (dTup (dCons (dLst dNil) (dCons (dC (.int 1)) dNil))) (dCons (dTup (dCons (dLst (dCons (dC (.int 0)) (dCons (dC (.int 0)) dNil))) (dCons (dC (.int 1)) dNil))) dNil))))) (gT 2 (gsCons (gN 1) (gsCons (gN 2) gsNil))) (dIf (dNot (dB (dCallL 3 fs_l_read (dCons (dVar 1) (dCons (dVar 0) (dCons (dVar 2) dNil)))))) (dRet (dC (.bl false))) dNext))
  (dRet (dC (.bl true))))))
/-- slots: 0 _law_word, 1 _law_width, 2 _law_bound, 3 _law_told, 4 _law_due, 5 _law_lane, 6 _law_one -/
def ds_l_below : DS := (dSeq (dAsg 3 (dCall 3 fs_lanes_below [] (dCons (dVarV 0) (dCons (dVarV 1) (dCons (dVarV 2) dNil)))))
  (dSeq (dAsg 4 (dLc (dIL (dCall 2 fs_l_lanes [] (dCons (dVarV 0) (dCons (dVarV 1) dNil)))) (gN 5) dYes (d2 fLt (dVar 5) (dVar 2)) [5]))
  (dSeq (dIf (dOr (dNot (dB (dCB fIsi (dCons (dVar 3) (dCons (dC (.ty "tuple")) dNil))))) (dB (d2 fNeD (dCB fList (dCons (dVar 3) dNil)) (dVar 4)))) (dRet (dC (.bl false))) dNext)
  (dRet (dCB fAll (dCons (dLc (dIT (dVarV 3)) (gN 6) dYes (dCB fIsi (dCons (dVar 6) (dCons (dC (.ty "bool")) dNil))) [6]) dNil))))))
/-- slots: 0 _law_row, 1 _law_width, 2 _law_least, 3 _law_k, 4 _law_handed -/
def ds_l_widths : DS := (dSeq (dAsg 2 (dC (.int 1)))
  (dSeq (dFor (dIR2 (dCons (dC (.int 1)) (dCons (dC (.int 30)) dNil))) (gN 3) (dIf (dB (d2 fGe (dCB fMax (dCons (dVar 0) dNil)) (d2 fShl (dC (.int 1)) (dVar 3)))) (dAsg 2 (d2 fAdd (dVar 3) (dC (.int 1)))) dNext))
  (dSeq (dAsg 4 (dCB fList (dCons (dVar 0) dNil)))
  (dSeq (dIf (dOr (dNot (dB (dCall 2 fs_l_int [] (dCons (dCallLX 1 fs_width_of (dCons (dVar 4) dNil)) (dCons (dVarV 2) dNil))))) (dB (d2 fNeD (dVar 4) (dVar 0)))) (dRet (dC (.bl false))) dNext)
  (dRet (dAndV (dCall 2 fs_l_int [] (dCons (dCallLX 1 fs_width_of (dCons (dLst dNil) dNil)) (dCons (dC (.int 1)) dNil))) (dCall 2 fs_l_int [] (dCons (dCall 1 fs_lane_count [] (dCons (dVarV 1) dNil)) (dCons (d2 fDiv (dC (.int 60)) (d2 fAdd (dVar 1) (dC (.int 1)))) dNil)))))))))
/-- slots: 0 _law_pool, 1 _law_size, 2 _law_row, 3 _law_k, 4 _law_kind -/
def ds_l_drawn : DS := (dSeq (dAsg 2 (dLst dNil))
  (dSeq (dFor (dIR1 (dCons (d2 fAdd (dC (.int 1)) (d2 fMod (dCB fInt (dCons (d2 fAdd (dCall 2 fs_l_draw [] (dCons (dVar 0) (dCons (dC (.int 40)) dNil))) (dC (.int 4))) dNil)) (dC (.int 40)))) dNil)) (gN 3) (dSeq (dAsg 4 (dCall 2 fs_l_draw [] (dCons (dVar 0) (dCons (dC (.int 4)) dNil))))
  (dIf (dB (d2 fEq (dVar 4) (dC (.int 2)))) (dDrop (dMut 2 mApp (dCons (d2 fSub (dVar 1) (dC (.int 1))) dNil))) (dIf (dB (d2 fEq (dVar 4) (dC (.int 3)))) (dDrop (dMut 2 mApp (dCons (dC (.int 0)) dNil))) (dDrop (dMut 2 mApp (dCons (d2 fMod (dCB fInt (dCons (d2 fAdd (dCall 2 fs_l_draw [] (dCons (dVar 0) (dCons (dVarV 1) dNil))) (dVar 3)) dNil)) (dVar 1)) dNil)))))))
  (dRet (dVarM 2))))
/-- slots: 0 _law_pool, 1 _law_words_here, 2 _law_row, 3 _law_width, 4 _law_size, 5 _law_one, 6 _law_bounds_here, 7 _law_bound, 8 _law_word, 9 _law_k -/
def ds_l_bounds : DS := (dSeq (dAsg 4 (d2 fShl (dC (.int 1)) (dVar 3)))
  (dSeq (dAsg 5 (d2 fIxL (dVar 2) (dCall 2 fs_l_draw [] (dCons (dVar 0) (dCons (dCB fLen (dCons (dVar 2) dNil)) dNil)))))
  (dSeq (dAsg 6 (dLst (dCons (dC (.int 0)) (dCons (dVarV 4) (dCons (dVarV 5) (dCons (d2 fAdd (dVar 5) (dC (.int 1))) (dCons (dCall 2 fs_l_draw [] (dCons (dVar 0) (dCons (dVarV 4) dNil))) dNil)))))))
  (dSeq (dIf (dB (d2 fLt (dVar 3) (dC (.int 4)))) (dAsg 6 (dLc (dIR1 (dCons (d2 fAdd (dVar 4) (dC (.int 1))) dNil)) (gN 9) dYes (dVarV 9) [9])) dNext)
  (dSeq (dFor (dIL (dVarV 6)) (gN 7) (dFor (dIL (dVarV 1)) (gN 8) (dIf (dNot (dB (dCall 3 fs_l_below [] (dCons (dVarV 8) (dCons (dVarV 3) (dCons (dVarV 7) dNil)))))) (dRet (dC (.bl false))) dNext)))
  (dRet (dC (.bl true))))))))
/-- slots: 0 _law_script, 1 _law_pool, 2 _law_width, 3 _law_size, 4 _law_row, 5 _law_at, 6 _law_over, 7 _law_low, 8 _law_bad, 9 _law_far, 10 _law_handed, 11 _law_words_here, 12 _law_told, 13 _law_other, 14 _law_count, 15 _law_some -/
def ds_law : DS := (dSeq (dAsg 1 (dCall 1 fs_l_digits [] (dCons (dVarV 0) dNil)))
  (dSeq (dAsg 2 (d2 fAdd (dC (.int 1)) (d2 fMod (dCB fInt (dCons (d2 fAdd (dCall 2 fs_l_draw [] (dCons (dVar 1) (dCons (dC (.int 29)) dNil))) (dC (.int 2))) dNil)) (dC (.int 29)))))
  (dSeq (dAsg 3 (d2 fShl (dC (.int 1)) (dVar 2)))
  (dSeq (dAsg 4 (dCall 2 fs_l_drawn [] (dCons (dVar 1) (dCons (dVarV 3) dNil))))
  (dSeq (dAsg 5 (dCall 2 fs_l_draw [] (dCons (dVar 1) (dCons (d2 fAdd (dCB fLen (dCons (dVar 4) dNil)) (dC (.int 1))) dNil))))
  (dSeq (dAsg 6 (d2 fIxL (dLst (dCons (dC (.int 0)) (dCons (dCall 2 fs_l_draw [] (dCons (dVar 1) (dCons (dVarV 3) dNil))) dNil))) (dCall 2 fs_l_draw [] (dCons (dVar 1) (dCons (dC (.int 2)) dNil)))))
  (dSeq (dAsg 7 (d2 fEq (dCall 2 fs_l_draw [] (dCons (dVar 1) (dCons (dC (.int 2)) dNil))) (dC (.int 1))))
  (dSeq (dAsg 8 (d2 fCat (d2 fCat (dSl fSlL (dVar 4) dNo (dPart (dVar 5))) (dLst (dCons (dIfE (dB (dVar 7)) (d2 fSub (d1 fNeg (dC (.int 1))) (dVar 6)) (d2 fAdd (dVar 3) (dVar 6))) dNil))) (dSl fSlL (dVar 4) (dPart (dVar 5)) dNo)))
  (dSeq (dAsg 9 (d2 fCat (d2 fCat (dSl fSlL (dVar 4) dNo (dPart (dVar 5))) (dLst (dCons (dIfE (dB (dVar 7)) (d2 fSub (d1 fNeg (dC (.int 1))) (dVar 6)) (d2 fAdd (dC (.int 536870912)) (dVar 6))) dNil))) (dSl fSlL (dVar 4) (dPart (dVar 5)) dNo)))
  (dSeq (dIf (dOr (dNot (dB (dCallL 2 fs_l_unfit (dCons (dVar 8) (dCons (dVar 2) dNil))))) (dNot (dB (dCallL 2 fs_l_unfit (dCons (dVar 9) (dCons (dC (.int 0)) dNil)))))) (dRet (dC (.bl false))) dNext)
  (dSeq (dAsg 10 (dCB fList (dCons (dVar 4) dNil)))
  (dSeq (dAsg 11 (dCallL 2 fs_l_words (dCons (dVar 4) (dCons (dVar 2) dNil))))
  (dSeq (dAsg 12 (dCallLX 2 fs_pack (dCons (dVar 10) (dCons (dVar 2) dNil))))
  (dSeq (dIf (dOr (dNot (dB (dCallL 2 fs_l_ints (dCons (dVar 12) (dCons (dVar 11) dNil))))) (dB (d2 fNeD (dVar 10) (dVar 4)))) (dRet (dC (.bl false))) dNext)
  (dSeq (dDrop (dMut 12 mApp (dCons (dC (.int 0)) dNil)))
  (dSeq (dIf (dOr (dNot (dB (dCallL 2 fs_l_ints (dCons (dCallLX 2 fs_pack (dCons (dVar 10) (dCons (dVar 2) dNil))) (dCons (dVar 11) dNil))))) (dNot (dB (dCallL 2 fs_l_widths (dCons (dVar 4) (dCons (dVar 2) dNil)))))) (dRet (dC (.bl false))) dNext)
  (dSeq (dAsg 13 (dCall 2 fs_l_near [] (dCons (dVar 1) (dCons (dVarV 11) dNil))))
  (dSeq (dFor (dIL (dLst (dCons (dCB fLen (dCons (dVar 4) dNil)) (dCons (d2 fAdd (dC (.int 1)) (dCall 2 fs_l_draw [] (dCons (dVar 1) (dCons (d2 fAdd (dCB fLen (dCons (dVar 4) dNil)) (dC (.int 2))) dNil)))) dNil)))) (gN 14) (dFor (dIL (dLst (dCons (dVarV 11) (dCons (dVarV 13) dNil)))) (gN 15) (dIf (dNot (dB (dCallL 3 fs_l_read (dCons (dVar 15) (dCons (dVar 2) (dCons (dVar 14) dNil)))))) (dRet (dC (.bl false))) dNext)))
  (dSeq (dIf (dOr (dNot (dB (dCall 4 fs_l_bounds [] (dCons (dVar 1) (dCons (dVarV 11) (dCons (dVarV 4) (dCons (dVarV 2) dNil))))))) (dNot (dB (dCall 1 fs_l_nothing [] (dCons (dVarV 2) dNil))))) (dRet (dC (.bl false))) dNext)
  (dRet (dAndV (dCallL 2 fs_l_unfit (dCons (dVar 8) (dCons (dVar 2) dNil))) (dCallL 2 fs_l_unfit (dCons (dVar 9) (dCons (dC (.int 0)) dNil))))))))))))))))))))))))
local macro_rules | `(tactic| walk_at "dd") => `(tactic| simp only [dSeq, dNext, dDrop, dRet, dRetN, dBreak, dCont, dIf, dAsg, gN, gsNil, gsCons, gT, dAsgG, dAug, dMut, isL, mApp, mPopAt, mPop, dSetI, RS.kept, dC, dVar, dVarV, dVarM, look, put, d2, d1, RS.ok, RS.data, OC.data, dNil, dCons, RS.fz, RS.now, dCB, dCall, dCallB, dCallZ, noNew, flatR, flatD, ownIx, argsOf, upds, putC,
  fI0, fI, fU, fEq, fNe, fIsN, fNotN, fAddS, fLtS, fCat, fRep, fIxL, fIxT, fIxS, fLen, fLenS, fInt, fAbs, fI2, fSum, fMin, fMax, fAll, fAny, fList, fTuple, fIsi, fEqD, fNeD, dNo, dPart, dSl, fSlL, fRev, allV, dLst, dTup, dB, dAnd, dOr, dNot, dAndV, dOrV, dNotV, dIfE, dTru, dChain, dIL, dIT, dIR1, dIR2, dIR3, dIZ, dIE, dIV, dYes, dLRg1, dLRg2, dFr, dSt, meltR, fIxQ, dBits, dRd, mIndex, mIns, mClear, mRev, mExt, dCallX, dCallL, dCallLX, lendR, dTryAs_eq, dIsE, dXf, dRaise1, dRaise2, flatAll,
  fAdd, fSub, fMul, fDiv, fMod, fMulW, fDivW, fPow, fLt, fLe, fGt, fGe, fNeg, fMin2, fMax2, startG, endsOf_nx, xcOf, endsOf_rt, endsOf_bk, OutP, wipeG, restore, keepV,
  List.map_cons, List.map_nil, List.length_cons, List.length_nil, List.cons_append, List.nil_append, List.append_nil, List.replicate, true_and, and_true, decide_eq_true_eq, decide_eq_false_iff_not, Bool.not_eq_true', Bool.not_eq_false', forall_const, false_implies, true_implies, List.nodup_cons, List.not_mem_nil, not_false_eq_true, List.nodup_nil, Nat.add_zero, Nat.zero_add, Nat.reduceAdd, Nat.reduceSub, Nat.reduceLeDiff, Nat.reduceMul,
  kb_ii, kb_ib, kb_il, kb_it, kb_is, kb_bi, kb_bb, kb_li, kb_ll, kb_lt, kb_ti, kb_tt, kb_tl, kb_si, kb_sb, kb_ss, kb_ni, kb_nl, kb_nt, Option.some.injEq, exists_eq_left', exists_eq_left, Bool.true_eq_false, Bool.false_eq_true, reduceCtorEq, implies_true, Sx.own.injEq, own_ex, exists_eq', dOk_ints, dOk_nil, deq_ints, deq_ints_nil,  List.length_map, List.length_reverse, Sx.val.injEq, D.int.injEq, D.bl.injEq, D.str.injEq, atI_zero, ixN_s0, seqIx_s0, List.set_cons_zero, List.eraseIdx_cons_zero, List.getElem?_cons_zero, rg_snoc, dLc_eq, dLc2_eq, dRaise0, fShl, fShr, fOr, fAnd, fXor, dFor_eq, dWhile_eq, not_true_eq_false, decide_true, decide_false, fFld, dSetF, dAugF, dMake, dMakeL, dCallN, lentL, lendN, D.nol, nolAll, nolF, nol_ints, nol_strs, dFz, dMeth, dMethX, putD_nil, putD_cons, seqD, dStar, fCatT, fSlT, List.lookup, allV_app, allV_vals, data_app, data_vals, ofS_inj, ofS_beq, String.reduceEq, String.reduceBEq, ↓reduceIte, deq_int, deq_str, deq_tcons, deq_tnil, deq_tints, dOk_tints, decide_not, deq_lnil, deq_lcn, deq_lnc, puts, Bool.not_not, decide_eq_decide, exKit, exRd, Int.toNat_natCast, Int.one_mul, Bool.or_true, Bool.true_or, Bool.and_self, Bool.and_true, Bool.true_and, Bool.or_false, Bool.false_or])
local macro_rules | `(tactic| walk_at "ds") => `(tactic| (refine q_seq ?_; walk_at "dd"))
local macro_rules | `(tactic| walk_at "dn") => `(tactic| (with_reducible refine q_later (q_seq ?_); walk_at "dd"))
local macro_rules | `(tactic| walk_at "de") => `(tactic| (with_reducible refine q_later ?_; walk_at "dd"))
local macro_rules | `(tactic| walk_at "an") => `(tactic| ((with_reducible refine And.intro ?ga ?_); (case ga => (first | exact True.intro | decide | omega | assumption | exact flat_ints _ | exact dOk_ints _ | exact dOk_tints _))))
local macro_rules | `(tactic| walk_at "go") => `(tactic| repeat (first | walk_at "an" | walk_at "dn" | walk_at "de"))
local macro_rules | `(tactic| walk_at "gg") => `(tactic| ((try walk_at "dd"); walk_at "go"))
local macro_rules | `(tactic| walk_at "xd") => `(tactic| simp only [dNext, dDrop, dRet, dRetN, dBreak, dCont, dIf, dAsg, gN, gsNil, gsCons, gT, dAsgG, dAug, dMut, isL, mApp, mPopAt, mPop, dSetI, RS.kept, dC, dVar, dVarV, dVarM, look, put, d2, d1, RS.ok, RS.data, OC.data, dNil, dCons, RS.fz, RS.now, dCB, dCall, dCallB, dCallZ, noNew, flatR, flatD, ownIx, argsOf, upds, putC,
  fI0, fI, fU, fEq, fNe, fIsN, fNotN, fAddS, fLtS, fCat, fRep, fIxL, fIxT, fIxS, fLen, fLenS, fInt, fAbs, fI2, fSum, fMin, fMax, fAll, fAny, fList, fTuple, fIsi, fEqD, fNeD, dNo, dPart, dSl, fSlL, fRev, allV, dLst, dTup, dB, dAnd, dOr, dNot, dAndV, dOrV, dNotV, dIfE, dTru, dChain, dIL, dIT, dIR1, dIR2, dIR3, dIZ, dIE, dIV, dYes, dLRg1, dLRg2, dFr, dSt, meltR, fIxQ, dBits, dRd, mIndex, mIns, mClear, mRev, mExt, dCallX, dCallL, dCallLX, lendR, dTryAs_eq, dIsE, dXf, dRaise1, dRaise2, flatAll,
  fAdd, fSub, fMul, fDiv, fMod, fMulW, fDivW, fPow, fLt, fLe, fGt, fGe, fNeg, fMin2, fMax2, startG, endsOf_nx, xcOf, endsOf_rt, endsOf_bk, OutP, wipeG, restore, keepV,
  List.map_cons, List.map_nil, List.length_cons, List.length_nil, List.cons_append, List.nil_append, List.append_nil, List.replicate, true_and, and_true, decide_eq_true_eq, decide_eq_false_iff_not, Bool.not_eq_true', Bool.not_eq_false', forall_const, false_implies, true_implies, List.nodup_cons, List.not_mem_nil, not_false_eq_true, List.nodup_nil, Nat.add_zero, Nat.zero_add, Nat.reduceAdd, Nat.reduceSub, Nat.reduceLeDiff, Nat.reduceMul,
  kb_ii, kb_ib, kb_il, kb_it, kb_is, kb_bi, kb_bb, kb_li, kb_ll, kb_lt, kb_ti, kb_tt, kb_tl, kb_si, kb_sb, kb_ss, kb_ni, kb_nl, kb_nt, Option.some.injEq, exists_eq_left', exists_eq_left, Bool.true_eq_false, Bool.false_eq_true, reduceCtorEq, implies_true, Sx.own.injEq, own_ex, exists_eq', dOk_ints, dOk_nil, deq_ints, deq_ints_nil,  List.length_map, List.length_reverse, Sx.val.injEq, D.int.injEq, D.bl.injEq, D.str.injEq, atI_zero, ixN_s0, seqIx_s0, List.set_cons_zero, List.eraseIdx_cons_zero, List.getElem?_cons_zero, rg_snoc, dLc_eq, dLc2_eq, dRaise0, fShl, fShr, fOr, fAnd, fXor, dFor_eq, dWhile_eq, not_true_eq_false, decide_true, decide_false, fFld, dSetF, dAugF, dMake, dMakeL, dCallN, lentL, lendN, D.nol, nolAll, nolF, nol_ints, nol_strs, dFz, dMeth, dMethX, putD_nil, putD_cons, seqD, dStar, fCatT, fSlT, List.lookup, allV_app, allV_vals, data_app, data_vals, ofS_inj, ofS_beq, String.reduceEq, String.reduceBEq, ↓reduceIte, deq_int, deq_str, deq_tcons, deq_tnil, deq_tints, dOk_tints, decide_not, deq_lnil, deq_lcn, deq_lnc, puts, Bool.not_not, decide_eq_decide, exKit, exRd, Int.toNat_natCast, Int.one_mul, Bool.or_true, Bool.true_or, Bool.and_self, Bool.and_true, Bool.true_and, Bool.or_false, Bool.false_or])
local macro_rules | `(tactic| walk_at "xs") => `(tactic| (with_reducible refine q_seq ?_; walk_at "xd"))
local macro_rules | `(tactic| walk_at "xn") => `(tactic| (with_reducible refine q_later (q_seq ?_); walk_at "xd"))
local macro_rules | `(tactic| walk_at "xe") => `(tactic| (with_reducible refine q_later ?_; walk_at "xd"))
local macro_rules | `(tactic| walk_at "xg") => `(tactic| repeat (first | walk_at "an" | walk_at "xn" | walk_at "xe" | walk_at "xs"))
local macro_rules | `(tactic| walk_at "x") => `(tactic| ((try walk_at "xd"); walk_at "xg"))

theorem mny_bd {w : Nat} (h : Wd w) : 2 ≤ mny w ∧ mny w ≤ 30 := by
  obtain ⟨h1, h2⟩ := h
  unfold mny
  have := Nat.div_add_mod 60 (w + 1)
  have := Nat.mod_lt 60 (show 0 < w + 1 by omega)
  constructor
  · exact (Nat.le_div_iff_mul_le (by omega)).mpr (by omega)
  · exact Nat.le_trans (Nat.div_le_div_left (show 2 ≤ w + 1 by omega) (by decide)) (by decide)
theorem mny_int {w : Nat} : (60 : Int) / ((w : Int) + 1) = ((mny w : Nat) : Int) := by
  unfold mny
  simp
theorem pw_le {w : Nat} (h : Wd w) : (2 : Int) ^ w ≤ 536870912 := by
  have : (2 : Nat) ^ w ≤ 536870912 := Nat.le_trans (Nat.pow_le_pow_right (by decide) h.2) (by decide)
  have e : (2 : Int) ^ w = ((2 ^ w : Nat) : Int) := by simp
  omega
theorem pure_lane_count (as : List Sx) (p : RS → List Sx → Prop) (hl : as.length = 1) (h : fs_lane_count as p) : ds_lane_count (endsOf as p) (startG 1 as) := by
  obtain ⟨w, rfl, hw, k⟩ := h
  have := hw.2
  unfold ds_lane_count
  walk_at "dd"
  refine ⟨⟨by omega, by omega⟩, ?_⟩
  rw [mny_int]
  exact k
theorem pure_l_digits (as : List Sx) (p : RS → List Sx → Prop) (hl : as.length = 1) (h : fs_l_digits as p) : ds_l_digits (endsOf as p) (startG 2 as) := by
  obtain ⟨ns, rfl, hn, k⟩ := h
  unfold ds_l_digits
  walk_at "dd"
  have hc : cut ns none (some 63) = ns := by
    rw [cut_to (by decide)]
    exact List.take_of_length_le hn
  rw [hc]
  refine lc_ok (by omega) (fun i acc γ => (∃ ms, acc = intsD ms ∧ Pool ms) ∧ γ = [.val (.scr ns), .no]) ⟨⟨[], rfl, fun x h => by cases h⟩, rfl⟩ ?_ ?_
  · rintro i _ _ hi ⟨⟨ms, rfl, hp⟩, rfl⟩ _ hx
    rw [List.getElem?_map, List.getElem?_eq_getElem hi] at hx
    cases hx
    walk_at "dd"
    refine ⟨⟨by decide, by decide, by decide⟩, by decide, ms ++ [_], (map_snoc (f := D.int)), fun x h => ?_⟩
    rcases List.mem_append.mp h with h | h
    · exact hp x h
    · simp only [List.mem_singleton] at h
      rw [h]
      exact Int.emod_nonneg _ (by decide)
  · rintro _ _ ⟨⟨ms, rfl, hp⟩, rfl⟩
    walk_at "dd"
    exact k ms hp
theorem pure_l_draw (as : List Sx) (p : RS → List Sx → Prop) (hl : as.length = 2) (h : fs_l_draw as p) : ds_l_draw (endsOf as p) (startG 3 as) := by
  obtain ⟨ms, m, rfl, hp, h0, h1, k⟩ := h
  unfold ds_l_draw
  cases ms with
  | nil =>
    walk_at "ds"
    exact k 0 [] (by decide) h0 hp
  | cons x xs =>
    have x0 := hp x List.mem_cons_self
    have hx : Pool xs := fun y hy => hp y (List.mem_cons_of_mem _ hy)
    walk_at "ds"
    walk_at "go"
    refine ⟨divW h0 h1, ?_⟩
    walk_at "go"
    have d0 := Int.emod_nonneg x (show m ≠ 0 by omega)
    have d1 := Int.emod_lt_of_pos x h0
    have q0 : 0 ≤ x / m := Int.ediv_nonneg x0 (by omega)
    refine ⟨fun z => ?_, fun z => ?_⟩
    · walk_at "go"
      refine ⟨_, _, rfl, rfl, ?_⟩
      walk_at "go"
      exact k _ xs d0 d1 hx
    · walk_at "go"
      exact k _ (x / m :: xs) d0 d1 fun y hy => by
        rcases List.mem_cons.mp hy with rfl | hy
        · exact q0
        · exact hx y hy
theorem pw_pos {w : Nat} : (0 : Int) < 2 ^ w := pow2_pos w
theorem bs_gt {w : Nat} : (1 : Int) < 2 ^ (w + 1) := by
  rw [pow2_s]
  have := pow2_pos w
  omega
theorem pure_l_int (as : List Sx) (p : RS → List Sx → Prop) (hl : as.length = 2) (h : fs_l_int as p) : ds_l_int (endsOf as p) (startG 2 as) := by
  obtain ⟨a, b, rfl, k⟩ := h
  unfold ds_l_int
  walk_at "dd"
  exact k
theorem ints_at {row : List Int} {i : Nat} (h : i < row.length) : atI (intsD row) (i : Int) = some (.int row[i]) := atI_map (atI_ofNat h)
theorem rep_bl {n : Nat} : List.replicate n (D.bl true) = (List.replicate n true).map D.bl := by simp
theorem rep_snoc {α : Type} {n : Nat} {x : α} : List.replicate n x ++ [x] = List.replicate (n + 1) x := by
  rw [List.replicate_succ']
theorem all_rep {n : Nat} : (List.replicate n true).all (fun b => b) = true := by simp
theorem pure_l_ints (as : List Sx) (p : RS → List Sx → Prop) (hl : as.length = 2) (h : fs_l_ints as p) : ds_l_ints (endsOf as p) (startG 3 as) := by
  obtain ⟨row, rfl, hn, k⟩ := h
  unfold ds_l_ints
  walk_at "ds"
  walk_at "go"
  refine lc_a (by omega) (fun i => List.replicate i (.bl true)) rfl ?_ ?_
  · rintro i _ hi rfl
    walk_at "dd"
    refine ⟨_, ints_at hi, _, ints_at hi, _, _, rfl, ?_⟩
    walk_at "dd"
    exact rep_snoc
  · walk_at "dd"
    refine ⟨_, rep_bl, ?_⟩
    have := all_rep (n := row.length)
    rw [show (List.replicate row.length true).all id = true from by simp]
    exact k
theorem cpow {j : Nat} {i : Int} (h : j ≤ 1000000) (h1 : i.natAbs < 2 ^ 64) : CPow i (j : Int) := ⟨by omega, by omega, h1⟩
theorem bs_log {w : Nat} (h : w ≤ 29) : ((2 : Int) ^ (w + 1)).natAbs.log2 < 9000 := by
  rw [Int.natAbs_pow]
  show ((2 : Nat) ^ (w + 1)).log2 < 9000
  rw [Nat.log2_two_pow]
  omega
theorem digs_snoc {b x : Int} {i : Nat} : digs b x i ++ [x / b ^ i % b] = digs b x (i + 1) := by
  unfold digs dig
  rw [List.range_succ, List.map_append]
  rfl
theorem pure_l_lanes (as : List Sx) (p : RS → List Sx → Prop) (hl : as.length = 2) (h : fs_l_lanes as p) : ds_l_lanes (endsOf as p) (startG 5 as) := by
  obtain ⟨x, w, rfl, hw, k⟩ := h
  have hw2 := hw.2
  have eb : (2 : Int) * 2 ^ w = 2 ^ (w + 1) := by rw [pow2_s]
  have hb := bs_gt (w := w)
  unfold ds_l_lanes
  walk_at "ds"
  refine ⟨cpow (by omega) (by decide), ?_⟩
  rw [eb]
  walk_at "go"
  rw [mny_int]
  have hm := mny_bd hw
  refine ⟨divW (by omega) (by omega), by omega, by omega, for_up (fun v : Nat × Sx => [(0, .val (.int (x / (2 ^ (w + 1)) ^ v.1))), (3, .own none (.lst (intsD (digs (2 ^ (w + 1)) x v.1)))), (4, v.2)]) (fun i v => v.1 = i) (0, .no) (by simp [puts, put, digs]) rfl ?_ ?_⟩
  · rintro i ⟨i', t⟩ hi e _ rfl
    obtain rfl : i' = i := e
    walk_at "ds"
    walk_at "go"
    refine ⟨by rw [digs_len]; simp at hi; omega, ?_⟩
    walk_at "go"
    refine ⟨⟨by omega, bs_log hw.2⟩, (i' + 1, .val (.int i')), ?_, rfl⟩
    rw [map_snoc, digs_snoc, Int.ediv_ediv_of_nonneg (by exact Int.le_of_lt (pow2_pos _ |> fun h => Int.pow_pos h)), Int.pow_succ]
  · rintro ⟨_, t⟩ rfl
    walk_at "gg"
    exact k

theorem chunk_mem {m i : Nat} {row : List Int} {x : Int} (h : x ∈ chunk m row i) : x ∈ row := List.mem_of_mem_drop (List.mem_of_mem_take h)
theorem val_bd {w : Nat} {ds : List Int} (hf : Fits w ds) (hl : ds.length ≤ mny w) (hw : Wd w) : 0 ≤ val (2 ^ (w + 1)) ds ∧ val (2 ^ (w + 1)) ds < 2 ^ 60 := by
  have hb := bs_gt (w := w)
  refine ⟨val_nn (by omega) fun d hd => (hf d hd).1, ?_⟩
  have h1 := val_lt (b := 2 ^ (w + 1)) (by omega) (ds := ds) fun d hd => by
    have := (hf d hd).2
    have := pow2_pos w
    rw [pow2_s]; omega
  refine Int.lt_of_lt_of_le h1 ?_
  rw [← Int.pow_mul]
  have e : (w + 1) * ds.length ≤ 60 := Nat.le_trans (Nat.mul_le_mul_left _ hl) (by unfold mny; exact Nat.mul_div_le 60 (w + 1))
  have : (2 : Nat) ^ ((w + 1) * ds.length) ≤ 2 ^ 60 := Nat.pow_le_pow_right (by decide) e
  have c : ∀ k : Nat, (2 : Int) ^ k = ((2 ^ k : Nat) : Int) := fun k => by simp
  rw [c, c]
  exact Int.ofNat_le.mpr this
theorem mulW_bd {a : Int} {w : Nat} (h0 : 0 ≤ a) (h1 : a < 2 ^ 60) (hw : w ≤ 29) : CMulW a (2 ^ (w + 1)) := by
  unfold CMulW
  have h2 : a.natAbs.log2 ≤ 60 := by
    by_cases z : a.natAbs = 0
    · rw [z]; decide
    · have := (Nat.log2_lt (k := 60) z).mpr (by have : (2 : Int) ^ 60 = ((2 ^ 60 : Nat) : Int) := by simp
                                                omega)
      omega
  have := bs_log hw
  omega
theorem wds_snoc {w : Nat} {row : List Int} {i : Nat} : (List.range i).map (fun i => D.int (val (2 ^ (w + 1)) (chunk (mny w) row i))) ++ [.int (val (2 ^ (w + 1)) (chunk (mny w) row i))] = (List.range (i + 1)).map fun i => D.int (val (2 ^ (w + 1)) (chunk (mny w) row i)) := by
  rw [List.range_succ, List.map_append]
  rfl
theorem wds_D {w : Nat} {row : List Int} : intsD (wds w row) = (List.range (cnt (mny w) row.length)).map fun i => D.int (val (2 ^ (w + 1)) (chunk (mny w) row i)) := by
  unfold wds wordsB
  exact List.map_map
theorem chunk_fits {w m i : Nat} {row : List Int} (hf : Fits w row) : Fits w (chunk m row i) := fun x hx => hf x (chunk_mem hx)
theorem chunk_len {m i : Nat} {row : List Int} : (chunk m row i).length ≤ m := by
  rw [List.length_take]
  exact Nat.min_le_left _ _
theorem cut_chunk {m i : Nat} {row : List Int} : cut row (some (0 + (i : Int) * (m : Int))) (some (0 + (i : Int) * (m : Int) + (m : Int))) = chunk m row i := by
  rw [show 0 + (i : Int) * (m : Int) = ((i * m : Nat) : Int) by simp, show ((i * m : Nat) : Int) + (m : Int) = ((i * m + m : Nat) : Int) by simp, cut_mid (by omega), show i * m + m - i * m = m by omega]
theorem pure_l_words (as : List Sx) (p : RS → List Sx → Prop) (hl : as.length = 2) (h : fs_l_words as p) : ds_l_words (endsOf as p) (startG 8 as) := by
  obtain ⟨row, w, rfl, hw, hn, hf, k⟩ := h
  have := hw.2
  have eb : (2 : Int) * 2 ^ w = 2 ^ (w + 1) := by rw [pow2_s]
  have hb := bs_gt (w := w)
  have hm := mny_bd hw
  unfold ds_l_words
  walk_at "ds"
  refine ⟨divW (by omega) (by omega), ?_⟩
  rw [mny_int]
  walk_at "go"
  refine ⟨cpow (by omega) (by decide), ?_⟩
  rw [eb]
  walk_at "go"
  refine ⟨_, rg_up (by omega) (by omega) (by omega), for_up (fun v : Nat × Sx × Sx × Sx => [(4, .own none (.lst ((List.range v.1).map fun i => D.int (val (2 ^ (w + 1)) (chunk (mny w) row i))))), (5, v.2.1), (6, v.2.2.1), (7, v.2.2.2)]) (fun i v => v.1 = i) (0, .no, .no, .no) (by simp [puts, put]) rfl ?_ ?_⟩
  · rintro i ⟨i', t1, t2, t3⟩ hi e _ rfl
    obtain rfl : i' = i := e
    walk_at "ds"
    walk_at "go"
    rw [cut_map, cut_chunk, ← List.map_reverse]
    have hcf := chunk_fits (m := mny w) (i := i') hf
    have hcl := chunk_len (m := mny w) (i := i') (row := row)
    have hi2 : i' < 2000 := by
      have := Nat.div_le_self (row.length + mny w - 1) (mny w)
      omega
    generalize hch : chunk (mny w) row i' = ch at hcf hcl
    refine for_up (fun v : Nat × Sx => [(6, .val (.int (val (2 ^ (w + 1)) (ch.drop (ch.length - v.1))))), (7, v.2)]) (fun j v => v.1 = j) (0, _) (by simp [puts, put, val]; rfl) rfl ?_ ?_
    · rintro j ⟨j', u⟩ hj e _ hx
      obtain rfl : j' = j := e
      obtain ⟨a, ha, rfl⟩ := mapD_get hx
      have hj : j' < ch.length := by simpa using hj
      rw [rev_get hj] at ha
      have hd : Fits w (ch.drop (ch.length - j')) := fun x hx => hcf x (List.mem_of_mem_drop hx)
      obtain ⟨v0, v1⟩ := val_bd hd (by rw [List.length_drop]; omega) hw
      walk_at "dd"
      refine ⟨mulW_bd v0 v1 hw.2, (j' + 1, .val (.int a)), ?_, rfl⟩
      have e1 : ch.drop (ch.length - (j' + 1)) = a :: ch.drop (ch.length - j') := by
        have hl1 : ch.length - 1 - j' < ch.length := by omega
        rw [show ch.length - (j' + 1) = ch.length - 1 - j' by omega, List.drop_eq_getElem_cons hl1]
        rw [List.getElem?_eq_getElem hl1] at ha
        rw [Option.some.inj ha, show ch.length - 1 - j' + 1 = ch.length - j' by omega]
      have ev : val (2 ^ (w + 1)) (ch.drop (ch.length - (j' + 1))) = val (2 ^ (w + 1)) (ch.drop (ch.length - j')) * 2 ^ (w + 1) + a := by
        rw [e1]
        simp only [val]
        rw [Int.mul_comm, Int.add_comm]
      rw [ev]
    · rintro ⟨j', u⟩ e
      obtain rfl : j' = ch.length := by simpa using e
      walk_at "gg"
      refine ⟨by simp; omega, ?_⟩
      walk_at "gg"
      rw [Nat.sub_self, List.drop_zero, ← hch, wds_snoc]
      exact ⟨(i' + 1, _, _, _), rfl, rfl⟩
  · rintro ⟨i', t1, t2, t3⟩ e
    obtain rfl : i' = _ := e
    walk_at "gg"
    rw [wds_D] at k
    exact k

theorem shl_nat {j w : Nat} : ((j : Int) * ((w : Int) + 1)).toNat = (w + 1) * j := by
  rw [show (j : Int) * ((w : Int) + 1) = (((w + 1) * j : Nat) : Int) by push_cast; rw [Int.mul_comm], Int.toNat_natCast]
theorem fits_b {w : Nat} {ds : List Int} (h : Fits w ds) : ∀ d ∈ ds, 0 ≤ d ∧ d < 2 ^ (w + 1) := fun d hd => by
  have := h d hd
  have := pow2_pos w
  rw [pow2_s]; omega
theorem or_step {w j : Nat} {ch : List Int} {a : Int} (hf : Fits w ch) (h : ch[j]? = some a) : Builtin.bitOr (val (2 ^ (w + 1)) (ch.take j)) (a * 2 ^ ((j : Int) * ((w : Int) + 1)).toNat) = val (2 ^ (w + 1)) (ch.take (j + 1)) := by
  have hb := bs_gt (w := w)
  obtain ⟨hj, _⟩ := List.getElem?_eq_some_iff.mp h
  have hl : (ch.take j).length = j := by rw [List.length_take]; omega
  have hd : Fits w (ch.take j) := fun x hx => hf x (List.mem_of_mem_take hx)
  have v1 := val_lt (b := 2 ^ (w + 1)) (by omega) (ds := ch.take j) fun d hd' => (fits_b hd d hd').2
  rw [hl, ← Int.pow_mul] at v1
  rw [shl_nat, Bits.bitOr_join (val_nn (by omega) fun d hd' => (hd d hd').1) v1 (hf a (List.mem_of_getElem? h)).1, List.take_add_one, h]
  show _ = val _ (ch.take j ++ [a])
  rw [val_app, hl, Int.pow_mul]
  simp only [val, Int.mul_zero, Int.add_zero]
  rw [Int.mul_comm a]
theorem small_mul {j w : Nat} (h : j ≤ 30) (h2 : w ≤ 29) : (w + 1) * j ≤ 1000000 := Nat.le_trans (Nat.mul_le_mul (show w + 1 ≤ 30 by omega) h) (by decide)
theorem shl_int {j w : Nat} : (j : Int) * ((w : Int) + 1) = (((w + 1) * j : Nat) : Int) := by push_cast; rw [Int.mul_comm]
theorem bits_w {a : Int} (h : 0 ≤ a) (h1 : a ≤ 536870911) : a < 2 ^ Builtin.Int.intBits a ∧ (Builtin.Int.intBits a = 0 ∨ 2 ^ (Builtin.Int.intBits a - 1) ≤ a) := by
  unfold Builtin.Int.intBits
  have c : ∀ k : Nat, (2 : Int) ^ k = ((2 ^ k : Nat) : Int) := fun k => by simp
  by_cases z : a = 0
  · subst z; simp
  · have e : (a == 0) = false := by simpa using z
    have n0 : a.natAbs ≠ 0 := by omega
    have u1 := Nat.lt_log2_self (n := a.natAbs)
    have u2 := Nat.log2_self_le n0
    have eb : Builtin.Int.intBits a = a.natAbs.log2 + 1 := by
      unfold Builtin.Int.intBits
      simp [z]
    unfold Builtin.Int.intBits at eb
    rw [eb, c, c]
    refine ⟨by omega, .inr ?_⟩
    rw [Nat.add_sub_cancel]
    omega
theorem isw_step {row : List Int} {i k : Nat} {a : Int} (hk : IsW (row.take i) k) (h : row[i]? = some a) (h0 : 0 ≤ a) (h1 : a ≤ 536870911) : IsW (row.take (i + 1)) (if Builtin.Int.intBits a > k then Builtin.Int.intBits a else k) := by
  obtain ⟨p1, p2, p3⟩ := hk
  obtain ⟨b1, b2⟩ := bits_w h0 h1
  rw [List.take_add_one, h]
  have c : ∀ k : Nat, (2 : Int) ^ k = ((2 ^ k : Nat) : Int) := fun k => by simp
  have mono : ∀ {m n : Nat}, m ≤ n → (2 : Int) ^ m ≤ 2 ^ n := fun h => by
    rw [c, c]
    exact Int.ofNat_le.mpr (Nat.pow_le_pow_right (by decide) h)
  have mem : ∀ x, x ∈ row.take i ++ (some a).toList → x ∈ row.take i ∨ x = a := fun x hx => by
    rcases List.mem_append.mp hx with h | h
    · exact .inl h
    · exact .inr (by simpa using h)
  by_cases q : Builtin.Int.intBits a > k
  · rw [if_pos q]
    refine ⟨by omega, fun x hx => ?_, .inr ⟨a, by simp, ?_⟩⟩
    · rcases mem x hx with h | rfl
      · exact Int.lt_of_lt_of_le (p2 x h) (mono (by omega))
      · exact b1
    · rcases b2 with z | z
      · omega
      · exact z
  · rw [if_neg q]
    refine ⟨p1, fun x hx => ?_, ?_⟩
    · rcases mem x hx with h | rfl
      · exact p2 x h
      · exact Int.lt_of_lt_of_le b1 (mono (by omega))
    · rcases p3 with z | ⟨x, hx, hx2⟩
      · exact .inl z
      · exact .inr ⟨x, List.mem_append.mpr (.inl hx), hx2⟩
theorem pure_pack (as : List Sx) (p : RS → List Sx → Prop) (x : Nat → Xf → List Sx → Prop) (hl : as.length = 2) (h : fs_pack as p x) : ds_pack (xcOf as x) (endsOf as p) (startG 8 as) := by
  obtain ⟨row, w, rfl, hw, hn, k1, k2⟩ := h
  have := hw.2
  have hb := bs_gt (w := w)
  have hm := mny_bd hw
  have h2w := pow2_pos w
  unfold ds_pack
  walk_at "ds"
  refine for_up (fun t : Sx => [(2, t)]) (fun i _ => ∀ j (h : j < row.length), j < i → 0 ≤ row[j] ∧ row[j] < 2 ^ w) .no rfl (fun j h h' => by omega) ?_ ?_
  · rintro i t hi hp _ hx
    obtain ⟨a, ha, rfl⟩ := mapD_get hx
    obtain ⟨hi', rfl⟩ := List.getElem?_eq_some_iff.mp ha
    walk_at "dd"
    have bad : ¬ (0 ≤ row[i] ∧ row[i] < 2 ^ w) → ¬ Fits w row := fun h hf => h (hf _ (List.getElem_mem hi'))
    refine ⟨fun h0 => ⟨cpow (by omega) (by decide), fun h1 => k2 (bad fun h => h1 h.2), fun h1 => ⟨_, rfl, fun j hj hji => ?_⟩⟩, fun h0 => k2 (bad fun h => h0 h.1)⟩
    by_cases e : j = i
    · subst e; exact ⟨h0, h1⟩
    · exact hp j hj (by omega)
  · rintro t hp
    have hf : Fits w row := fun x hx => by
      obtain ⟨j, hj, rfl⟩ := List.mem_iff_getElem.mp hx
      exact hp j hj (by simpa using hj)
    have k := k1 hf
    walk_at "gg"
    refine ⟨w, rfl, hw, ?_⟩
    walk_at "gg"
    refine ⟨_, rg_up (by omega) (by omega) (by omega), for_up (fun v : Nat × Sx × Sx × Sx × Sx => [(2, v.2.1), (4, .own none (.lst ((List.range v.1).map fun i => D.int (val (2 ^ (w + 1)) (chunk (mny w) row i))))), (5, v.2.2.1), (6, v.2.2.2.1), (7, v.2.2.2.2)]) (fun i v => v.1 = i) (0, t, .no, .no, .no) (by simp [puts, put]) rfl ?_ ?_⟩
    · rintro i ⟨i', t1, t2, t3, t4⟩ hi e _ rfl
      obtain rfl : i' = i := e
      walk_at "gg"
      rw [cut_map, cut_chunk]
      have hcf := chunk_fits (m := mny w) (i := i') hf
      have hcl := chunk_len (m := mny w) (i := i') (row := row)
      have hi2 : i' < 2000 := by
        have := Nat.div_le_self (row.length + mny w - 1) (mny w)
        omega
      generalize hch : chunk (mny w) row i' = ch at hcf hcl
      refine for_up (fun v : Nat × Sx × Sx => [(2, v.2.1), (6, .val (.int (val (2 ^ (w + 1)) (ch.take v.1)))), (7, v.2.2)]) (fun j v => v.1 = j) (0, t1, t4) (by simp [puts, put, val]) rfl ?_ ?_
      · rintro j ⟨j', u1, u2⟩ hj e _ ⟨_, hx, rfl⟩
        obtain rfl : j' = j := e
        obtain ⟨a, ha, rfl⟩ := mapD_get hx
        have hj : j' < ch.length := by simpa using hj
        obtain ⟨a0, a1⟩ := hcf a (List.mem_of_getElem? ha)
        have := pw_le hw
        have sm := small_mul (j := j') (w := w) (by omega) hw.2
        walk_at "dd"
        refine ⟨.inl ⟨by omega, by omega⟩, by rw [shl_int]; exact cpow sm (by omega), (j' + 1, .val (.int a), .val (.int j')), ?_, rfl⟩
        rw [or_step hcf ha]
      · rintro ⟨j', u1, u2⟩ e
        obtain rfl : j' = ch.length := by simpa using e
        rw [List.take_of_length_le (Nat.le_refl _), ← hch]
        walk_at "gg"
        refine ⟨by simp; omega, ?_⟩
        rw [wds_snoc]
        exact ⟨(i' + 1, _, _, _, _), rfl, rfl⟩
    · rintro ⟨i', t1, t2, t3, t4⟩ e
      obtain rfl : i' = _ := e
      walk_at "gg"
      rw [wds_D] at k
      exact k
theorem pure_width_of (as : List Sx) (p : RS → List Sx → Prop) (x : Nat → Xf → List Sx → Prop) (hl : as.length = 1) (h : fs_width_of as p x) : ds_width_of (xcOf as x) (endsOf as p) (startG 3 as) := by
  obtain ⟨row, rfl, hn, k1, k2⟩ := h
  unfold ds_width_of
  walk_at "ds"
  walk_at "go"
  refine for_up (fun v : Nat × Sx => [(1, .val (.int v.1)), (2, v.2)]) (fun i v => Fits 29 (row.take i) ∧ IsW (row.take i) v.1) (1, .no) rfl ⟨fun x h => by simp at h, by omega, fun x h => by simp at h, .inl rfl⟩ ?_ ?_
  · rintro i ⟨k, t⟩ hi ⟨hf, hk⟩ _ hx
    obtain ⟨a, ha, rfl⟩ := mapD_get hx
    walk_at "ds"
    walk_at "go"
    have am : a ∈ row := List.mem_of_getElem? ha
    refine ⟨fun h0 => ⟨fun h1 => k2 fun q => ?_, fun h1 => ?_⟩, fun h0 => k2 fun q => h0 (q a am).1⟩
    · have := (q a am).2
      simp at this
      omega
    · walk_at "gg"
      refine ⟨((if Builtin.Int.intBits a > k then Builtin.Int.intBits a else k), .val (.int a)), ?_, fun x hx => ?_, isw_step hk ha h0 h1⟩
      · have : (if (Builtin.Int.intBits a : Int) > (k : Int) then (Builtin.Int.intBits a : Int) else (k : Int)) = (((if Builtin.Int.intBits a > k then Builtin.Int.intBits a else k) : Nat) : Int) := by
          split <;> split <;> omega
        rw [this]
      · rw [List.take_add_one, ha] at hx
        rcases List.mem_append.mp hx with h | h
        · exact hf x h
        · have : x = a := by simpa using h
          subst this
          simp
          omega
  · rintro ⟨k, t⟩ ⟨hf, hk⟩
    rw [List.take_of_length_le (Nat.le_refl _)] at hf hk
    walk_at "gg"
    exact k1 k hf hk
theorem and_mask (x : Int) (k : Nat) : Builtin.bitAnd x (2 ^ k - 1) = x % 2 ^ k := by
  by_cases h : 0 ≤ x
  · exact Bits.bitAnd_mask k h
  · have hp : 0 < 2 ^ k := Nat.two_pow_pos k
    have c : (2 : Int) ^ k = ((2 ^ k : Nat) : Int) := by simp
    have e0 : (2 : Int) ^ k - 1 = ((2 ^ k - 1 : Nat) : Int) := by rw [c]; generalize (2 : Nat) ^ k = m at hp; omega
    rw [e0, bitAnd_np h (by omega), Int.toNat_natCast, Nat.and_comm, Nat.and_two_pow_sub_one_eq_mod, c]
    have e1 : Builtin.bitNot x = -x - 1 := rfl
    rw [e1]
    obtain ⟨n, rfl⟩ : ∃ n : Nat, x = -((n : Int) + 1) := ⟨(-x - 1).toNat, by omega⟩
    rw [show (- -((n : Int) + 1) - 1).toNat = n by omega]
    generalize (2 : Nat) ^ k = P at hp
    have d := Nat.div_add_mod n P
    have l := Nat.mod_lt n hp
    have e2 : -((n : Int) + 1) = ((P - 1 - n % P : Nat) : Int) + (P : Int) * (-((n / P : Nat) : Int) - 1) := by
      rw [Int.mul_sub, Int.mul_neg, Int.mul_one]
      have : ((P * (n / P) : Nat) : Int) = (P : Int) * ((n / P : Nat) : Int) := by push_cast; rfl
      omega
    rw [e2, Int.add_mul_emod_self_left, Int.emod_eq_of_lt (by omega) (by omega)]
    omega
theorem low_app {w : Nat} {a b : List Int} : low w (a ++ b) = low w a ++ low w b := by simp [low]
theorem low_dig {w j : Nat} {a : Int} {m : Nat} {ws : List Int} : intsD (low w (allD (2 ^ (w + 1)) m ws ++ digs (2 ^ (w + 1)) a j)) ++ [D.int (Builtin.bitAnd (a / 2 ^ ((j : Int) * ((w : Int) + 1)).toNat) (2 ^ w - 1))] = intsD (low w (allD (2 ^ (w + 1)) m ws ++ digs (2 ^ (w + 1)) a (j + 1))) := by
  rw [map_snoc, and_mask, shl_nat, Int.pow_mul, ← digs_snoc, ← List.append_assoc]
  conv => rhs; rw [low_app]
  have : a / (2 ^ (w + 1)) ^ j % 2 ^ w = a / (2 ^ (w + 1)) ^ j % 2 ^ (w + 1) % 2 ^ w := by
    rw [Int.emod_emod_of_dvd]
    exact ⟨2, by rw [pow2_s, Int.mul_comm]⟩
  rw [this]
  rfl
theorem allD_snoc {b : Int} {m i : Nat} {ws : List Int} {a : Int} (h : ws[i]? = some a) : allD b m (ws.take i) ++ digs b a m = allD b m (ws.take (i + 1)) := by
  rw [List.take_add_one, h]
  unfold allD
  simp
theorem pure_unpack (as : List Sx) (p : RS → List Sx → Prop) (x : Nat → Xf → List Sx → Prop) (hl : as.length = 3) (h : fs_unpack as p x) : ds_unpack (xcOf as x) (endsOf as p) (startG 9 as) := by
  obtain ⟨ws, w, c, rfl, hw, hn, hc, k1, k2⟩ := h
  have := hw.2
  have hb := bs_gt (w := w)
  have hm := mny_bd hw
  unfold ds_unpack
  walk_at "ds"
  refine ⟨w, rfl, hw, ?_⟩
  walk_at "gg"
  have em : ((c : Int) + ((mny w : Nat) : Int) - 1) / ((mny w : Nat) : Int) = ((cnt (mny w) c : Nat) : Int) := by
    unfold cnt
    rw [show (c : Int) + ((mny w : Nat) : Int) - 1 = ((c + mny w - 1 : Nat) : Int) by omega]
    rfl
  rw [em]
  refine ⟨⟨by omega, by omega⟩, fun h => k2 fun g => h (by rw [g.1]), fun h => ?_⟩
  have h : ws.length = cnt (mny w) c := by omega
  walk_at "gg"
  refine ⟨cpow (by omega) (by decide), ?_⟩
  walk_at "gg"
  refine lc2_a (fun i => intsD (low w (allD (2 ^ (w + 1)) (mny w) (ws.take i)))) rfl ?_ ?_
  · rintro i _ hi hx
    obtain ⟨a, ha, rfl⟩ := mapD_get hx
    walk_at "dd"
    refine ⟨by omega, by omega, ?_⟩
    refine lc2_in (fun j => intsD (low w (allD (2 ^ (w + 1)) (mny w) (ws.take i) ++ digs (2 ^ (w + 1)) a j))) (by simp [digs]) ?_ ?_
    · rintro j _ hj rfl
      walk_at "dd"
      rw [low_dig]
      have s1 := small_mul (j := j) (w := w) (by omega) hw.2
      refine ⟨.inl ⟨by omega, by omega⟩, by rw [shl_int]; omega, ?_, rfl⟩
      rw [low, List.length_map, List.length_append, allD_len, digs_len, List.length_take]
      have : min i ws.length * mny w ≤ 100 * 30 := Nat.mul_le_mul (by omega) (by omega)
      omega
    · walk_at "dd"
      rw [allD_snoc ha]
  · walk_at "gg"
    have er : cut (intsD (low w (allD (2 ^ (w + 1)) (mny w) (List.take ws.length ws)))) none (some (c : Int)) = intsD (rd w ws c) := by
      rw [cut_to (by omega), Int.toNat_natCast, List.take_of_length_le (Nat.le_refl _)]
      unfold rd rdB
      exact List.map_take.symm
    rw [er]
    have hrl : (rd w ws c).length ≤ 1000 := by
      unfold rd rdB
      rw [List.length_take]
      omega
    refine ⟨rd w ws c, w, rfl, hw, hrl, fun hf => ?_, fun hf => absurd rd_fits hf⟩
    walk_at "gg"
    refine ⟨fun z => k2 fun g => z g.2, fun z => ?_⟩
    walk_at "gg"
    exact k1 ⟨h, z⟩

theorem pure_l_packed (as : List Sx) (p : RS → List Sx → Prop) (hl : as.length = 3) (h : fs_l_packed as p) : ds_l_packed (endsOf as p) (startG 5 as) := by
  obtain ⟨ws, w, c, rfl, hw, hn, hc, k1, k2⟩ := h
  have := hw.2
  have hb := bs_gt (w := w)
  have hm := mny_bd hw
  unfold ds_l_packed
  walk_at "ds"
  walk_at "go"
  refine for_up (fun v : Nat × Sx => [(3, .own none (.lst (intsD (allD (2 ^ (w + 1)) (mny w) (ws.take v.1))))), (4, v.2)]) (fun i v => v.1 = i) (0, .no) (by simp [puts, put, allD]) rfl ?_ ?_
  · rintro i ⟨i', t⟩ hi e _ hx
    obtain rfl : i' = i := e
    obtain ⟨a, ha, rfl⟩ := mapD_get hx
    walk_at "gg"
    refine ⟨a, w, rfl, hw, ?_⟩
    walk_at "gg"
    rw [← List.map_append, allD_snoc ha]
    refine ⟨?_, (i' + 1, _), rfl, rfl⟩
    rw [allD_len, digs_len, List.length_take]
    have : min i' ws.length * mny w ≤ 100 * 30 := Nat.mul_le_mul (by omega) (by omega)
    omega
  · rintro ⟨i', t⟩ e
    obtain rfl : i' = ws.length := by simpa using e
    rw [List.take_of_length_le (Nat.le_refl _)]
    walk_at "gg"
    have er : cut (intsD (allD (2 ^ (w + 1)) (mny w) ws)) none (some (c : Int)) = intsD ((allD (2 ^ (w + 1)) (mny w) ws).take c) := by
      rw [cut_to (by omega), Int.toNat_natCast]
      exact List.map_take.symm
    rw [er]
    walk_at "gg"
    have gi := good_iff (w := w) (m := mny w) (ws := ws) (c := c) (by omega)
    have gb := good_back (w := w) (m := mny w) (ws := ws) (c := c) (by omega)
    have hl2 : ((allD (2 ^ (w + 1)) (mny w) ws).take c).length ≤ 1000 := by
      rw [List.length_take]
      omega
    have hnn : ∀ x ∈ (allD (2 ^ (w + 1)) (mny w) ws).take c, 0 ≤ x := fun x hx => by
      have hx' := List.mem_of_mem_take hx
      unfold allD at hx'
      obtain ⟨y, _, hy⟩ := List.mem_flatMap.mp hx'
      unfold digs at hy
      obtain ⟨k, _, rfl⟩ := List.mem_map.mp hy
      exact Int.emod_nonneg _ (by omega)
    have k1' : Good w ws c → p (.val (.lst (intsD ((allD (2 ^ (w + 1)) (mny w) ws).take c)))) [lD ws, iD w, iD c] := fun g => by
      rw [(gb g).1]
      exact k1 g
    generalize (allD (2 ^ (w + 1)) (mny w) ws).take c = R at gi hl2 hnn k1'
    have h2w := pow2_pos w
    refine ⟨fun z => k2 fun g => (gi.mp g).1 (by omega), fun z => ⟨by omega, _, map_snoc, by simp, fun m hm1 hm2 => ?_⟩⟩
    have hlen : ¬ R.length < c := by omega
    refine ⟨cpow (by omega) (by decide), fun q => k2 fun g => ?_, fun q => ?_⟩
    · have g2 := (gi.mp g).2.1
      rcases List.mem_append.mp hm1 with h | h
      · have := g2 m h; omega
      · simp at h; omega
    · have hf : Fits w R := fun x hx => ⟨hnn x hx, by have := hm2 x (List.mem_append.mpr (.inl hx)); omega⟩
      walk_at "gg"
      refine ⟨R, w, rfl, hw, by omega, hf, ?_⟩
      walk_at "gg"
      exact ⟨fun z => k1' (gi.mpr ⟨hlen, fun x hx => (hf x hx).2, z⟩), fun z => k2 fun g => z (gi.mp g).2.2⟩
theorem one_lt {w : Nat} (h : Wd w) : (1 : Int) < 2 ^ w := by
  have : (2 : Nat) ^ 1 ≤ 2 ^ w := Nat.pow_le_pow_right (by decide) h.1
  have c : (2 : Int) ^ w = ((2 ^ w : Nat) : Int) := by simp
  omega
theorem dOk_bls {ds : List Int} {B : Int} : dOk (.lst (bls ds B)) = true := dOk_of (ok_lst fun _ _ => ok_bl _) (by decide)
theorem pure_lanes_below (as : List Sx) (p : RS → List Sx → Prop) (hl : as.length = 3) (h : fs_lanes_below as p) : ds_lanes_below (endsOf as p) (startG 7 as) := by
  obtain ⟨ds, w, B, rfl, hw, hd, h0, h1, k⟩ := h
  have := hw.2
  have hb := bs_gt (w := w)
  have hm := mny_bd hw
  unfold ds_lanes_below
  walk_at "ds"
  refine ⟨w, rfl, hw, ?_⟩
  walk_at "gg"
  refine for_up (fun v : Nat × Sx => [(4, .val (.int (val (2 ^ (w + 1)) (List.replicate v.1 1)))), (5, v.2)]) (fun i v => v.1 = i) (0, .no) (by simp [puts, put, val]) rfl ?_ ?_
  · rintro i ⟨i', t⟩ hi e _ rfl
    obtain rfl : i' = i := e
    walk_at "gg"
    have sm := small_mul (j := i') (w := w) (by omega) hw.2
    refine ⟨.inl ⟨by omega, by omega⟩, by rw [shl_int]; exact cpow sm (by decide), ?_⟩
    have f1 : Fits w (List.replicate (i' + 1) 1) := fun x hx => by
      rw [List.eq_of_mem_replicate hx]
      exact ⟨by decide, one_lt hw⟩
    have o := or_step (j := i') f1 (a := 1) (by rw [List.getElem?_replicate, if_pos (by omega)])
    rw [List.take_replicate, List.take_replicate, Nat.min_eq_left (by omega), Nat.min_self, Int.one_mul] at o
    rw [o]
    exact ⟨(i' + 1, _), rfl, rfl⟩
  · rintro ⟨i', t⟩ e
    obtain rfl : i' = mny w := by simpa using e
    walk_at "gg"
    have f1 : Fits w (List.replicate (mny w) 1) := fun x hx => by
      rw [List.eq_of_mem_replicate hx]
      exact ⟨by decide, one_lt hw⟩
    obtain ⟨v0, v1⟩ := val_bd f1 (by rw [List.length_replicate]; exact Nat.le_refl _) hw
    have h264 : (2 : Int) ^ 60 < 2 ^ 64 := by decide
    refine ⟨cpow (by omega) (by decide), .inl ⟨by omega, by omega⟩, ?_⟩
    have er : List.replicate (mny w) (1 : Int) = ds.map fun _ => 1 := by rw [← hd.2, List.map_const']
    rw [er]
    generalize hM : val (2 ^ (w + 1)) (ds.map fun _ => 1) * (B + 2 ^ w - 1) - val (2 ^ (w + 1)) ds = M
    walk_at "gg"
    refine lc_a (by omega) (fun i => (bls ds B).take i) rfl ?_ ?_
    · rintro i _ hi rfl
      have hi' : i < ds.length := by rw [hd.2]; omega
      have sm := small_mul (j := i) (w := w) (by omega) hw.2
      walk_at "dd"
      have e1 : ((i : Int) * ((w : Int) + 1) + (w : Int)).toNat = i * (w + 1) + w := by
        rw [show (i : Int) * ((w : Int) + 1) + (w : Int) = ((i * (w + 1) + w : Nat) : Int) by push_cast; rfl, Int.toNat_natCast]
      have mb := marks_bit hd.1 h0 h1 (k := i) (x := ds[i]) (List.getElem?_eq_getElem hi')
      have am := and_mask (M / 2 ^ (i * (w + 1) + w)) 1
      have e2 : (2 : Int) ^ 1 - 1 = 1 := by decide
      have e3 : (2 : Int) ^ 1 = 2 := by decide
      rw [hM] at mb
      rw [e2, e3, mb] at am
      rw [e1, am]
      refine ⟨.inl ⟨by omega, by omega⟩, by rw [shl_int]; omega, ?_⟩
      have e4 : decide ((if ds[i] < B then (1 : Int) else 0) = 1) = decide (ds[i] < B) := by
        by_cases c : ds[i] < B <;> simp [c]
      rw [e4]
      exact take_snoc (by unfold bls; rw [List.getElem?_map, List.getElem?_eq_getElem hi']; rfl)
    · rw [show mny w = (bls ds B).length by simp [bls, hd.2], List.take_of_length_le (Nat.le_refl _)]
      walk_at "gg"
      exact k
theorem pure_l_below (as : List Sx) (p : RS → List Sx → Prop) (hl : as.length = 3) (h : fs_l_below as p) : ds_l_below (endsOf as p) (startG 7 as) := by
  obtain ⟨ds, w, B, rfl, hw, hd, h0, h1, k⟩ := h
  have := hw.2
  have hb := bs_gt (w := w)
  have hm := mny_bd hw
  unfold ds_l_below
  walk_at "ds"
  refine ⟨ds, w, B, rfl, hw, hd, h0, h1, ?_⟩
  walk_at "gg"
  refine ⟨_, w, rfl, hw, ?_⟩
  walk_at "gg"
  have ed : digs (2 ^ (w + 1)) (val (2 ^ (w + 1)) ds) (mny w) = ds := by
    rw [← hd.2, val_digs hb (fits_b hd.1) (Nat.le_refl _), Nat.sub_self]
    simp
  rw [ed]
  refine lc_a (by rw [hd.2]; omega) (fun i => (bls ds B).take i) rfl ?_ ?_
  · rintro i _ hi hx
    obtain ⟨a, ha, rfl⟩ := mapD_get hx
    walk_at "dd"
    exact take_snoc (by unfold bls; rw [List.getElem?_map, ha]; rfl)
  · rw [show ds.length = (bls ds B).length by simp [bls], List.take_of_length_le (Nat.le_refl _)]
    walk_at "gg"
    refine ⟨dOk_bls, dOk_bls, fun z => absurd z (by rw [deq_self dOk_bls]; simp), fun _ => ?_⟩
    walk_at "gg"
    refine lc_a (by simp [bls, hd.2]; omega) (fun i => List.replicate i (.bl true)) rfl ?_ ?_
    · rintro i _ hi hx
      unfold bls at hx
      rw [List.getElem?_map] at hx
      obtain ⟨a, _, rfl⟩ := Option.map_eq_some_iff.mp hx
      walk_at "dd"
      exact rep_snoc
    · walk_at "gg"
      refine ⟨_, rep_bl, ?_⟩
      rw [show ∀ n, (List.replicate n true).all id = true from fun n => by simp]
      exact k
theorem isw_uniq {row : List Int} {k l : Nat} (h : IsW row k) (h2 : IsW row l) : k = l := by
  have c : ∀ k : Nat, (2 : Int) ^ k = ((2 ^ k : Nat) : Int) := fun k => by simp
  have mono : ∀ {m n : Nat}, m ≤ n → (2 : Int) ^ m ≤ 2 ^ n := fun h => by
    rw [c, c]
    exact Int.ofNat_le.mpr (Nat.pow_le_pow_right (by decide) h)
  have key : ∀ {k l : Nat}, IsW row k → IsW row l → ¬ k < l := fun {k l} h h2 hlt => by
    have h1 := h.1
    rcases h2.2.2 with z | ⟨x, hx, hx2⟩
    · omega
    · have := h.2.1 x hx
      have := mono (show k ≤ l - 1 by omega)
      omega
  have := key h h2
  have := key h2 h
  omega
theorem fits_mono {w : Nat} {row : List Int} (h : Fits w row) (hw : w ≤ 29) : Fits 29 row := fun x hx => by
  have := h x hx
  have l : (2 : Nat) ^ w ≤ 2 ^ 29 := Nat.pow_le_pow_right (by decide) hw
  have c : ∀ k : Nat, (2 : Int) ^ k = ((2 ^ k : Nat) : Int) := fun k => by simp
  rw [c] at this ⊢
  omega
theorem pure_l_widths (as : List Sx) (p : RS → List Sx → Prop) (hl : as.length = 2) (h : fs_l_widths as p) : ds_l_widths (endsOf as p) (startG 5 as) := by
  obtain ⟨row, w, rfl, hw, hf, hn, hn2, k⟩ := h
  have := hw.2
  unfold ds_l_widths
  walk_at "ds"
  walk_at "go"
  have f29 := fits_mono hf hw.2
  refine for_up (fun v : Nat × Sx => [(2, .val (.int v.1)), (3, v.2)]) (fun i v => 1 ≤ v.1 ∧ v.1 ≤ i + 1 ∧ (v.1 = 1 ∨ ∃ x ∈ row, 2 ^ (v.1 - 1) ≤ x) ∧ ∀ k, v.1 ≤ k → k ≤ i → ∀ x ∈ row, x < 2 ^ k) (1, .no) rfl ⟨by decide, by decide, .inl rfl, fun k a b => by omega⟩ ?_ ?_
  · rintro i ⟨k', t⟩ hi ⟨q1, q2, q3, q4⟩ _ rfl
    walk_at "gg"
    refine ⟨row, rfl, hn, fun m hm1 hm2 => ?_⟩
    have e1 : (1 + (i : Int)).toNat = i + 1 := by omega
    rw [e1]
    refine ⟨by rw [show (1 : Int) + i = ((i + 1 : Nat) : Int) by omega]; exact cpow (by simp at hi; omega) (by decide), fun z => ⟨(i + 2, .val (.int (1 + (i : Int)))), ?_, by simp <;> omega, by simp <;> omega, .inr ⟨m, hm1, by simpa using z⟩, fun k a b => by simp at a; omega⟩, fun z => ⟨(k', .val (.int (1 + (i : Int)))), rfl, q1, by simp at q2 ⊢; omega, q3, fun k a b x hx => ?_⟩⟩
    · simp only [Sx.val, List.cons.injEq, true_and, and_true]
      congr 2
      omega
    · by_cases c : k ≤ i
      · exact q4 k a c x hx
      · have : k = i + 1 := by omega
        subst this
        have := hm2 x hx
        omega
  · rintro ⟨k', t⟩ ⟨q1, q2, q3, q4⟩
    have hk : IsW row k' := by
      refine ⟨q1, fun x hx => ?_, q3⟩
      by_cases c : k' ≤ 29
      · exact q4 k' (Nat.le_refl _) (by simpa using c) x hx
      · have : k' = 30 := by simp at q2; omega
        subst this
        have := (f29 x hx).2
        simp at this
        simp
        omega
    walk_at "gg"
    refine ⟨row, rfl, by omega, fun k2 _ hk2 => ?_, fun z => absurd f29 z⟩
    obtain rfl := isw_uniq hk hk2
    walk_at "gg"
    refine ⟨_, _, rfl, ?_⟩
    walk_at "gg"
    refine ⟨[], rfl, by simp, fun k2 _ hk2 => ?_, fun z => absurd (fun x hx => by cases hx) z⟩
    have : k2 = 1 := by
      rcases hk2.2.2 with z | ⟨x, hx, _⟩
      · exact z
      · cases hx
    subst this
    walk_at "gg"
    refine ⟨_, _, rfl, ?_⟩
    walk_at "gg"
    refine ⟨fun _ => ?_, fun z => absurd rfl z⟩
    refine ⟨w, rfl, hw, ?_⟩
    walk_at "gg"
    rw [mny_int]
    refine ⟨⟨by omega, by omega⟩, _, _, rfl, ?_⟩
    walk_at "gg"
    exact k

theorem ints_nil {row : List Int} (h : 0 < row.length) : deq (.lst (intsD row)) (.lst []) = false := by
  rw [deq_ints_nil]
  cases row with
  | nil => simp at h
  | cons a r => simp
theorem rd_len {w c : Nat} {ws : List Int} : (rd w ws c).length ≤ c := by
  unfold rd rdB
  rw [List.length_take]
  exact Nat.min_le_left _ _
theorem rd_good {w c : Nat} {ws : List Int} (hw : Wd w) (h : Good w ws c) : (rd w ws c).length = c := (good_back (by have := mny_bd hw; omega) h).2
theorem pure_l_read (as : List Sx) (p : RS → List Sx → Prop) (hl : as.length = 3) (h : fs_l_read as p) : ds_l_read (endsOf as p) (startG 8 as) := by
  obtain ⟨ws, w, c, rfl, hw, hn, hc, hg, k⟩ := h
  unfold ds_l_read
  walk_at "ds"
  walk_at "go"
  by_cases g : Good w ws c
  · have hl := rd_good hw g
    have hc0 := hg g
    have hne := ints_nil (row := rd w ws c) (by omega)
    refine ⟨ws, w, c, rfl, hw, hn, hc, fun _ => ?_, fun n => absurd g n⟩
    walk_at "gg"
    refine ⟨ws, w, c, rfl, hw, hn, hc, fun _ => ?_, fun n => absurd g n⟩
    walk_at "gg"
    have hne2 : ¬ rd w ws c = [] := fun z => by rw [z] at hl; simp at hl; omega
    refine ⟨fun z => absurd z hne2, fun _ => ?_⟩
    refine ⟨_, rfl, by omega, ?_⟩
    walk_at "gg"
    refine ⟨ws, w, c, rfl, hw, hn, hc, fun _ => ?_, fun n => absurd g n⟩
    walk_at "gg"
    refine ⟨_, rfl, by omega, ?_⟩
    walk_at "gg"
    exact k
  · refine ⟨ws, w, c, rfl, hw, hn, hc, fun n => absurd n g, fun _ => ?_⟩
    walk_at "gg"
    refine ⟨ws, w, c, rfl, hw, hn, hc, fun n => absurd n g, fun _ => ?_⟩
    walk_at "gg"
    refine try_in rfl fun a => ?_
    walk_at "ds"
    walk_at "gg"
    exact k
theorem pure_l_unfit (as : List Sx) (p : RS → List Sx → Prop) (hl : as.length = 2) (h : fs_l_unfit as p) : ds_l_unfit (endsOf as p) (startG 5 as) := by
  obtain ⟨row, w, rfl, hn, hc, k⟩ := h
  unfold ds_l_unfit
  walk_at "ds"
  walk_at "go"
  refine ⟨fun z => ?_, fun z => ?_⟩
  · have hf : ¬ Fits 29 row := by
      rcases hc with h | h
      · exact h.2
      · have := h.1.1; omega
    refine ⟨row, rfl, hn, fun _ n => absurd n hf, fun _ => ?_⟩
    walk_at "gg"
    refine try_in rfl fun a => ?_
    walk_at "ds"
    walk_at "gg"
    refine ⟨_, _, rfl, rfl, ?_⟩
    walk_at "gg"
    exact k
  · have hf : Wd w ∧ ¬ Fits w row := by
      rcases hc with h | h
      · have := h.1; omega
      · exact h
    refine ⟨row, w, rfl, hf.1, hn, fun n => absurd n hf.2, fun _ => ?_⟩
    walk_at "gg"
    refine try_in rfl fun a => ?_
    walk_at "ds"
    walk_at "gg"
    refine ⟨_, _, rfl, rfl, ?_⟩
    walk_at "gg"
    exact k
theorem pure_l_drawn (as : List Sx) (p : RS → List Sx → Prop) (hl : as.length = 2) (h : fs_l_drawn as p) : ds_l_drawn (endsOf as p) (startG 5 as) := by
  obtain ⟨ms, w, rfl, hw, hp, k⟩ := h
  unfold ds_l_drawn
  walk_at "ds"
  walk_at "go"
  refine ⟨ms, 40, rfl, hp, by decide, by decide, fun kd ms2 d0 d1 hp2 => ?_⟩
  walk_at "gg"
  have h2w := pow2_pos w
  have hN : ∃ N : Nat, (1 + (kd + 4) % 40).toNat = N ∧ 0 < N ∧ N ≤ 40 := ⟨_, rfl, by omega, by omega⟩
  obtain ⟨N, e1, n0, n1⟩ := hN
  rw [e1]
  refine for_up (fun v : List Int × List Int × Sx × Sx => [(0, .own (some 0) (.lst (intsD v.1))), (2, .own none (.lst (intsD v.2.1))), (3, v.2.2.1), (4, v.2.2.2)]) (fun i v => Pool v.1 ∧ v.2.1.length = i ∧ Fits w v.2.1) (ms2, [], .no, .no) rfl ⟨hp2, rfl, fun x hx => by cases hx⟩ ?_ ?_
  · rintro i ⟨mp, row, t1, t2⟩ hi ⟨q1, q2, q3⟩ _ rfl
    have q2 : row.length = i := q2
    have add : ∀ x ms', 0 ≤ x → x < 2 ^ w → Pool ms' → ∀ t1 t2, ∃ v' : List Int × List Int × Sx × Sx, puts [Sx.own (some 0) (OC.lst (intsD ms2)), iD (2 ^ w), Sx.own none (OC.lst []), Sx.no, Sx.no] [(0, .own (some 0) (.lst (intsD v'.1))), (2, .own none (.lst (intsD v'.2.1))), (3, v'.2.2.1), (4, v'.2.2.2)] = [.own (some 0) (.lst (intsD ms')), iD (2 ^ w), .own none (.lst (intsD row ++ [.int x])), t1, t2] ∧ Pool v'.1 ∧ v'.2.1.length = i + 1 ∧ Fits w v'.2.1 := fun x ms' x0 x1 hp' t1 t2 =>
      ⟨(ms', row ++ [x], t1, t2), by simp [puts, put], hp', by simp; exact q2, fun y hy => by
        rcases List.mem_append.mp hy with h | h
        · exact q3 y h
        · simp at h; subst h; exact ⟨x0, x1⟩⟩
    walk_at "ds"
    refine ⟨mp, 4, rfl, q1, by decide, by decide, fun d ms3 d0 d1 hp3 => ?_⟩
    walk_at "gg"
    refine ⟨fun z => ⟨by omega, add _ _ (by omega) (by omega) hp3 _ _⟩, fun z => ⟨fun z => ⟨by omega, add _ _ (by omega) h2w hp3 _ _⟩, fun z => ?_⟩⟩
    refine ⟨ms3, _, rfl, hp3, h2w, by have := pw_le hw; omega, fun d2 ms4 e0 e1 hp4 => ?_⟩
    walk_at "gg"
    exact add _ _ (Int.emod_nonneg _ (by omega)) (Int.emod_lt_of_pos _ h2w) hp4 _ _
  · rintro ⟨mp, row, t1, t2⟩ ⟨q1, q2, q3⟩
    have q2 : row.length = N := q2
    walk_at "gg"
    exact k row mp q3 (by omega) (by omega) q1
theorem cnt_zero {m : Nat} (h : 0 < m) : cnt m 0 = 0 := by
  unfold cnt
  exact Nat.div_eq_of_lt (by omega)
theorem wds_nil {w : Nat} (hw : Wd w) : wds w [] = [] := by
  have := mny_bd hw
  unfold wds wordsB
  rw [List.length_nil, cnt_zero (by omega)]
  rfl
theorem pure_l_nothing (as : List Sx) (p : RS → List Sx → Prop) (hl : as.length = 1) (h : fs_l_nothing as p) : ds_l_nothing (endsOf as p) (startG 3 as) := by
  obtain ⟨w, rfl, hw, k⟩ := h
  unfold ds_l_nothing
  walk_at "ds"
  refine ⟨[], w, rfl, hw, by simp, fun _ => ?_, fun n => absurd (fun x hx => by cases hx) n⟩
  walk_at "gg"
  have e0 : wds w [] = [] := wds_nil hw
  have hm := mny_bd hw
  rw [e0]
  refine ⟨[], rfl, by simp, ?_⟩
  walk_at "gg"
  have r0 : rd w [] 0 = [] := rfl
  have g0 : Good w [] 0 := ⟨by rw [cnt_zero (by omega)]; rfl, wds_nil hw⟩
  refine ⟨[], w, 0, rfl, hw, by simp, by simp, fun _ => ?_, fun n => absurd g0 n⟩
  walk_at "gg"
  refine ⟨[], rfl, by simp, ?_⟩
  walk_at "gg"
  have c1 : cnt (mny w) 1 = 1 := by
    unfold cnt
    rw [show 1 + mny w - 1 = mny w by omega]
    exact Nat.div_self (by omega)
  have c0 := cnt_zero (m := mny w) (by omega)
  refine for_up (fun v : Sx × Sx => [(1, v.1), (2, v.2)]) (fun _ _ => True) (.no, .no) rfl trivial ?_ ?_
  · rintro i ⟨t1, t2⟩ hi _ x hx
    have key : ∃ ws : List Int, ∃ c : Nat, x = .tup [.lst (intsD ws), .int c] ∧ ws.length ≤ 2 ∧ c ≤ 1 ∧ ¬ Good w ws c := by
      match i, hi, hx with
      | 0, _, hx => exact ⟨[0], 0, (Option.some.inj hx).symm, by decide, by decide, fun g => by have := g.1; rw [c0] at this; cases this⟩
      | 1, _, hx => exact ⟨[], 1, (Option.some.inj hx).symm, by decide, by decide, fun g => by have := g.1; rw [c1] at this; cases this⟩
      | 2, _, hx => exact ⟨[0, 0], 1, (Option.some.inj hx).symm, by decide, by decide, fun g => by have := g.1; rw [c1] at this; cases this⟩
    obtain ⟨ws, c, rfl, l1, l2, ng⟩ := key
    walk_at "gg"
    refine ⟨ws, w, c, rfl, hw, by omega, by omega, fun g => absurd g ng, ?_⟩
    walk_at "gg"
    exact ⟨(_, _), rfl⟩
  · rintro ⟨t1, t2⟩ _
    walk_at "gg"
    exact k

theorem pure_l_near (as : List Sx) (p : RS → List Sx → Prop) (hl : as.length = 2) (h : fs_l_near as p) : ds_l_near (endsOf as p) (startG 8 as) := by
  obtain ⟨ms, ws, rfl, hp, h0, h1, k⟩ := h
  unfold ds_l_near
  walk_at "xs"
  refine ⟨ms, 6, rfl, hp, by decide, by decide, fun kd ms2 d0 d1 hp2 => ?_⟩
  walk_at "x"
  refine ⟨ms2, _, rfl, hp2, by omega, by omega, fun at' ms3 a0 a1 hp3 => ?_⟩
  obtain ⟨j, rfl⟩ : ∃ j : Nat, at' = j := ⟨at'.toNat, by omega⟩
  have hj : j < ws.length := by omega
  have cf : ∀ {i : Nat}, cut (intsD ws) (some (i : Int)) none = intsD (ws.drop i) := fun {i} => by
    rw [cut_from (by omega), Int.toNat_natCast]
    exact List.map_drop.symm
  have ct : ∀ {i : Nat}, cut (intsD ws) none (some (i : Int)) = intsD (ws.take i) := fun {i} => by
    rw [cut_to (by omega), Int.toNat_natCast]
    exact List.map_take.symm
  have cc : ∀ {a b : List Int}, intsD a ++ intsD b = intsD (a ++ b) := fun {a b} => (List.map_append).symm
  have c1 : ∀ {a : List Int} {x : Int}, intsD a ++ [D.int x] = intsD (a ++ [x]) := fun {a x} => map_snoc
  have ja : (j : Int) + 1 = ((j + 1 : Nat) : Int) := by omega
  walk_at "x"
  have alt : ∀ x ms', Pool ms' → p (.new (.lst (intsD (ws.take j ++ [x] ++ ws.drop (j + 1))))) [oD ms', lD ws] := fun x ms' h => k _ _ (by simp; omega) h
  have one : ∀ q : Prop, (∀ ms4, Pool ms4 → ∀ d : Int, 0 ≤ d → d < 60 → q) → q := fun q h => h [] (fun x hx => by cases hx) 0 (by decide) (by decide)
  have k01 : ∃ d, atI (intsD ws) (j : Int) = some d ∧ True := ⟨_, ints_at hj, trivial⟩
  have fin : ∀ x ms', Pool ms' → (intsD (ws.take j)).length ≤ 999999 ∧ (intsD (ws.take j ++ [x])).length + (intsD (ws.drop (j + 1))).length ≤ 1000000 ∧ p (.new (.lst (intsD (ws.take j ++ [x] ++ ws.drop (j + 1))))) [oD ms', lD ws] := fun x ms' h => ⟨by simp; omega, by simp; omega, alt _ _ h⟩
  refine ⟨fun z => ?_, fun z => ⟨fun z2 => ?_, fun z2 => ?_⟩⟩
  · walk_at "x"
    refine ⟨_, ints_at hj, ms3, 60, rfl, hp3, by decide, by decide, fun u ms4 u0 u1 hp4 => ?_⟩
    obtain ⟨u, rfl⟩ : ∃ v : Nat, u = v := ⟨u.toNat, by omega⟩
    walk_at "x"
    refine ⟨cpow (by omega) (by decide), ?_⟩
    walk_at "x"
    rw [ja, cf, ct, c1, cc]
    exact fin _ _ hp4
  · walk_at "x"
    refine ⟨_, ints_at hj, ms3, 60, rfl, hp3, by decide, by decide, fun u ms4 u0 u1 hp4 => ?_⟩
    obtain ⟨u, rfl⟩ : ∃ v : Nat, u = v := ⟨u.toNat, by omega⟩
    walk_at "x"
    refine ⟨cpow (by omega) (by decide), ?_⟩
    walk_at "x"
    rw [ja, cf, ct, c1, cc]
    exact fin _ _ hp4
  · walk_at "x"
    refine ⟨fun z3 => ?_, fun z3 => ?_⟩
    · walk_at "x"
      refine ⟨ms3, 70, rfl, hp3, by decide, by decide, fun u ms4 u0 u1 hp4 => ?_⟩
      obtain ⟨u, rfl⟩ : ∃ v : Nat, u = v := ⟨u.toNat, by omega⟩
      walk_at "x"
      refine ⟨by rw [show (60 : Int) + (u : Int) = ((60 + u : Nat) : Int) by omega]; exact cpow (by omega) (by decide), ?_⟩
      walk_at "x"
      refine ⟨_, ints_at hj, ?_⟩
      walk_at "x"
      refine ⟨ms4, 3, rfl, hp4, by decide, by decide, fun u2 ms5 v0 v1 hp5 => ?_⟩
      walk_at "x"
      have hu : u2 = 0 ∨ u2 = 1 ∨ u2 = 2 := by omega
      have hx : ∀ a b c : Int, ∃ x, atI [D.int a, D.int b, D.int c] u2 = some (.int x) := fun a b c => by
        rcases hu with rfl | rfl | rfl
        · exact ⟨a, rfl⟩
        · exact ⟨b, rfl⟩
        · exact ⟨c, rfl⟩
      obtain ⟨x, ex⟩ := hx _ _ _
      refine ⟨_, ex, ?_⟩
      walk_at "x"
      rw [ja, cf, ct, c1, cc]
      exact fin _ _ hp5
    · walk_at "x"
      refine ⟨fun z4 => ?_, fun z4 => ?_⟩
      · walk_at "x"
        refine ⟨_, ints_at hj, ?_⟩
        walk_at "x"
        refine ⟨ms3, 2, rfl, hp3, by decide, by decide, fun u2 ms5 v0 v1 hp5 => ?_⟩
        walk_at "x"
        have hu : u2 = 0 ∨ u2 = 1 := by omega
        have hx : ∀ a b : Int, ∃ x, atI [D.int a, D.int b] u2 = some (.int x) := fun a b => by
          rcases hu with rfl | rfl
          · exact ⟨a, rfl⟩
          · exact ⟨b, rfl⟩
        obtain ⟨x, ex⟩ := hx _ _
        refine ⟨_, ex, ?_⟩
        walk_at "x"
        refine ⟨ms5, 2, rfl, hp5, by decide, by decide, fun u3 ms6 w0 w1 hp6 => ?_⟩
        obtain ⟨u3, rfl⟩ : ∃ v : Nat, u3 = v := ⟨u3.toNat, by omega⟩
        walk_at "x"
        rw [show (j : Int) + (u3 : Int) = ((j + u3 : Nat) : Int) by omega, cf, ct, c1, cc]
        exact ⟨by simp; omega, by simp; omega, k _ _ (by simp; omega) hp6⟩
      · walk_at "x"
        refine ⟨fun z5 => ⟨fun z6 => ?_, fun z6 => ?_⟩, fun z5 => ?_⟩
        · walk_at "x"
          rw [ja, cf, ct, cc]
          exact ⟨by simp; omega, k _ _ (by simp; omega) hp3⟩
        · walk_at "x"
          rw [cf, ct, cc]
          exact ⟨by simp; omega, k _ _ (by simp; omega) hp3⟩
        · walk_at "x"
          rw [cf, ct, cc]
          exact ⟨by simp; omega, k _ _ (by simp; omega) hp3⟩

theorem pad_val {b : Int} {ds : List Int} {n : Nat} : val b (ds ++ List.replicate n 0) = val b ds := by
  have z : ∀ n, val b (List.replicate n 0) = 0 := fun n => by
    induction n with
    | zero => rfl
    | succ n ih => simp [List.replicate_succ, val, ih]
  rw [val_app, z]
  simp
theorem wds_lanes {w : Nat} {row : List Int} (hw : Wd w) (hf : Fits w row) {i : Nat} {x : Int} (h : (wds w row)[i]? = some x) : ∃ ds, x = val (2 ^ (w + 1)) ds ∧ Lns w ds := by
  unfold wds wordsB at h
  rw [List.getElem?_map] at h
  obtain ⟨k, _, rfl⟩ := Option.map_eq_some_iff.mp h
  have hcf := chunk_fits (m := mny w) (i := k) hf
  have hcl := chunk_len (m := mny w) (i := k) (row := row)
  refine ⟨chunk (mny w) row k ++ List.replicate (mny w - (chunk (mny w) row k).length) 0, pad_val.symm, fun y hy => ?_, by rw [List.length_append, List.length_replicate]; omega⟩
  rcases List.mem_append.mp hy with h | h
  · exact hcf y h
  · rw [List.eq_of_mem_replicate h]
    exact ⟨by decide, pow2_pos w⟩
theorem pure_l_bounds (as : List Sx) (p : RS → List Sx → Prop) (hl : as.length = 4) (h : fs_l_bounds as p) : ds_l_bounds (endsOf as p) (startG 10 as) := by
  obtain ⟨ms, row, w, rfl, hw, hp, hf, h0, h1, k⟩ := h
  have h2w := pow2_pos w
  have hpl := pw_le hw
  have hw2 := hw.2
  unfold ds_l_bounds
  walk_at "xs"
  refine ⟨cpow (by omega) (by decide), ?_⟩
  walk_at "x"
  refine ⟨ms, _, rfl, hp, by omega, by omega, fun at' ms3 a0 a1 hp3 => ?_⟩
  obtain ⟨j, rfl⟩ : ∃ j : Nat, at' = j := ⟨at'.toNat, by omega⟩
  have hj : j < row.length := by omega
  walk_at "x"
  refine ⟨_, ints_at hj, ?_⟩
  have hr := hf _ (List.getElem_mem hj)
  walk_at "x"
  refine ⟨ms3, _, rfl, hp3, h2w, by omega, fun u ms4 u0 u1 hp4 => ?_⟩
  walk_at "x"
  have rest : ∀ bs : List Int, (∀ b ∈ bs, 0 ≤ b ∧ b ≤ 2 ^ w) → bs.length ≤ 1000 → ∀ t, DL.Later (dSeq
        (dFor (dIL (dVarV 6)) (gN 7) (dFor (dIL (dVarV 1)) (gN 8) (dIf (dNot (dB (dCall 3 fs_l_below [] (dCons (dVarV 8) (dCons (dVarV 3) (dCons (dVarV 7) dNil)))))) (dRet (dC (.bl false))) dNext)))
        (dRet (dC (.bl true)))) (endsOf [oD ms, lD (wds w row), lD row, iD w] p) [oD ms4, lD (wds w row), lD row, iD w, iD (2 ^ w), iD row[j], .own none (.lst (intsD bs)), .no, .no, t] := fun bs hb hbl t => by
    walk_at "x"
    refine for_up (fun v : Sx × Sx => [(7, v.1), (8, v.2)]) (fun _ _ => True) (.no, .no) rfl trivial ?_ ?_
    · rintro i ⟨t1, t2⟩ hi _ _ hx
      obtain ⟨b, hb', rfl⟩ := mapD_get hx
      walk_at "x"
      refine for_up (fun v : Sx => [(8, v)]) (fun _ _ => True) t2 rfl trivial ?_ ?_
      · rintro i2 t3 hi2 _ _ hx2
        obtain ⟨x, hx', rfl⟩ := mapD_get hx2
        obtain ⟨ds, rfl, hd⟩ := wds_lanes hw hf hx'
        have := hb b (List.mem_of_getElem? hb')
        walk_at "x"
        refine ⟨ds, w, b, rfl, hw, hd, this.1, this.2, ?_⟩
        walk_at "x"
        exact ⟨_, rfl⟩
      · rintro t3 _
        walk_at "x"
        exact ⟨(_, _), rfl⟩
    · rintro ⟨t1, t2⟩ _
      walk_at "x"
      exact k _ hp4
  refine ⟨fun z => ?_, fun z => ?_⟩
  · walk_at "x"
    have hw4 : (2 : Int) ^ w ≤ 8 := by
      have : (2 : Nat) ^ w ≤ 8 := Nat.le_trans (Nat.pow_le_pow_right (by decide) (show w ≤ 3 by omega)) (by decide)
      have c : (2 : Int) ^ w = ((2 ^ w : Nat) : Int) := by simp
      omega
    refine lc_a (by omega) (fun i => intsD ((List.range i).map fun k : Nat => (k : Int))) rfl ?_ ?_
    · rintro i _ hi rfl
      walk_at "xd"
      rw [List.range_succ, List.map_append, intsD, intsD, List.map_append]
      rfl
    · walk_at "xd"
      exact rest _ (fun b hb => by
        obtain ⟨k, hk, rfl⟩ := List.mem_map.mp hb
        have := List.mem_range.mp hk
        omega) (by simp; omega) _
  · exact rest [0, 2 ^ w, row[j], row[j] + 1, u] (fun b hb => by simp at hb; omega) (by simp) _

theorem not_fits {w : Nat} {a b : List Int} {x : Int} (h : x < 0 ∨ 2 ^ w ≤ x) : ¬ Fits w (a ++ [x] ++ b) := fun f => by
  have := f x (by simp)
  omega
def law_rest : DS := (dSeq (dIf (dOr (dNot (dB (dCallL 2 fs_l_unfit (dCons (dVar 8) (dCons (dVar 2) dNil))))) (dNot (dB (dCallL 2 fs_l_unfit (dCons (dVar 9) (dCons (dC (.int 0)) dNil)))))) (dRet (dC (.bl false))) dNext)
  (dSeq (dAsg 10 (dCB fList (dCons (dVar 4) dNil)))
  (dSeq (dAsg 11 (dCallL 2 fs_l_words (dCons (dVar 4) (dCons (dVar 2) dNil))))
  (dSeq (dAsg 12 (dCallLX 2 fs_pack (dCons (dVar 10) (dCons (dVar 2) dNil))))
  (dSeq (dIf (dOr (dNot (dB (dCallL 2 fs_l_ints (dCons (dVar 12) (dCons (dVar 11) dNil))))) (dB (d2 fNeD (dVar 10) (dVar 4)))) (dRet (dC (.bl false))) dNext)
  (dSeq (dDrop (dMut 12 mApp (dCons (dC (.int 0)) dNil)))
  (dSeq (dIf (dOr (dNot (dB (dCallL 2 fs_l_ints (dCons (dCallLX 2 fs_pack (dCons (dVar 10) (dCons (dVar 2) dNil))) (dCons (dVar 11) dNil))))) (dNot (dB (dCallL 2 fs_l_widths (dCons (dVar 4) (dCons (dVar 2) dNil)))))) (dRet (dC (.bl false))) dNext)
  (dSeq (dAsg 13 (dCall 2 fs_l_near [] (dCons (dVar 1) (dCons (dVarV 11) dNil))))
  (dSeq (dFor (dIL (dLst (dCons (dCB fLen (dCons (dVar 4) dNil)) (dCons (d2 fAdd (dC (.int 1)) (dCall 2 fs_l_draw [] (dCons (dVar 1) (dCons (d2 fAdd (dCB fLen (dCons (dVar 4) dNil)) (dC (.int 2))) dNil)))) dNil)))) (gN 14) (dFor (dIL (dLst (dCons (dVarV 11) (dCons (dVarV 13) dNil)))) (gN 15) (dIf (dNot (dB (dCallL 3 fs_l_read (dCons (dVar 15) (dCons (dVar 2) (dCons (dVar 14) dNil)))))) (dRet (dC (.bl false))) dNext)))
  (dSeq (dIf (dOr (dNot (dB (dCall 4 fs_l_bounds [] (dCons (dVar 1) (dCons (dVarV 11) (dCons (dVarV 4) (dCons (dVarV 2) dNil))))))) (dNot (dB (dCall 1 fs_l_nothing [] (dCons (dVarV 2) dNil))))) (dRet (dC (.bl false))) dNext)
  (dRet (dAndV (dCallL 2 fs_l_unfit (dCons (dVar 8) (dCons (dVar 2) dNil))) (dCallL 2 fs_l_unfit (dCons (dVar 9) (dCons (dC (.int 0)) dNil)))))))))))))))
theorem law_r {as : List Sx} {p : RS → List Sx → Prop} {ns ms row bad far : List Int} {w j : Nat} {x u3 : Int} (kk : ∀ as', p (.val (.bl true)) as') (has : as = [.val (.scr ns)]) (hw : Wd w) (hf : Fits w row) (l0 : 0 < row.length) (l1 : row.length ≤ 40) (hp : Pool ms)
    (b1 : bad.length ≤ 100) (b2 : far.length ≤ 100) (nb : ¬ Fits w bad) (nf : ¬ Fits 29 far) : DL.Later law_rest (endsOf as p) [.val (.scr ns), .own none (.lst (intsD ms)), iD w, iD (2 ^ w), .own none (.lst (intsD row)), iD j, iD x, .val (.bl (decide (u3 = 1))), .own none (.lst (intsD bad)), .own none (.lst (intsD far)), .no, .no, .no, .no, .no, .no] := by
  subst has
  unfold law_rest
  have hm := mny_bd hw
  walk_at "x"
  refine ⟨bad, w, rfl, by omega, .inr ⟨hw, nb⟩, ?_⟩
  walk_at "x"
  refine ⟨far, 0, rfl, by omega, .inl ⟨rfl, nf⟩, ?_⟩
  walk_at "x"
  refine ⟨row, w, rfl, hw, by omega, hf, ?_⟩
  walk_at "x"
  refine ⟨row, w, rfl, hw, by omega, fun _ => ?_, fun n => absurd hf n⟩
  have hwl : (wds w row).length ≤ 60 := by
    unfold wds
    rw [words_len]
    unfold cnt
    exact Nat.le_trans (Nat.div_le_div_left (show 2 ≤ mny w by omega) (by decide)) (by omega)
  walk_at "x"
  refine ⟨_, rfl, by omega, ?_⟩
  walk_at "x"
  refine ⟨row, w, rfl, hw, by omega, fun _ => ?_, fun n => absurd hf n⟩
  walk_at "x"
  refine ⟨_, rfl, by omega, ?_⟩
  walk_at "x"
  refine ⟨row, w, rfl, hw, hf, l0, l1, ?_⟩
  have hwp : 0 < (wds w row).length := by
    unfold wds
    rw [words_len]
    unfold cnt
    exact Nat.div_pos (by omega) (by omega)
  walk_at "x"
  refine ⟨ms, _, rfl, hp, hwp, hwl, fun ws' ms2 hl' hp2 => ?_⟩
  walk_at "x"
  refine ⟨ms2, _, rfl, hp2, by omega, by omega, fun d ms3 d0 d1 hp3 => ?_⟩
  walk_at "x"
  refine for_up (fun v : Sx × Sx × Sx => [(13, v.1), (14, v.2.1), (15, v.2.2)]) (fun _ v => v.1 = .own none (.lst (intsD ws')) ∨ v.1 = lD ws') (_, .no, .no) rfl (.inl rfl) ?_ ?_
  · rintro i ⟨t0, t1, t2⟩ hi ht _ hx
    have key : ∃ c : Nat, 0 < c ∧ c ≤ 100 ∧ ‹D› = .int c := by
      match i, hi, hx with
      | 0, _, hx => exact ⟨row.length, l0, by omega, (Option.some.inj hx).symm⟩
      | 1, _, hx => exact ⟨(1 + d).toNat, by omega, by omega, by rw [← Option.some.inj hx]; congr 1; omega⟩
    obtain ⟨c, c0, c1, rfl⟩ := key
    have ht : t0 = .own none (.lst (intsD ws')) ∨ t0 = lD ws' := ht
    rcases ht with rfl | rfl
    all_goals
      walk_at "x"
      refine for_up (fun v : Sx => [(15, v)]) (fun _ _ => True) t2 rfl trivial ?_ ?_
      · rintro i2 t3 hi2 _ _ hx2
        have key : ∃ ws : List Int, ws.length ≤ 61 ∧ ‹D› = .lst (intsD ws) := by
          match i2, hi2, hx2 with
          | 0, _, hx2 => exact ⟨wds w row, by omega, (Option.some.inj hx2).symm⟩
          | 1, _, hx2 => exact ⟨ws', hl', (Option.some.inj hx2).symm⟩
        obtain ⟨ws, wl, rfl⟩ := key
        walk_at "x"
        refine ⟨ws, w, c, rfl, hw, by omega, by omega, fun _ => c0, ?_⟩
        walk_at "x"
        exact ⟨_, rfl⟩
      · rintro t3 _
        walk_at "x"
        exact ⟨(_, _, _), rfl, .inr rfl⟩
  · rintro ⟨t0, t1, t2⟩ ht
    walk_at "x"
    refine ⟨ms3, row, w, rfl, hw, hp3, hf, l0, l1, fun ms4 hp4 => ?_⟩
    walk_at "x"
    refine ⟨w, rfl, hw, ?_⟩
    walk_at "x"
    refine ⟨bad, w, rfl, by omega, .inr ⟨hw, nb⟩, ?_⟩
    walk_at "x"
    refine ⟨far, 0, rfl, by omega, .inl ⟨rfl, nf⟩, ?_⟩
    walk_at "x"
    exact kk _
theorem pure_law (as : List Sx) (p : RS → List Sx → Prop) (hl : as.length = 1) (h : fs_law as p) : ds_law (endsOf as p) (startG 16 as) := by
  obtain ⟨ns, rfl, hn, kk⟩ := h
  unfold ds_law
  walk_at "xs"
  refine ⟨ns, rfl, hn, fun ms hp => ?_⟩
  walk_at "x"
  refine ⟨ms, 29, rfl, hp, by decide, by decide, fun d1 ms1 a0 a1 hp1 => ?_⟩
  walk_at "x"
  obtain ⟨w, ew, hw⟩ : ∃ w : Nat, (1 : Int) + (d1 + 2) % 29 = w ∧ Wd w := ⟨(1 + (d1 + 2) % 29).toNat, by omega, by omega, by omega⟩
  rw [ew]
  have h2w := pow2_pos w
  have hpl := pw_le hw
  have hw1 := hw.1
  have hw2 := hw.2
  refine ⟨cpow (by omega) (by decide), ?_⟩
  walk_at "x"
  refine ⟨ms1, w, rfl, hw, hp1, fun row ms2 hf l0 l1 hp2 => ?_⟩
  walk_at "x"
  refine ⟨ms2, _, rfl, hp2, by omega, by omega, fun at' ms3 a0 a1 hp3 => ?_⟩
  obtain ⟨j, rfl⟩ : ∃ j : Nat, at' = j := ⟨at'.toNat, by omega⟩
  walk_at "x"
  refine ⟨ms3, _, rfl, hp3, h2w, by omega, fun ov ms4 o0 o1 hp4 => ?_⟩
  walk_at "x"
  refine ⟨ms4, 2, rfl, hp4, by decide, by decide, fun u2 ms5 v0 v1 hp5 => ?_⟩
  walk_at "x"
  obtain ⟨x, ex, x0, x1⟩ : ∃ x, atI [D.int 0, D.int ov] u2 = some (.int x) ∧ 0 ≤ x ∧ x < 2 ^ w := by
    have hu : u2 = 0 ∨ u2 = 1 := by omega
    rcases hu with rfl | rfl
    · exact ⟨0, rfl, by decide, h2w⟩
    · exact ⟨ov, rfl, o0, o1⟩
  refine ⟨_, ex, ?_⟩
  walk_at "x"
  refine ⟨ms5, 2, rfl, hp5, by decide, by decide, fun u3 ms6 w0 w1 hp6 => ?_⟩
  walk_at "x"
  have cf : cut (intsD row) (some (j : Int)) none = intsD (row.drop j) := by
    rw [cut_from (by omega), Int.toNat_natCast]
    exact List.map_drop.symm
  have ct : cut (intsD row) none (some (j : Int)) = intsD (row.take j) := by
    rw [cut_to (by omega), Int.toNat_natCast]
    exact List.map_take.symm
  have cc : ∀ {a b : List Int}, intsD a ++ intsD b = intsD (a ++ b) := fun {a b} => (List.map_append).symm
  have c1 : ∀ {a : List Int} {x : Int}, intsD a ++ [D.int x] = intsD (a ++ [x]) := fun {a x} => map_snoc
  have lb : ∀ y, (row.take j ++ [y] ++ row.drop j).length ≤ 100 := fun y => by simp; omega
  have t29 : (2 : Int) ^ 29 = 536870912 := by decide
  refine ⟨fun z => ?_, fun z => ?_⟩
  · rw [ct, cf, c1, cc]
    refine ⟨by simp; omega, by simp; omega, ?_⟩
    walk_at "x"
    rw [ct, cf]
    refine ⟨fun _ => ?_, fun n => absurd z n⟩
    rw [c1, cc]
    refine ⟨by simp; omega, by simp; omega, ?_⟩
    exact law_r (kk := kk) rfl hw hf l0 l1 hp6 (lb _) (lb _) (not_fits (.inl (by omega))) (not_fits (.inl (by omega)))
  · rw [ct, cf, c1, cc]
    refine ⟨by simp; omega, by simp; omega, ?_⟩
    walk_at "x"
    rw [ct, cf]
    refine fun _ => ?_
    rw [c1, cc]
    refine ⟨by simp; omega, by simp; omega, ?_⟩
    exact law_r (kk := kk) rfl hw hf l0 l1 hp6 (lb _) (lb _) (not_fits (.inr (by omega))) (not_fits (.inr (by omega)))

/-! printed by gen.py: the text, the bodies as terms, the end -/
def topS (i : Nat) : Stmt := PySem.Challenge.pw_colonnade_k02_lanes.main.body.getD i (.Pass ⟨0, 0, 0, 0⟩)
abbrev s_lane_count : Stmt := topS 7
abbrev N_lane_count : List Str := ["width"]
theorem sc_lane_count : FnScope N_lane_count ["width"] (defScope s_lane_count) := ⟨rfl, rfl, rfl, by decide +kernel, rfl, by decide +kernel, by decide +kernel⟩
abbrev s_width_of : Stmt := topS 8
abbrev N_width_of : List Str := ["numbers", "width", "number"]
theorem sc_width_of : FnScope N_width_of ["numbers"] (defScope s_width_of) := ⟨rfl, rfl, rfl, by decide +kernel, rfl, by decide +kernel, by decide +kernel⟩
abbrev s_pack : Stmt := topS 9
abbrev N_pack : List Str := ["numbers", "width", "number", "many", "words", "start", "word", "lane"]
theorem sc_pack : FnScope N_pack ["numbers", "width"] (defScope s_pack) := ⟨rfl, rfl, rfl, by decide +kernel, rfl, by decide +kernel, by decide +kernel⟩
abbrev s_unpack : Stmt := topS 10
abbrev N_unpack : List Str := ["words", "width", "count", "many", "lowest", "lanes", "numbers", "word", "lane"]
theorem sc_unpack : FnScope N_unpack ["words", "width", "count"] (defScope s_unpack) := ⟨rfl, rfl, rfl, by decide +kernel, rfl, by decide +kernel, by decide +kernel⟩
abbrev s_lanes_below : Stmt := topS 11
abbrev N_lanes_below : List Str := ["word", "width", "bound", "many", "ones", "lane", "marks"]
theorem sc_lanes_below : FnScope N_lanes_below ["word", "width", "bound"] (defScope s_lanes_below) := ⟨rfl, rfl, rfl, by decide +kernel, rfl, by decide +kernel, by decide +kernel⟩
abbrev s_l_digits : Stmt := topS 13
abbrev N_l_digits : List Str := ["_law_script", "_law_cell"]
theorem sc_l_digits : FnScope N_l_digits ["_law_script"] (defScope s_l_digits) := ⟨rfl, rfl, rfl, by decide +kernel, rfl, by decide +kernel, by decide +kernel⟩
abbrev s_l_draw : Stmt := topS 14
abbrev N_l_draw : List Str := ["_law_pool", "_law_many", "_law_digit"]
theorem sc_l_draw : FnScope N_l_draw ["_law_pool", "_law_many"] (defScope s_l_draw) := ⟨rfl, rfl, rfl, by decide +kernel, rfl, by decide +kernel, by decide +kernel⟩
abbrev s_l_words : Stmt := topS 15
abbrev N_l_words : List Str := ["_law_row", "_law_width", "_law_many", "_law_base", "_law_words_here", "_law_start", "_law_word", "_law_number"]
theorem sc_l_words : FnScope N_l_words ["_law_row", "_law_width"] (defScope s_l_words) := ⟨rfl, rfl, rfl, by decide +kernel, rfl, by decide +kernel, by decide +kernel⟩
abbrev s_l_lanes : Stmt := topS 16
abbrev N_l_lanes : List Str := ["_law_word", "_law_width", "_law_base", "_law_lanes_here", "_law_k"]
theorem sc_l_lanes : FnScope N_l_lanes ["_law_word", "_law_width"] (defScope s_l_lanes) := ⟨rfl, rfl, rfl, by decide +kernel, rfl, by decide +kernel, by decide +kernel⟩
abbrev s_l_packed : Stmt := topS 17
abbrev N_l_packed : List Str := ["_law_words_here", "_law_width", "_law_count", "_law_row", "_law_word"]
theorem sc_l_packed : FnScope N_l_packed ["_law_words_here", "_law_width", "_law_count"] (defScope s_l_packed) := ⟨rfl, rfl, rfl, by decide +kernel, rfl, by decide +kernel, by decide +kernel⟩
abbrev s_l_int : Stmt := topS 18
abbrev N_l_int : List Str := ["_law_told", "_law_due"]
theorem sc_l_int : FnScope N_l_int ["_law_told", "_law_due"] (defScope s_l_int) := ⟨rfl, rfl, rfl, by decide +kernel, rfl, by decide +kernel, by decide +kernel⟩
abbrev s_l_ints : Stmt := topS 19
abbrev N_l_ints : List Str := ["_law_told", "_law_due", "_law_k"]
theorem sc_l_ints : FnScope N_l_ints ["_law_told", "_law_due"] (defScope s_l_ints) := ⟨rfl, rfl, rfl, by decide +kernel, rfl, by decide +kernel, by decide +kernel⟩
abbrev s_l_read : Stmt := topS 20
abbrev N_l_read : List Str := ["_law_words_here", "_law_width", "_law_count", "_law_handed", "_law_due", "e", "_law_told", "_law_kin"]
theorem sc_l_read : FnScope N_l_read ["_law_words_here", "_law_width", "_law_count"] (defScope s_l_read) := ⟨rfl, rfl, rfl, by decide +kernel, rfl, by decide +kernel, by decide +kernel⟩
abbrev s_l_unfit : Stmt := topS 21
abbrev N_l_unfit : List Str := ["_law_row", "_law_width", "_law_handed", "e", "_law_kin"]
theorem sc_l_unfit : FnScope N_l_unfit ["_law_row", "_law_width"] (defScope s_l_unfit) := ⟨rfl, rfl, rfl, by decide +kernel, rfl, by decide +kernel, by decide +kernel⟩
abbrev s_l_near : Stmt := topS 22
abbrev N_l_near : List Str := ["_law_pool", "_law_words_here", "_law_kind", "_law_at", "_law_turned", "_law_far", "_law_word", "_law_more"]
theorem sc_l_near : FnScope N_l_near ["_law_pool", "_law_words_here"] (defScope s_l_near) := ⟨rfl, rfl, rfl, by decide +kernel, rfl, by decide +kernel, by decide +kernel⟩
abbrev s_l_nothing : Stmt := topS 23
abbrev N_l_nothing : List Str := ["_law_width", "_law_words_here", "_law_count"]
theorem sc_l_nothing : FnScope N_l_nothing ["_law_width"] (defScope s_l_nothing) := ⟨rfl, rfl, rfl, by decide +kernel, rfl, by decide +kernel, by decide +kernel⟩
abbrev s_l_below : Stmt := topS 24
abbrev N_l_below : List Str := ["_law_word", "_law_width", "_law_bound", "_law_told", "_law_due", "_law_lane", "_law_one"]
theorem sc_l_below : FnScope N_l_below ["_law_word", "_law_width", "_law_bound"] (defScope s_l_below) := ⟨rfl, rfl, rfl, by decide +kernel, rfl, by decide +kernel, by decide +kernel⟩
abbrev s_l_widths : Stmt := topS 25
abbrev N_l_widths : List Str := ["_law_row", "_law_width", "_law_least", "_law_k", "_law_handed"]
theorem sc_l_widths : FnScope N_l_widths ["_law_row", "_law_width"] (defScope s_l_widths) := ⟨rfl, rfl, rfl, by decide +kernel, rfl, by decide +kernel, by decide +kernel⟩
abbrev s_l_drawn : Stmt := topS 26
abbrev N_l_drawn : List Str := ["_law_pool", "_law_size", "_law_row", "_law_k", "_law_kind"]
theorem sc_l_drawn : FnScope N_l_drawn ["_law_pool", "_law_size"] (defScope s_l_drawn) := ⟨rfl, rfl, rfl, by decide +kernel, rfl, by decide +kernel, by decide +kernel⟩
abbrev s_l_bounds : Stmt := topS 27
abbrev N_l_bounds : List Str := ["_law_pool", "_law_words_here", "_law_row", "_law_width", "_law_size", "_law_one", "_law_bounds_here", "_law_bound", "_law_word", "_law_k"]
theorem sc_l_bounds : FnScope N_l_bounds ["_law_pool", "_law_words_here", "_law_row", "_law_width"] (defScope s_l_bounds) := ⟨rfl, rfl, rfl, by decide +kernel, rfl, by decide +kernel, by decide +kernel⟩
abbrev s_law : Stmt := topS 28
abbrev N_law : List Str := ["_law_script", "_law_pool", "_law_width", "_law_size", "_law_row", "_law_at", "_law_over", "_law_low", "_law_bad", "_law_far", "_law_handed", "_law_words_here", "_law_told", "_law_other", "_law_count", "_law_some"]
theorem sc_law : FnScope N_law ["_law_script"] (defScope s_law) := ⟨rfl, rfl, rfl, by decide +kernel, rfl, by decide +kernel, by decide +kernel⟩
abbrev sI_1 : Stmt := methOf 0 (topS 2)
theorem scI_1 : FnScope ["self", "chain"] ["self", "chain"] (defScope sI_1) := ⟨rfl, rfl, rfl, by decide +kernel, rfl, by decide +kernel, by decide +kernel⟩
/-- what the top has written -/
structure Txt (K : PySem.W.Frag) (mg : Str → Option Value) : Type where
  f_lane_count : Addr
  d_lane_count : FuncData
  g_lane_count : mg "lane_count" = some (.ref f_lane_count)
  F_lane_count : Fun K "lane_count" "lane_count" s_lane_count f_lane_count d_lane_count
  b_lane_count : Binds K d_lane_count ["width"] []
  f_width_of : Addr
  d_width_of : FuncData
  g_width_of : mg "width_of" = some (.ref f_width_of)
  F_width_of : Fun K "width_of" "width_of" s_width_of f_width_of d_width_of
  b_width_of : Binds K d_width_of ["numbers"] []
  f_pack : Addr
  d_pack : FuncData
  g_pack : mg "pack" = some (.ref f_pack)
  F_pack : Fun K "pack" "pack" s_pack f_pack d_pack
  b_pack : Binds K d_pack ["numbers", "width"] []
  f_unpack : Addr
  d_unpack : FuncData
  g_unpack : mg "unpack" = some (.ref f_unpack)
  F_unpack : Fun K "unpack" "unpack" s_unpack f_unpack d_unpack
  b_unpack : Binds K d_unpack ["words", "width", "count"] []
  f_lanes_below : Addr
  d_lanes_below : FuncData
  g_lanes_below : mg "lanes_below" = some (.ref f_lanes_below)
  F_lanes_below : Fun K "lanes_below" "lanes_below" s_lanes_below f_lanes_below d_lanes_below
  b_lanes_below : Binds K d_lanes_below ["word", "width", "bound"] []
  f_l_digits : Addr
  d_l_digits : FuncData
  g_l_digits : mg "_law_digits" = some (.ref f_l_digits)
  F_l_digits : Fun K "_law_digits" "_law_digits" s_l_digits f_l_digits d_l_digits
  b_l_digits : Binds K d_l_digits ["_law_script"] []
  f_l_draw : Addr
  d_l_draw : FuncData
  g_l_draw : mg "_law_draw" = some (.ref f_l_draw)
  F_l_draw : Fun K "_law_draw" "_law_draw" s_l_draw f_l_draw d_l_draw
  b_l_draw : Binds K d_l_draw ["_law_pool", "_law_many"] []
  f_l_words : Addr
  d_l_words : FuncData
  g_l_words : mg "_law_words" = some (.ref f_l_words)
  F_l_words : Fun K "_law_words" "_law_words" s_l_words f_l_words d_l_words
  b_l_words : Binds K d_l_words ["_law_row", "_law_width"] []
  f_l_lanes : Addr
  d_l_lanes : FuncData
  g_l_lanes : mg "_law_lanes" = some (.ref f_l_lanes)
  F_l_lanes : Fun K "_law_lanes" "_law_lanes" s_l_lanes f_l_lanes d_l_lanes
  b_l_lanes : Binds K d_l_lanes ["_law_word", "_law_width"] []
  f_l_packed : Addr
  d_l_packed : FuncData
  g_l_packed : mg "_law_packed" = some (.ref f_l_packed)
  F_l_packed : Fun K "_law_packed" "_law_packed" s_l_packed f_l_packed d_l_packed
  b_l_packed : Binds K d_l_packed ["_law_words_here", "_law_width", "_law_count"] []
  f_l_int : Addr
  d_l_int : FuncData
  g_l_int : mg "_law_int" = some (.ref f_l_int)
  F_l_int : Fun K "_law_int" "_law_int" s_l_int f_l_int d_l_int
  b_l_int : Binds K d_l_int ["_law_told", "_law_due"] []
  f_l_ints : Addr
  d_l_ints : FuncData
  g_l_ints : mg "_law_ints" = some (.ref f_l_ints)
  F_l_ints : Fun K "_law_ints" "_law_ints" s_l_ints f_l_ints d_l_ints
  b_l_ints : Binds K d_l_ints ["_law_told", "_law_due"] []
  f_l_read : Addr
  d_l_read : FuncData
  g_l_read : mg "_law_read" = some (.ref f_l_read)
  F_l_read : Fun K "_law_read" "_law_read" s_l_read f_l_read d_l_read
  b_l_read : Binds K d_l_read ["_law_words_here", "_law_width", "_law_count"] []
  f_l_unfit : Addr
  d_l_unfit : FuncData
  g_l_unfit : mg "_law_unfit" = some (.ref f_l_unfit)
  F_l_unfit : Fun K "_law_unfit" "_law_unfit" s_l_unfit f_l_unfit d_l_unfit
  b_l_unfit : Binds K d_l_unfit ["_law_row", "_law_width"] []
  f_l_near : Addr
  d_l_near : FuncData
  g_l_near : mg "_law_near" = some (.ref f_l_near)
  F_l_near : Fun K "_law_near" "_law_near" s_l_near f_l_near d_l_near
  b_l_near : Binds K d_l_near ["_law_pool", "_law_words_here"] []
  f_l_nothing : Addr
  d_l_nothing : FuncData
  g_l_nothing : mg "_law_nothing" = some (.ref f_l_nothing)
  F_l_nothing : Fun K "_law_nothing" "_law_nothing" s_l_nothing f_l_nothing d_l_nothing
  b_l_nothing : Binds K d_l_nothing ["_law_width"] []
  f_l_below : Addr
  d_l_below : FuncData
  g_l_below : mg "_law_below" = some (.ref f_l_below)
  F_l_below : Fun K "_law_below" "_law_below" s_l_below f_l_below d_l_below
  b_l_below : Binds K d_l_below ["_law_word", "_law_width", "_law_bound"] []
  f_l_widths : Addr
  d_l_widths : FuncData
  g_l_widths : mg "_law_widths" = some (.ref f_l_widths)
  F_l_widths : Fun K "_law_widths" "_law_widths" s_l_widths f_l_widths d_l_widths
  b_l_widths : Binds K d_l_widths ["_law_row", "_law_width"] []
  f_l_drawn : Addr
  d_l_drawn : FuncData
  g_l_drawn : mg "_law_drawn" = some (.ref f_l_drawn)
  F_l_drawn : Fun K "_law_drawn" "_law_drawn" s_l_drawn f_l_drawn d_l_drawn
  b_l_drawn : Binds K d_l_drawn ["_law_pool", "_law_size"] []
  f_l_bounds : Addr
  d_l_bounds : FuncData
  g_l_bounds : mg "_law_bounds" = some (.ref f_l_bounds)
  F_l_bounds : Fun K "_law_bounds" "_law_bounds" s_l_bounds f_l_bounds d_l_bounds
  b_l_bounds : Binds K d_l_bounds ["_law_pool", "_law_words_here", "_law_row", "_law_width"] []
  f_law : Addr
  d_law : FuncData
  g_law : mg "law" = some (.ref f_law)
  F_law : Fun K "law" "law" s_law f_law d_law
  b_law : Binds K d_law ["_law_script"] []
  n_abs : mg "abs" = none
  n_all : mg "all" = none
  n_bool : mg "bool" = none
  n_enumerate : mg "enumerate" = none
  n_int : mg "int" = none
  n_isinstance : mg "isinstance" = none
  n_len : mg "len" = none
  n_list : mg "list" = none
  n_max : mg "max" = none
  n_range : mg "range" = none
  n_tuple : mg "tuple" = none
  t_MOST_NUMBER : Tok
  c_MOST_NUMBER : mg "MOST_NUMBER" = some (.int 536870911 t_MOST_NUMBER)
  t_WORD_BITS : Tok
  c_WORD_BITS : mg "WORD_BITS" = some (.int 60 t_WORD_BITS)
  ct : Nat → Addr
  gC_0 : mg "ColonnadeError" = some (.ref (ct 0))
  gC_1 : mg "Unfit" = some (.ref (ct 1))
  gC_2 : mg "BadCells" = some (.ref (ct 2))
  fI_1 : Addr
  dI_1 : FuncData
  FI_1 : Fun K "__init__" "Unfit.__init__" sI_1 fI_1 dI_1
  bi_1 : Binds K dI_1 ["self", "chain"] []
  e_1 : ErrC K mg "Unfit" (ct 1) fI_1
  nf_1_chain : PySem.W.findIn K (.ref (ct 1)) "chain" = some none
  q_2 : PySem.W.excIn K (ct 2) [.type "ValueError", .type "Exception", .type "BaseException", .type "object"] "ValueError.__new__" = true
  kc_2 : PySem.W.keepIn K (.ref (ct 2)) = true
  sb_2 : PySem.W.subIn K (.ref (ct 2)) (.type "BaseException") = some true
  ty_2 : PySem.W.typeIn K (.ref (ct 2)) = some (.type "type")
  hrd : ∀ (n : Nat) (f : Str), exRd n f = true → XfC K (ct n) ∧ PySem.W.findIn K (.ref (ct n)) f = some none
  hkit : ∀ (n t : Nat) (b : Bool), exKit n t = some b → ExcC K (ct n) ∧ PySem.W.kitOne K (.ref (ct n)) (.ref (ct t)) = some b
  hsub_0 : ∀ (n : Nat) (b : Bool), exSub_0 n = some b → PySem.W.exmOne K (.ref (ct n)) (.ref (ct 0)) = some b
  hsub_1 : ∀ (n : Nat) (b : Bool), exSub_1 n = some b → PySem.W.exmOne K (.ref (ct n)) (.ref (ct 1)) = some b
  hsub_2 : ∀ (n : Nat) (b : Bool), exSub_2 n = some b → PySem.W.exmOne K (.ref (ct n)) (.ref (ct 2)) = some b
section
variable {P : Program} {w : World} {K : PySem.W.Frag} {mg : Str → Option Value} {base : Heap}
theorem oki_1 (T : Txt K mg) : FnOk P w K mg base CX0 1 T.fI_1 T.dI_1 ["self", "chain"] (spI1 K "chain") :=
  T.FI_1.ok scI_1 (fun vs H Q E h => init1_len h) fun cdv A outer s H vs Q E hr h => ⟨_, pss_one (ps_ost (pv 0) (pv 1)), init1 h⟩
theorem ok_lane_count (T : Txt K mg) : FnOk P w K mg base CX0 1 T.f_lane_count T.d_lane_count ["width"] (spOf K 1 fs_lane_count) := by
  exact fn_ok (ds := ds_lane_count) T.F_lane_count sc_lane_count rfl (by decide) (fun B cdv A outer s H E hr => ⟨_, by exact (ss_one (s_ret (x_op op_fdiv od_fdiv (x_gint T.c_WORD_BITS) (x_op op_add od_add (xv 0) x_int))))⟩) pure_lane_count
theorem ok_l_digits (T : Txt K mg) : FnOk P w K mg base CX0 1 T.f_l_digits T.d_l_digits ["_law_script"] (spOf K 1 fs_l_digits) := by
  exact fn_ok (ds := ds_l_digits) T.F_l_digits sc_l_digits rfl (by decide) (fun B cdv A outer s H E hr => ⟨_, by exact (ss_one (s_ret (x_lc [("_law_cell", 1)] rfl sc_l_digits.nd (i_list (x_sl sl_list sd_list (xv 0) xo_none (xo_some x_int))) (blkOk_by (N := N_l_digits) (sc := defScope s_l_digits) (by decide +kernel)) (fun _ _ _ _ _ _ => by exact (g_name 1 sc_l_digits.nd)) (fun _ _ _ _ _ _ => by exact ts_nil) (fun _ _ _ _ _ _ => by exact (x_op op_mod (od_mod (K := K)) (x_cb call_abs (cd_abs (K := K)) T.n_abs (xa_cons (xv 1) xa_nil)) (x_op op_pow (od_pow (K := K)) x_int x_int))) (by decide))))⟩) pure_l_digits
theorem ok_l_draw (T : Txt K mg) : FnOk P w K mg base CX0 1 T.f_l_draw T.d_l_draw ["_law_pool", "_law_many"] (spOf K 2 fs_l_draw) := by
  exact fn_ok (ds := ds_l_draw) T.F_l_draw sc_l_draw rfl (by decide) (fun B cdv A outer s H E hr => ⟨_, by exact (ss_cons (s_if (t_cmp (op_eqD hr.units) od_eqD (xv 0) (x_lst xa_nil)) (ss_one (s_ret x_int)) ss_nil)
      (ss_cons (s_set 2 sc_l_draw.nd (x_op op_mod od_mod (x_ct call_int1 cd_int T.n_int (xa_cons (x_ix ix_list od_ixL (xv 0) x_int) xa_nil)) (xv 1)))
      (ss_cons (s_setI 0 (x_op op_fdivW od_fdivW (x_ix ix_list od_ixL (xv 0) x_int) (xv 1)) x_int)
      (ss_cons (s_if (t_cmp op_eq od_eq (x_ix ix_list od_ixL (xv 0) x_int) x_int) (ss_one (s_expr (x_mut (fun h => pe_bm PySem.F.plainAttrs_list PySem.F.slot_list_pop PySem.F.type_list_pop mt_popAt (pv 0) h) md_popAt (xa_cons x_int xa_nil)))) ss_nil)
      (ss_one (s_ret (xvM 2)))))))⟩) pure_l_draw
theorem ok_l_words (T : Txt K mg) : FnOk P w K mg base CX0 1 T.f_l_words T.d_l_words ["_law_row", "_law_width"] (spOf K 2 fs_l_words) := by
  exact fn_ok (ds := ds_l_words) T.F_l_words sc_l_words rfl (by decide) (fun B cdv A outer s H E hr => ⟨_, by exact (ss_cons (s_set 2 sc_l_words.nd (x_op op_fdivW od_fdivW x_int (x_op op_add od_add (xv 1) x_int)))
      (ss_cons (s_set 3 sc_l_words.nd (x_op op_shl od_shl x_int (xv 1)))
      (ss_cons (s_set 4 sc_l_words.nd (x_lst xa_nil))
      (ss_cons (s_for PassesOwn.never rfl (i_r3 T.n_range (xa_cons x_int (xa_cons (x_cb call_len_seq cd_len T.n_len (xa_cons (xv 0) xa_nil)) (xa_cons (xvV 2) xa_nil)))) (g_name 5 sc_l_words.nd) (ss_cons (s_set 6 sc_l_words.nd x_int)
      (ss_cons (s_for PassesOwn.never rfl (i_list (x_revL (x_sl sl_list sd_list (xv 0) (xo_some (xv 5)) (xo_some (x_op op_add od_add (xv 5) (xv 2)))))) (g_name 7 sc_l_words.nd) (ss_one (s_set 6 sc_l_words.nd (x_op op_add od_add (x_op op_mulW od_mulW (xv 6) (xv 3)) (xv 7)))))
      (ss_one (s_expr (x_mut (fun h => pe_bm PySem.F.plainAttrs_list PySem.F.slot_list_append PySem.F.type_list_append mt_append (pv 4) h) md_append (xa_cons (xvV 6) xa_nil)))))))
      (ss_one (s_ret (xvM 4)))))))⟩) pure_l_words
theorem ok_l_lanes (T : Txt K mg) : FnOk P w K mg base CX0 1 T.f_l_lanes T.d_l_lanes ["_law_word", "_law_width"] (spOf K 2 fs_l_lanes) := by
  exact fn_ok (ds := ds_l_lanes) T.F_l_lanes sc_l_lanes rfl (by decide) (fun B cdv A outer s H E hr => ⟨_, by exact (ss_cons (s_set 2 sc_l_lanes.nd (x_op op_shl od_shl x_int (xv 1)))
      (ss_cons (s_set 3 sc_l_lanes.nd (x_lst xa_nil))
      (ss_cons (s_for PassesOwn.never rfl (i_r1 T.n_range (xa_cons (x_op op_fdivW od_fdivW x_int (x_op op_add od_add (xv 1) x_int)) xa_nil)) (g_name 4 sc_l_lanes.nd) (ss_cons (s_expr (x_mut (fun h => pe_bm PySem.F.plainAttrs_list PySem.F.slot_list_append PySem.F.type_list_append mt_append (pv 3) h) md_append (xa_cons (x_op op_mod od_mod (x_ct call_int1 cd_int T.n_int (xa_cons (xv 0) xa_nil)) (xv 2)) xa_nil)))
      (ss_one (s_set 0 sc_l_lanes.nd (x_op op_fdivW od_fdivW (xv 0) (xv 2))))))
      (ss_one (s_ret (xvM 3))))))⟩) pure_l_lanes
theorem ok_l_int (T : Txt K mg) : FnOk P w K mg base CX0 1 T.f_l_int T.d_l_int ["_law_told", "_law_due"] (spOf K 2 fs_l_int) := by
  exact fn_ok (ds := ds_l_int) T.F_l_int sc_l_int rfl (by decide) (fun B cdv A outer s H E hr => ⟨_, by exact (ss_one (s_ret (x_and (x_cb call_isi cd_isi T.n_isinstance (xa_cons (xv 0) (xa_cons (x_bty T.n_int) xa_nil))) (x_and (x_not (x_cb call_isi cd_isi T.n_isinstance (xa_cons (xv 0) (xa_cons (x_bty T.n_bool) xa_nil)))) (x_one (x_cmp op_eq od_eq (xv 0) (xv 1)))))))⟩) pure_l_int
theorem ok_lanes_below (T : Txt K mg) : FnOk P w K mg base CX0 2 T.f_lanes_below T.d_lanes_below ["word", "width", "bound"] (spOf K 3 fs_lanes_below) := by
  have G_lane_count := ok_lane_count (P := P) (w := w) (base := base) T
  exact fn_ok (ds := ds_lanes_below) T.F_lanes_below sc_lanes_below rfl (by decide) (fun B cdv A outer s H E hr => ⟨_, by exact (ss_cons (s_set 3 sc_lanes_below.nd (x_call G_lane_count (hr.mono (by decide)) T.g_lane_count T.F_lane_count.kp T.b_lane_count (xa_cons (xvV 1) xa_nil)))
      (ss_cons (s_set 4 sc_lanes_below.nd x_int)
      (ss_cons (s_for PassesOwn.never rfl (i_r1 T.n_range (xa_cons (xvV 3) xa_nil)) (g_name 5 sc_lanes_below.nd) (ss_one (s_set 4 sc_lanes_below.nd (x_op op_or od_bit (xv 4) (x_op op_shl od_shl x_int (x_op op_mul od_mul (xv 5) (x_op op_add od_add (xv 1) x_int)))))))
      (ss_cons (s_set 6 sc_lanes_below.nd (x_op op_sub od_sub (x_op op_mul od_mul (xv 4) (x_op op_sub od_sub (x_op op_add od_add (xv 2) (x_op op_shl od_shl x_int (xv 1))) x_int)) (xv 0)))
      (ss_one (s_ret (x_ct call_tuple_of cd_tuple T.n_tuple (xa_cons (x_lc [("lane", 5)] rfl sc_lanes_below.nd (i_r1 T.n_range (xa_cons (xvV 3) xa_nil)) (blkOk_by (N := N_lanes_below) (sc := defScope s_lanes_below) (by decide +kernel)) (fun _ _ _ _ _ _ => by exact (g_name 5 sc_lanes_below.nd)) (fun _ _ _ _ _ _ => by exact ts_nil) (fun _ _ _ _ _ _ => by exact (x_cmp op_eq (od_eq (K := K)) (x_op op_and (od_bit (K := K)) (x_op op_shr (od_shr (K := K)) (xv 6) (x_op op_add (od_add (K := K)) (x_op op_mul (od_mul (K := K)) (xv 5) (x_op op_add (od_add (K := K)) (xv 1) x_int)) (xv 1))) x_int) x_int)) (by decide)) xa_nil))))))))⟩) pure_lanes_below
theorem ok_l_packed (T : Txt K mg) : FnOk P w K mg base CX0 2 T.f_l_packed T.d_l_packed ["_law_words_here", "_law_width", "_law_count"] (spOf K 3 fs_l_packed) := by
  have G_l_lanes := ok_l_lanes (P := P) (w := w) (base := base) T
  have G_l_words := ok_l_words (P := P) (w := w) (base := base) T
  exact fn_ok (ds := ds_l_packed) T.F_l_packed sc_l_packed rfl (by decide) (fun B cdv A outer s H E hr => ⟨_, by exact (ss_cons (s_set 3 sc_l_packed.nd (x_lst xa_nil))
      (ss_cons (s_for PassesOwn.never rfl (i_list (xvV 0)) (g_name 4 sc_l_packed.nd) (ss_one (s_set 3 sc_l_packed.nd (x_op op_cat od_cat (xv 3) (x_call G_l_lanes (hr.mono (by decide)) T.g_l_lanes T.F_l_lanes.kp T.b_l_lanes (xa_cons (xvV 4) (xa_cons (xvV 1) xa_nil)))))))
      (ss_cons (s_set 3 sc_l_packed.nd (x_sl sl_list sd_list (xv 3) xo_none (xo_some (xv 2))))
      (ss_cons (s_if (t_w (w_or (t_cmp op_lt od_lt (x_cb call_len_seq cd_len T.n_len (xa_cons (xv 3) xa_nil)) (xv 2)) (w_or1 (t_cmp op_ge od_ge (x_cb (cr_max rfl) cd_max T.n_max (xa_cons (x_op op_cat od_cat (xv 3) (x_lst (xa_cons x_int xa_nil))) xa_nil)) (x_op op_shl od_shl x_int (xv 1)))))) (ss_one (s_ret (x_lst xa_nil))) ss_nil)
      (ss_one (s_ret (x_if (t_cmp (op_eqD hr.units) od_eqD (x_callL K rfl G_l_words (hr.mono (by decide)) T.g_l_words T.F_l_words.kp T.b_l_words (xa_cons (xv 3) (xa_cons (xv 1) xa_nil))) (xv 0)) (xvV 3) (x_lst xa_nil))))))))⟩) pure_l_packed
theorem ok_l_ints (T : Txt K mg) : FnOk P w K mg base CX0 2 T.f_l_ints T.d_l_ints ["_law_told", "_law_due"] (spOf K 2 fs_l_ints) := by
  have G_l_int := ok_l_int (P := P) (w := w) (base := base) T
  exact fn_ok (ds := ds_l_ints) T.F_l_ints sc_l_ints rfl (by decide) (fun B cdv A outer s H E hr => ⟨_, by exact (ss_cons (s_if (t_w (w_or (t_not (t_val (x_cb call_isi cd_isi T.n_isinstance (xa_cons (xv 0) (xa_cons (x_bty T.n_list) xa_nil))))) (w_or1 (t_cmp op_ne od_ne (x_cb call_len_seq cd_len T.n_len (xa_cons (xv 0) xa_nil)) (x_cb call_len_seq cd_len T.n_len (xa_cons (xv 1) xa_nil)))))) (ss_one (s_ret x_bl)) ss_nil)
      (ss_one (s_ret (x_cb (cr_all rfl) cd_all T.n_all (xa_cons (x_lc [("_law_k", 2)] rfl sc_l_ints.nd (i_r1 T.n_range (xa_cons (x_cb call_len_seq cd_len T.n_len (xa_cons (xv 1) xa_nil)) xa_nil)) (blkOk_by (N := N_l_ints) (sc := defScope s_l_ints) (by decide +kernel)) (fun _ _ _ _ _ _ => by exact (g_name 2 sc_l_ints.nd)) (fun _ _ _ _ _ _ => by exact ts_nil) (fun _ _ _ _ _ _ => by exact (x_callC K rfl G_l_int (hr.mono (by decide)) T.g_l_int T.F_l_int.kp T.b_l_int (xa_cons (x_ix ix_list (od_ixL (K := K)) (xv 0) (xv 2)) (xa_cons (x_ix ix_list (od_ixL (K := K)) (xv 1) (xv 2)) xa_nil)))) (by decide)) xa_nil)))))⟩) pure_l_ints
theorem ok_l_near (T : Txt K mg) : FnOk P w K mg base CX0 2 T.f_l_near T.d_l_near ["_law_pool", "_law_words_here"] (spOf K 2 fs_l_near) := by
  have G_l_draw := ok_l_draw (P := P) (w := w) (base := base) T
  exact fn_ok (ds := ds_l_near) T.F_l_near sc_l_near rfl (by decide) (fun B cdv A outer s H E hr => ⟨_, by exact (ss_cons (s_set 2 sc_l_near.nd (x_call G_l_draw (hr.mono (by decide)) T.g_l_draw T.F_l_draw.kp T.b_l_draw (xa_cons (xv 0) (xa_cons x_int xa_nil))))
      (ss_cons (s_set 3 sc_l_near.nd (x_call G_l_draw (hr.mono (by decide)) T.g_l_draw T.F_l_draw.kp T.b_l_draw (xa_cons (xv 0) (xa_cons (x_cb call_len_seq cd_len T.n_len (xa_cons (xv 1) xa_nil)) xa_nil))))
      (ss_cons (s_if (t_w (w_or (t_cmp op_eq od_eq (xv 2) x_int) (w_or1 (t_cmp op_eq od_eq (xv 2) x_int)))) (ss_cons (s_set 4 sc_l_near.nd (x_op op_xor od_bit (x_ix ix_list od_ixL (xv 1) (xv 3)) (x_op op_shl od_shl x_int (x_call G_l_draw (hr.mono (by decide)) T.g_l_draw T.F_l_draw.kp T.b_l_draw (xa_cons (xv 0) (xa_cons x_int xa_nil))))))
      (ss_one (s_ret (x_op op_cat od_cat (x_op op_cat od_cat (x_sl sl_list sd_list (xv 1) xo_none (xo_some (xv 3))) (x_lst (xa_cons (xvV 4) xa_nil))) (x_sl sl_list sd_list (xv 1) (xo_some (x_op op_add od_add (xv 3) x_int)) xo_none))))) ss_nil)
      (ss_cons (s_if (t_cmp op_eq od_eq (xv 2) x_int) (ss_cons (s_set 5 sc_l_near.nd (x_op op_shl od_shl x_int (x_op op_add od_add x_int (x_call G_l_draw (hr.mono (by decide)) T.g_l_draw T.F_l_draw.kp T.b_l_draw (xa_cons (xv 0) (xa_cons x_int xa_nil))))))
      (ss_cons (s_set 6 sc_l_near.nd (x_ix ix_list od_ixL (xv 1) (xv 3)))
      (ss_cons (s_set 4 sc_l_near.nd (x_ix ix_list od_ixL (x_lst (xa_cons (x_op op_add od_add (xv 6) (xv 5)) (xa_cons (x_op op_sub od_sub (xv 6) (xv 5)) (xa_cons (x_op op_sub od_sub (x_un un_neg ud_neg x_int) (xv 6)) xa_nil)))) (x_call G_l_draw (hr.mono (by decide)) T.g_l_draw T.F_l_draw.kp T.b_l_draw (xa_cons (xv 0) (xa_cons x_int xa_nil)))))
      (ss_one (s_ret (x_op op_cat od_cat (x_op op_cat od_cat (x_sl sl_list sd_list (xv 1) xo_none (xo_some (xv 3))) (x_lst (xa_cons (xvV 4) xa_nil))) (x_sl sl_list sd_list (xv 1) (xo_some (x_op op_add od_add (xv 3) x_int)) xo_none))))))) ss_nil)
      (ss_cons (s_if (t_cmp op_eq od_eq (xv 2) x_int) (ss_cons (s_set 7 sc_l_near.nd (x_ix ix_list od_ixL (x_lst (xa_cons x_int (xa_cons (x_ix ix_list od_ixL (xv 1) (xv 3)) xa_nil))) (x_call G_l_draw (hr.mono (by decide)) T.g_l_draw T.F_l_draw.kp T.b_l_draw (xa_cons (xv 0) (xa_cons x_int xa_nil)))))
      (ss_cons (s_set 3 sc_l_near.nd (x_op op_add od_add (xv 3) (x_call G_l_draw (hr.mono (by decide)) T.g_l_draw T.F_l_draw.kp T.b_l_draw (xa_cons (xv 0) (xa_cons x_int xa_nil)))))
      (ss_one (s_ret (x_op op_cat od_cat (x_op op_cat od_cat (x_sl sl_list sd_list (xv 1) xo_none (xo_some (xv 3))) (x_lst (xa_cons (xvV 7) xa_nil))) (x_sl sl_list sd_list (xv 1) (xo_some (xv 3)) xo_none)))))) ss_nil)
      (ss_cons (s_if (t_w (w_and (t_cmp op_eq od_eq (xv 2) x_int) (w_and1 (t_cmp op_gt od_gt (x_cb call_len_seq cd_len T.n_len (xa_cons (xv 1) xa_nil)) x_int)))) (ss_one (s_ret (x_op op_cat od_cat (x_sl sl_list sd_list (xv 1) xo_none (xo_some (xv 3))) (x_sl sl_list sd_list (xv 1) (xo_some (x_op op_add od_add (xv 3) x_int)) xo_none)))) ss_nil)
      (ss_one (s_ret (x_op op_cat od_cat (x_sl sl_list sd_list (xv 1) (xo_some (xv 3)) xo_none) (x_sl sl_list sd_list (xv 1) xo_none (xo_some (xv 3))))))))))))⟩) pure_l_near
theorem ok_l_drawn (T : Txt K mg) : FnOk P w K mg base CX0 2 T.f_l_drawn T.d_l_drawn ["_law_pool", "_law_size"] (spOf K 2 fs_l_drawn) := by
  have G_l_draw := ok_l_draw (P := P) (w := w) (base := base) T
  exact fn_ok (ds := ds_l_drawn) T.F_l_drawn sc_l_drawn rfl (by decide) (fun B cdv A outer s H E hr => ⟨_, by exact (ss_cons (s_set 2 sc_l_drawn.nd (x_lst xa_nil))
      (ss_cons (s_for PassesOwn.never rfl (i_r1 T.n_range (xa_cons (x_op op_add od_add x_int (x_op op_mod od_mod (x_ct call_int1 cd_int T.n_int (xa_cons (x_op op_add od_add (x_call G_l_draw (hr.mono (by decide)) T.g_l_draw T.F_l_draw.kp T.b_l_draw (xa_cons (xv 0) (xa_cons x_int xa_nil))) x_int) xa_nil)) x_int)) xa_nil)) (g_name 3 sc_l_drawn.nd) (ss_cons (s_set 4 sc_l_drawn.nd (x_call G_l_draw (hr.mono (by decide)) T.g_l_draw T.F_l_draw.kp T.b_l_draw (xa_cons (xv 0) (xa_cons x_int xa_nil))))
      (ss_one (s_if (t_cmp op_eq od_eq (xv 4) x_int) (ss_one (s_expr (x_mut (fun h => pe_bm PySem.F.plainAttrs_list PySem.F.slot_list_append PySem.F.type_list_append mt_append (pv 2) h) md_append (xa_cons (x_op op_sub od_sub (xv 1) x_int) xa_nil)))) (ss_one (s_if (t_cmp op_eq od_eq (xv 4) x_int) (ss_one (s_expr (x_mut (fun h => pe_bm PySem.F.plainAttrs_list PySem.F.slot_list_append PySem.F.type_list_append mt_append (pv 2) h) md_append (xa_cons x_int xa_nil)))) (ss_one (s_expr (x_mut (fun h => pe_bm PySem.F.plainAttrs_list PySem.F.slot_list_append PySem.F.type_list_append mt_append (pv 2) h) md_append (xa_cons (x_op op_mod od_mod (x_ct call_int1 cd_int T.n_int (xa_cons (x_op op_add od_add (x_call G_l_draw (hr.mono (by decide)) T.g_l_draw T.F_l_draw.kp T.b_l_draw (xa_cons (xv 0) (xa_cons (xvV 1) xa_nil))) (xv 3)) xa_nil)) (xv 1)) xa_nil))))))))))
      (ss_one (s_ret (xvM 2)))))⟩) pure_l_drawn
theorem ok_width_of (T : Txt K mg) : FnOk P w K mg base (L2N.CX P w) 3 T.f_width_of T.d_width_of ["numbers"] (spOfX K T.ct 1 fs_width_of) := by
  exact fn_okX (ds := ds_width_of) T.F_width_of sc_width_of rfl (by decide) (fun B W xc cdv A outer s H E hr xo tk => ⟨_, by exact (ss_cons (s_set 1 sc_width_of.nd x_int)
      (ss_cons (s_for (passes_of rfl) rfl (i_list (xvV 0)) (g_name 2 sc_width_of.nd) (ss_cons (s_if (t_not (t_chain op_le op_le od_le od_le x_int (xv 2) (x_gint T.c_MOST_NUMBER))) (ss_one (s_raise1 (nm := 1) rfl xo tk T.e_1 T.nf_1_chain (oki_1 (P := P) (w := w) (base := base) T) (hr.mono (by decide)) T.bi_1 (xa_cons x_str xa_nil))) ss_nil)
      (ss_one (s_set 1 sc_width_of.nd (x_cb (call_max2 rfl) cd_I2 T.n_max (xa_cons (xv 1) (xa_cons (x_bits (xv 2)) xa_nil)))))))
      (ss_one (s_ret (xvM 1)))))⟩) pure_width_of
theorem ok_pack (T : Txt K mg) : FnOk P w K mg base (L2N.CX P w) 3 T.f_pack T.d_pack ["numbers", "width"] (spOfX K T.ct 2 fs_pack) := by
  have G_lane_count := ok_lane_count (P := P) (w := w) (base := base) T
  exact fn_okX (ds := ds_pack) T.F_pack sc_pack rfl (by decide) (fun B W xc cdv A outer s H E hr xo tk => ⟨_, by exact (ss_cons (s_for (passes_of rfl) rfl (i_list (xvV 0)) (g_name 2 sc_pack.nd) (ss_one (s_if (t_not (t_chain op_le op_lt od_le od_lt x_int (xv 2) (x_op op_shl od_shl x_int (xv 1)))) (ss_one (s_raise1 (nm := 1) rfl xo tk T.e_1 T.nf_1_chain (oki_1 (P := P) (w := w) (base := base) T) (hr.mono (by decide)) T.bi_1 (xa_cons x_str xa_nil))) ss_nil)))
      (ss_cons (s_set 3 sc_pack.nd (x_call G_lane_count (hr.mono (by decide)) T.g_lane_count T.F_lane_count.kp T.b_lane_count (xa_cons (xvV 1) xa_nil)))
      (ss_cons (s_set 4 sc_pack.nd (x_lst xa_nil))
      (ss_cons (s_for (passes_of rfl) rfl (i_r3 T.n_range (xa_cons x_int (xa_cons (x_cb call_len_seq cd_len T.n_len (xa_cons (xv 0) xa_nil)) (xa_cons (xvV 3) xa_nil)))) (g_name 5 sc_pack.nd) (ss_cons (s_set 6 sc_pack.nd x_int)
      (ss_cons (s_for (passes_of rfl) rfl (i_enum T.n_enumerate (xa_cons (x_sl sl_list sd_list (xv 0) (xo_some (xv 5)) (xo_some (x_op op_add od_add (xv 5) (xv 3)))) xa_nil)) (g_tup rfl (gs_cons (g_name 7 sc_pack.nd) (gs_cons (g_name 2 sc_pack.nd) gs_nil))) (ss_one (s_set 6 sc_pack.nd (x_op op_or od_bit (xv 6) (x_op op_shl od_shl (xv 2) (x_op op_mul od_mul (xv 7) (x_op op_add od_add (xv 1) x_int)))))))
      (ss_one (s_expr (x_mut (fun h => pe_bm PySem.F.plainAttrs_list PySem.F.slot_list_append PySem.F.type_list_append mt_append (pv 4) h) md_append (xa_cons (xvV 6) xa_nil)))))))
      (ss_one (s_ret (xvM 4)))))))⟩) pure_pack
theorem ok_l_below (T : Txt K mg) : FnOk P w K mg base CX0 3 T.f_l_below T.d_l_below ["_law_word", "_law_width", "_law_bound"] (spOf K 3 fs_l_below) := by
  have G_l_lanes := ok_l_lanes (P := P) (w := w) (base := base) T
  have G_lanes_below := ok_lanes_below (P := P) (w := w) (base := base) T
  exact fn_ok (ds := ds_l_below) T.F_l_below sc_l_below rfl (by decide) (fun B cdv A outer s H E hr => ⟨_, by exact (ss_cons (s_set 3 sc_l_below.nd (x_call G_lanes_below (hr.mono (by decide)) T.g_lanes_below T.F_lanes_below.kp T.b_lanes_below (xa_cons (xvV 0) (xa_cons (xvV 1) (xa_cons (xvV 2) xa_nil)))))
      (ss_cons (s_setLc 4 [("_law_lane", 5)] rfl sc_l_below.nd (i_list (x_call G_l_lanes (hr.mono (by decide)) T.g_l_lanes T.F_l_lanes.kp T.b_l_lanes (xa_cons (xvV 0) (xa_cons (xvV 1) xa_nil)))) (blkOk_by (N := N_l_below) (sc := defScope s_l_below) (by decide +kernel)) (fun _ _ _ _ _ _ => by exact (g_name 5 sc_l_below.nd)) (fun _ _ _ _ _ _ => by exact ts_nil) (fun _ _ _ _ _ _ => by exact (x_cmp op_lt (od_lt (K := K)) (xv 5) (xv 2))) (by decide) (sw_true rfl rfl rfl (by decide +kernel)))
      (ss_cons (s_if (t_w (w_or (t_not (t_val (x_cb call_isi cd_isi T.n_isinstance (xa_cons (xv 3) (xa_cons (x_bty T.n_tuple) xa_nil))))) (w_or1 (t_cmp (op_neD hr.units) od_neD (x_ct call_list_of cd_list T.n_list (xa_cons (xv 3) xa_nil)) (xv 4))))) (ss_one (s_ret x_bl)) ss_nil)
      (ss_one (s_ret (x_cb (cr_all rfl) cd_all T.n_all (xa_cons (x_lc [("_law_one", 6)] rfl sc_l_below.nd (i_tup (xvV 3)) (blkOk_by (N := N_l_below) (sc := defScope s_l_below) (by decide +kernel)) (fun _ _ _ _ _ _ => by exact (g_name 6 sc_l_below.nd)) (fun _ _ _ _ _ _ => by exact ts_nil) (fun _ _ _ _ _ _ => by exact (x_cb call_isi (cd_isi (K := K)) T.n_isinstance (xa_cons (xv 6) (xa_cons (x_bty T.n_bool) xa_nil)))) (by decide)) xa_nil)))))))⟩) pure_l_below
theorem ok_unpack (T : Txt K mg) : FnOk P w K mg base (L2N.CX P w) 4 T.f_unpack T.d_unpack ["words", "width", "count"] (spOfX K T.ct 3 fs_unpack) := by
  have G_lane_count := ok_lane_count (P := P) (w := w) (base := base) T
  have G_pack := ok_pack (P := P) (w := w) (base := base) T
  exact fn_okX (ds := ds_unpack) T.F_unpack sc_unpack rfl (by decide) (fun B W xc cdv A outer s H E hr xo tk => ⟨_, by exact (ss_cons (s_set 3 sc_unpack.nd (x_call G_lane_count (hr.mono (by decide)) T.g_lane_count T.F_lane_count.kp T.b_lane_count (xa_cons (xvV 1) xa_nil)))
      (ss_cons (s_if (t_cmp op_ne od_ne (x_cb call_len_seq cd_len T.n_len (xa_cons (xv 0) xa_nil)) (x_op op_fdiv od_fdiv (x_op op_sub od_sub (x_op op_add od_add (xv 2) (xv 3)) x_int) (xv 3))) (ss_one (s_raise0 (nm := 2) rfl xo tk PySem.F.excBase_ValueError T.q_2 T.gC_2 T.kc_2 (raises_own T.sb_2 T.ty_2))) ss_nil)
      (ss_cons (s_set 4 sc_unpack.nd (x_op op_sub od_sub (x_op op_shl od_shl x_int (xv 1)) x_int))
      (ss_cons (s_setLc2 5 [("word", 7), ("lane", 8)] [8] rfl sc_unpack.nd (i_list (xvV 0)) (blkOk_by (N := N_unpack) (sc := defScope s_unpack) (by decide +kernel)) (fun _ _ _ _ _ _ => by exact (g_name 7 sc_unpack.nd)) (fun _ _ _ _ _ _ => by exact ts_nil) (fun _ _ _ _ _ _ => by exact (i_r1 T.n_range (xa_cons (xvV 3) xa_nil))) (fun _ _ _ _ _ _ => by exact (g_name 8 sc_unpack.nd)) (fun _ _ _ _ _ _ => by exact ts_nil) (fun _ _ _ _ _ _ => by exact (x_op op_and (od_bit (K := K)) (x_op op_shr (od_shr (K := K)) (xv 7) (x_op op_mul (od_mul (K := K)) (xv 8) (x_op op_add (od_add (K := K)) (xv 1) x_int))) (xv 4))) (by decide) (by decide) (by decide) (sw_true rfl rfl rfl (by decide +kernel)))
      (ss_cons (s_set 6 sc_unpack.nd (x_sl sl_list sd_list (xv 5) xo_none (xo_some (xv 2))))
      (ss_cons (s_if (t_cmp (op_neD hr.units) od_neD (x_callLX K rfl G_pack (hr.mono (by decide)) T.g_pack T.F_pack.kp T.b_pack (xa_cons (xv 6) (xa_cons (xv 1) xa_nil))) (x_ct call_list_of cd_list T.n_list (xa_cons (xv 0) xa_nil))) (ss_one (s_raise0 (nm := 2) rfl xo tk PySem.F.excBase_ValueError T.q_2 T.gC_2 T.kc_2 (raises_own T.sb_2 T.ty_2))) ss_nil)
      (ss_one (s_ret (xvM 6)))))))))⟩) pure_unpack
theorem ok_l_unfit (T : Txt K mg) : FnOk P w K mg base CX0 4 T.f_l_unfit T.d_l_unfit ["_law_row", "_law_width"] (spOf K 2 fs_l_unfit) := by
  have G_pack := ok_pack (P := P) (w := w) (base := base) T
  have G_width_of := ok_width_of (P := P) (w := w) (base := base) T
  exact fn_ok (ds := ds_l_unfit) T.F_l_unfit sc_l_unfit rfl (by decide) (fun B cdv A outer s H E hr => ⟨_, by exact (ss_cons (s_set 2 sc_l_unfit.nd (x_ct call_list_of cd_list T.n_list (xa_cons (xv 0) xa_nil)))
      (ss_cons (s_try_as (ct := T.ct) 3 sc_l_unfit.nd ⟨rfl, by decide, .inl T.gC_1⟩ (fun _ _ _ _ _ _ _ _ _ h => h) takesN T.hsub_1 (fun B W xc pn xe xo tk po => by exact (ss_one (s_if (t_cmp op_eq (od_eq (K := K)) (xv 1) x_int) (ss_one (s_expr (x_callXC K rfl xo tk G_width_of (hr.mono (by decide)) T.g_width_of T.F_width_of.kp T.b_width_of (xa_cons (xvV 2) xa_nil)))) (ss_one (s_expr (x_callXC K rfl xo tk G_pack (hr.mono (by decide)) T.g_pack T.F_pack.kp T.b_pack (xa_cons (xvV 2) (xa_cons (xvV 1) xa_nil)))))))) (fun B a oe cls d pn nm fs hz hf hcls xd => by exact (ss_cons (s_set 4 sc_l_unfit.nd (x_and (x_isE (tn := 0) 3 hz hf hcls xd T.hkit T.n_isinstance T.gC_0) (x_one (x_not (x_isE (tn := 2) 3 hz hf hcls xd T.hkit T.n_isinstance T.gC_2)))))
      (ss_one (s_ret (x_and (xv 4) (x_and (x_cmp op_eq (od_eq (K := K)) (x_xf 3 hz hf hcls xd T.hrd) x_str) (x_one (x_cmp (op_eqD hr.units) (od_eqD (K := K)) (xv 2) (xv 0))))))))))
      (ss_one (s_ret x_bl))))⟩) pure_l_unfit
theorem ok_l_widths (T : Txt K mg) : FnOk P w K mg base CX0 4 T.f_l_widths T.d_l_widths ["_law_row", "_law_width"] (spOf K 2 fs_l_widths) := by
  have G_l_int := ok_l_int (P := P) (w := w) (base := base) T
  have G_lane_count := ok_lane_count (P := P) (w := w) (base := base) T
  have G_width_of := ok_width_of (P := P) (w := w) (base := base) T
  exact fn_ok (ds := ds_l_widths) T.F_l_widths sc_l_widths rfl (by decide) (fun B cdv A outer s H E hr => ⟨_, by exact (ss_cons (s_set 2 sc_l_widths.nd x_int)
      (ss_cons (s_for PassesOwn.never rfl (i_r2 T.n_range (xa_cons x_int (xa_cons x_int xa_nil))) (g_name 3 sc_l_widths.nd) (ss_one (s_if (t_cmp op_ge od_ge (x_cb (cr_max rfl) cd_max T.n_max (xa_cons (xv 0) xa_nil)) (x_op op_shl od_shl x_int (xv 3))) (ss_one (s_set 2 sc_l_widths.nd (x_op op_add od_add (xv 3) x_int))) ss_nil)))
      (ss_cons (s_set 4 sc_l_widths.nd (x_ct call_list_of cd_list T.n_list (xa_cons (xv 0) xa_nil)))
      (ss_cons (s_if (t_w (w_or (t_not (t_val (x_call G_l_int (hr.mono (by decide)) T.g_l_int T.F_l_int.kp T.b_l_int (xa_cons (x_callLX K rfl G_width_of (hr.mono (by decide)) T.g_width_of T.F_width_of.kp T.b_width_of (xa_cons (xv 4) xa_nil)) (xa_cons (xvV 2) xa_nil))))) (w_or1 (t_cmp (op_neD hr.units) od_neD (xv 4) (xv 0))))) (ss_one (s_ret x_bl)) ss_nil)
      (ss_one (s_ret (x_and (x_call G_l_int (hr.mono (by decide)) T.g_l_int T.F_l_int.kp T.b_l_int (xa_cons (x_callLX K rfl G_width_of (hr.mono (by decide)) T.g_width_of T.F_width_of.kp T.b_width_of (xa_cons (x_lst xa_nil) xa_nil)) (xa_cons x_int xa_nil))) (x_one (x_call G_l_int (hr.mono (by decide)) T.g_l_int T.F_l_int.kp T.b_l_int (xa_cons (x_call G_lane_count (hr.mono (by decide)) T.g_lane_count T.F_lane_count.kp T.b_lane_count (xa_cons (xvV 1) xa_nil)) (xa_cons (x_op op_fdiv od_fdiv x_int (x_op op_add od_add (xv 1) x_int)) xa_nil)))))))))))⟩) pure_l_widths
theorem ok_l_bounds (T : Txt K mg) : FnOk P w K mg base CX0 4 T.f_l_bounds T.d_l_bounds ["_law_pool", "_law_words_here", "_law_row", "_law_width"] (spOf K 4 fs_l_bounds) := by
  have G_l_below := ok_l_below (P := P) (w := w) (base := base) T
  have G_l_draw := ok_l_draw (P := P) (w := w) (base := base) T
  exact fn_ok (ds := ds_l_bounds) T.F_l_bounds sc_l_bounds rfl (by decide) (fun B cdv A outer s H E hr => ⟨_, by exact (ss_cons (s_set 4 sc_l_bounds.nd (x_op op_shl od_shl x_int (xv 3)))
      (ss_cons (s_set 5 sc_l_bounds.nd (x_ix ix_list od_ixL (xv 2) (x_call G_l_draw (hr.mono (by decide)) T.g_l_draw T.F_l_draw.kp T.b_l_draw (xa_cons (xv 0) (xa_cons (x_cb call_len_seq cd_len T.n_len (xa_cons (xv 2) xa_nil)) xa_nil)))))
      (ss_cons (s_set 6 sc_l_bounds.nd (x_lst (xa_cons x_int (xa_cons (xvV 4) (xa_cons (xvV 5) (xa_cons (x_op op_add od_add (xv 5) x_int) (xa_cons (x_call G_l_draw (hr.mono (by decide)) T.g_l_draw T.F_l_draw.kp T.b_l_draw (xa_cons (xv 0) (xa_cons (xvV 4) xa_nil))) xa_nil)))))))
      (ss_cons (s_if (t_cmp op_lt od_lt (xv 3) x_int) (ss_one (s_setLc 6 [("_law_k", 9)] rfl sc_l_bounds.nd (i_r1 T.n_range (xa_cons (x_op op_add od_add (xv 4) x_int) xa_nil)) (blkOk_by (N := N_l_bounds) (sc := defScope s_l_bounds) (by decide +kernel)) (fun _ _ _ _ _ _ => by exact (g_name 9 sc_l_bounds.nd)) (fun _ _ _ _ _ _ => by exact ts_nil) (fun _ _ _ _ _ _ => by exact (xvV 9)) (by decide) (sw_true rfl rfl rfl (by decide +kernel)))) ss_nil)
      (ss_cons (s_for PassesOwn.never rfl (i_list (xvV 6)) (g_name 7 sc_l_bounds.nd) (ss_one (s_for PassesOwn.never rfl (i_list (xvV 1)) (g_name 8 sc_l_bounds.nd) (ss_one (s_if (t_not (t_val (x_call G_l_below (hr.mono (by decide)) T.g_l_below T.F_l_below.kp T.b_l_below (xa_cons (xvV 8) (xa_cons (xvV 3) (xa_cons (xvV 7) xa_nil)))))) (ss_one (s_ret x_bl)) ss_nil)))))
      (ss_one (s_ret x_bl)))))))⟩) pure_l_bounds
theorem ok_l_read (T : Txt K mg) : FnOk P w K mg base CX0 5 T.f_l_read T.d_l_read ["_law_words_here", "_law_width", "_law_count"] (spOf K 3 fs_l_read) := by
  have G_l_ints := ok_l_ints (P := P) (w := w) (base := base) T
  have G_l_packed := ok_l_packed (P := P) (w := w) (base := base) T
  have G_unpack := ok_unpack (P := P) (w := w) (base := base) T
  exact fn_ok (ds := ds_l_read) T.F_l_read sc_l_read rfl (by decide) (fun B cdv A outer s H E hr => ⟨_, by exact (ss_cons (s_set 3 sc_l_read.nd (x_ct call_list_of cd_list T.n_list (xa_cons (xv 0) xa_nil)))
      (ss_cons (s_set 4 sc_l_read.nd (x_call G_l_packed (hr.mono (by decide)) T.g_l_packed T.F_l_packed.kp T.b_l_packed (xa_cons (xvV 0) (xa_cons (xvV 1) (xa_cons (xvV 2) xa_nil)))))
      (ss_cons (s_try_as (ct := T.ct) 5 sc_l_read.nd ⟨rfl, by decide, .inl T.gC_2⟩ (fun _ _ _ _ _ _ _ _ _ h => h) takesN T.hsub_2 (fun B W xc pn xe xo tk po => by exact (ss_one (s_set 6 sc_l_read.nd (x_callXC K rfl xo tk G_unpack (hr.mono (by decide)) T.g_unpack T.F_unpack.kp T.b_unpack (xa_cons (xvV 3) (xa_cons (xvV 1) (xa_cons (xvV 2) xa_nil))))))) (fun B a oe cls d pn nm fs hz hf hcls xd => by exact (ss_cons (s_set 7 sc_l_read.nd (x_and (x_isE (tn := 0) 5 hz hf hcls xd T.hkit T.n_isinstance T.gC_0) (x_one (x_not (x_isE (tn := 1) 5 hz hf hcls xd T.hkit T.n_isinstance T.gC_1)))))
      (ss_one (s_ret (x_and (xv 7) (x_and (x_cmp (op_eqD hr.units) (od_eqD (K := K)) (xv 3) (xv 0)) (x_one (x_cmp (op_eqD hr.units) (od_eqD (K := K)) (xv 4) (x_lst xa_nil))))))))))
      (ss_cons (s_if (t_w (w_or (t_cmp (op_eqD hr.units) od_eqD (xv 4) (x_lst xa_nil)) (w_or (t_not (t_val (x_callL K rfl G_l_ints (hr.mono (by decide)) T.g_l_ints T.F_l_ints.kp T.b_l_ints (xa_cons (xv 6) (xa_cons (xv 4) xa_nil))))) (w_or1 (t_cmp (op_neD hr.units) od_neD (xv 3) (xv 0)))))) (ss_one (s_ret x_bl)) ss_nil)
      (ss_cons (s_expr (x_mut (fun h => pe_bm PySem.F.plainAttrs_list PySem.F.slot_list_append PySem.F.type_list_append mt_append (pv 6) h) md_append (xa_cons x_int xa_nil)))
      (ss_one (s_ret (x_callL K rfl G_l_ints (hr.mono (by decide)) T.g_l_ints T.F_l_ints.kp T.b_l_ints (xa_cons (x_callLX K rfl G_unpack (hr.mono (by decide)) T.g_unpack T.F_unpack.kp T.b_unpack (xa_cons (xv 3) (xa_cons (xv 1) (xa_cons (xv 2) xa_nil)))) (xa_cons (xv 4) xa_nil))))))))))⟩) pure_l_read
theorem ok_l_nothing (T : Txt K mg) : FnOk P w K mg base CX0 6 T.f_l_nothing T.d_l_nothing ["_law_width"] (spOf K 1 fs_l_nothing) := by
  have G_l_ints := ok_l_ints (P := P) (w := w) (base := base) T
  have G_l_read := ok_l_read (P := P) (w := w) (base := base) T
  have G_pack := ok_pack (P := P) (w := w) (base := base) T
  have G_unpack := ok_unpack (P := P) (w := w) (base := base) T
  exact fn_ok (ds := ds_l_nothing) T.F_l_nothing sc_l_nothing rfl (by decide) (fun B cdv A outer s H E hr => ⟨_, by exact (ss_cons (s_if (t_not (t_val (x_callL K rfl G_l_ints (hr.mono (by decide)) T.g_l_ints T.F_l_ints.kp T.b_l_ints (xa_cons (x_callLX K rfl G_pack (hr.mono (by decide)) T.g_pack T.F_pack.kp T.b_pack (xa_cons (x_lst xa_nil) (xa_cons (xv 0) xa_nil))) (xa_cons (x_lst xa_nil) xa_nil))))) (ss_one (s_ret x_bl)) ss_nil)
      (ss_cons (s_if (t_not (t_val (x_callL K rfl G_l_ints (hr.mono (by decide)) T.g_l_ints T.F_l_ints.kp T.b_l_ints (xa_cons (x_callLX K rfl G_unpack (hr.mono (by decide)) T.g_unpack T.F_unpack.kp T.b_unpack (xa_cons (x_lst xa_nil) (xa_cons (xv 0) (xa_cons x_int xa_nil)))) (xa_cons (x_lst xa_nil) xa_nil))))) (ss_one (s_ret x_bl)) ss_nil)
      (ss_cons (s_for PassesOwn.never rfl (i_list (x_lst (xa_cons (x_tup (xa_cons (x_lst (xa_cons x_int xa_nil)) (xa_cons x_int xa_nil))) (xa_cons (x_tup (xa_cons (x_lst xa_nil) (xa_cons x_int xa_nil))) (xa_cons (x_tup (xa_cons (x_lst (xa_cons x_int (xa_cons x_int xa_nil))) (xa_cons x_int xa_nil))) xa_nil))))) (g_tup rfl (gs_cons (g_name 1 sc_l_nothing.nd) (gs_cons (g_name 2 sc_l_nothing.nd) gs_nil))) (ss_one (s_if (t_not (t_val (x_callL K rfl G_l_read (hr.mono (by decide)) T.g_l_read T.F_l_read.kp T.b_l_read (xa_cons (xv 1) (xa_cons (xv 0) (xa_cons (xv 2) xa_nil)))))) (ss_one (s_ret x_bl)) ss_nil)))
      (ss_one (s_ret x_bl)))))⟩) pure_l_nothing
theorem ok_law (T : Txt K mg) : FnOk P w K mg base CX0 7 T.f_law T.d_law ["_law_script"] (spOf K 1 fs_law) := by
  have G_l_bounds := ok_l_bounds (P := P) (w := w) (base := base) T
  have G_l_digits := ok_l_digits (P := P) (w := w) (base := base) T
  have G_l_draw := ok_l_draw (P := P) (w := w) (base := base) T
  have G_l_drawn := ok_l_drawn (P := P) (w := w) (base := base) T
  have G_l_ints := ok_l_ints (P := P) (w := w) (base := base) T
  have G_l_near := ok_l_near (P := P) (w := w) (base := base) T
  have G_l_nothing := ok_l_nothing (P := P) (w := w) (base := base) T
  have G_l_read := ok_l_read (P := P) (w := w) (base := base) T
  have G_l_unfit := ok_l_unfit (P := P) (w := w) (base := base) T
  have G_l_widths := ok_l_widths (P := P) (w := w) (base := base) T
  have G_l_words := ok_l_words (P := P) (w := w) (base := base) T
  have G_pack := ok_pack (P := P) (w := w) (base := base) T
  exact fn_ok (ds := ds_law) T.F_law sc_law rfl (by decide) (fun B cdv A outer s H E hr => ⟨_, by exact (ss_cons (s_set 1 sc_law.nd (x_call G_l_digits (hr.mono (by decide)) T.g_l_digits T.F_l_digits.kp T.b_l_digits (xa_cons (xvV 0) xa_nil)))
      (ss_cons (s_set 2 sc_law.nd (x_op op_add od_add x_int (x_op op_mod od_mod (x_ct call_int1 cd_int T.n_int (xa_cons (x_op op_add od_add (x_call G_l_draw (hr.mono (by decide)) T.g_l_draw T.F_l_draw.kp T.b_l_draw (xa_cons (xv 1) (xa_cons x_int xa_nil))) x_int) xa_nil)) x_int)))
      (ss_cons (s_set 3 sc_law.nd (x_op op_shl od_shl x_int (xv 2)))
      (ss_cons (s_set 4 sc_law.nd (x_call G_l_drawn (hr.mono (by decide)) T.g_l_drawn T.F_l_drawn.kp T.b_l_drawn (xa_cons (xv 1) (xa_cons (xvV 3) xa_nil))))
      (ss_cons (s_set 5 sc_law.nd (x_call G_l_draw (hr.mono (by decide)) T.g_l_draw T.F_l_draw.kp T.b_l_draw (xa_cons (xv 1) (xa_cons (x_op op_add od_add (x_cb call_len_seq cd_len T.n_len (xa_cons (xv 4) xa_nil)) x_int) xa_nil))))
      (ss_cons (s_set 6 sc_law.nd (x_ix ix_list od_ixL (x_lst (xa_cons x_int (xa_cons (x_call G_l_draw (hr.mono (by decide)) T.g_l_draw T.F_l_draw.kp T.b_l_draw (xa_cons (xv 1) (xa_cons (xvV 3) xa_nil))) xa_nil))) (x_call G_l_draw (hr.mono (by decide)) T.g_l_draw T.F_l_draw.kp T.b_l_draw (xa_cons (xv 1) (xa_cons x_int xa_nil)))))
      (ss_cons (s_set 7 sc_law.nd (x_cmp op_eq od_eq (x_call G_l_draw (hr.mono (by decide)) T.g_l_draw T.F_l_draw.kp T.b_l_draw (xa_cons (xv 1) (xa_cons x_int xa_nil))) x_int))
      (ss_cons (s_set 8 sc_law.nd (x_op op_cat od_cat (x_op op_cat od_cat (x_sl sl_list sd_list (xv 4) xo_none (xo_some (xv 5))) (x_lst (xa_cons (x_if (t_val (xv 7)) (x_op op_sub od_sub (x_un un_neg ud_neg x_int) (xv 6)) (x_op op_add od_add (xv 3) (xv 6))) xa_nil))) (x_sl sl_list sd_list (xv 4) (xo_some (xv 5)) xo_none)))
      (ss_cons (s_set 9 sc_law.nd (x_op op_cat od_cat (x_op op_cat od_cat (x_sl sl_list sd_list (xv 4) xo_none (xo_some (xv 5))) (x_lst (xa_cons (x_if (t_val (xv 7)) (x_op op_sub od_sub (x_un un_neg ud_neg x_int) (xv 6)) (x_op op_add od_add x_int (xv 6))) xa_nil))) (x_sl sl_list sd_list (xv 4) (xo_some (xv 5)) xo_none)))
      (ss_cons (s_if (t_w (w_or (t_not (t_val (x_callL K rfl G_l_unfit (hr.mono (by decide)) T.g_l_unfit T.F_l_unfit.kp T.b_l_unfit (xa_cons (xv 8) (xa_cons (xv 2) xa_nil))))) (w_or1 (t_not (t_val (x_callL K rfl G_l_unfit (hr.mono (by decide)) T.g_l_unfit T.F_l_unfit.kp T.b_l_unfit (xa_cons (xv 9) (xa_cons x_int xa_nil)))))))) (ss_one (s_ret x_bl)) ss_nil)
      (ss_cons (s_set 10 sc_law.nd (x_ct call_list_of cd_list T.n_list (xa_cons (xv 4) xa_nil)))
      (ss_cons (s_set 11 sc_law.nd (x_callL K rfl G_l_words (hr.mono (by decide)) T.g_l_words T.F_l_words.kp T.b_l_words (xa_cons (xv 4) (xa_cons (xv 2) xa_nil))))
      (ss_cons (s_set 12 sc_law.nd (x_callLX K rfl G_pack (hr.mono (by decide)) T.g_pack T.F_pack.kp T.b_pack (xa_cons (xv 10) (xa_cons (xv 2) xa_nil))))
      (ss_cons (s_if (t_w (w_or (t_not (t_val (x_callL K rfl G_l_ints (hr.mono (by decide)) T.g_l_ints T.F_l_ints.kp T.b_l_ints (xa_cons (xv 12) (xa_cons (xv 11) xa_nil))))) (w_or1 (t_cmp (op_neD hr.units) od_neD (xv 10) (xv 4))))) (ss_one (s_ret x_bl)) ss_nil)
      (ss_cons (s_expr (x_mut (fun h => pe_bm PySem.F.plainAttrs_list PySem.F.slot_list_append PySem.F.type_list_append mt_append (pv 12) h) md_append (xa_cons x_int xa_nil)))
      (ss_cons (s_if (t_w (w_or (t_not (t_val (x_callL K rfl G_l_ints (hr.mono (by decide)) T.g_l_ints T.F_l_ints.kp T.b_l_ints (xa_cons (x_callLX K rfl G_pack (hr.mono (by decide)) T.g_pack T.F_pack.kp T.b_pack (xa_cons (xv 10) (xa_cons (xv 2) xa_nil))) (xa_cons (xv 11) xa_nil))))) (w_or1 (t_not (t_val (x_callL K rfl G_l_widths (hr.mono (by decide)) T.g_l_widths T.F_l_widths.kp T.b_l_widths (xa_cons (xv 4) (xa_cons (xv 2) xa_nil)))))))) (ss_one (s_ret x_bl)) ss_nil)
      (ss_cons (s_set 13 sc_law.nd (x_call G_l_near (hr.mono (by decide)) T.g_l_near T.F_l_near.kp T.b_l_near (xa_cons (xv 1) (xa_cons (xvV 11) xa_nil))))
      (ss_cons (s_for PassesOwn.never rfl (i_list (x_lst (xa_cons (x_cb call_len_seq cd_len T.n_len (xa_cons (xv 4) xa_nil)) (xa_cons (x_op op_add od_add x_int (x_call G_l_draw (hr.mono (by decide)) T.g_l_draw T.F_l_draw.kp T.b_l_draw (xa_cons (xv 1) (xa_cons (x_op op_add od_add (x_cb call_len_seq cd_len T.n_len (xa_cons (xv 4) xa_nil)) x_int) xa_nil)))) xa_nil)))) (g_name 14 sc_law.nd) (ss_one (s_for PassesOwn.never rfl (i_list (x_lst (xa_cons (xvV 11) (xa_cons (xvV 13) xa_nil)))) (g_name 15 sc_law.nd) (ss_one (s_if (t_not (t_val (x_callL K rfl G_l_read (hr.mono (by decide)) T.g_l_read T.F_l_read.kp T.b_l_read (xa_cons (xv 15) (xa_cons (xv 2) (xa_cons (xv 14) xa_nil)))))) (ss_one (s_ret x_bl)) ss_nil)))))
      (ss_cons (s_if (t_w (w_or (t_not (t_val (x_call G_l_bounds (hr.mono (by decide)) T.g_l_bounds T.F_l_bounds.kp T.b_l_bounds (xa_cons (xv 1) (xa_cons (xvV 11) (xa_cons (xvV 4) (xa_cons (xvV 2) xa_nil))))))) (w_or1 (t_not (t_val (x_call G_l_nothing (hr.mono (by decide)) T.g_l_nothing T.F_l_nothing.kp T.b_l_nothing (xa_cons (xvV 2) xa_nil))))))) (ss_one (s_ret x_bl)) ss_nil)
      (ss_one (s_ret (x_and (x_callL K rfl G_l_unfit (hr.mono (by decide)) T.g_l_unfit T.F_l_unfit.kp T.b_l_unfit (xa_cons (xv 8) (xa_cons (xv 2) xa_nil))) (x_one (x_callL K rfl G_l_unfit (hr.mono (by decide)) T.g_l_unfit T.F_l_unfit.kp T.b_l_unfit (xa_cons (xv 9) (xa_cons x_int xa_nil))))))))))))))))))))))))))⟩) pure_law
end
theorem all_mk {l : PySem.W.OpenLaw} {w : World} {K : PySem.W.Frag} {h : Heap} {mg : Str → Option Value} {fa f1 f2 f3 f4 f5 f6 f7 f8 f9 f10 f11 f12 f13 f14 f15 f16 f17 f18 f19 f20 f21 : Addr} (X : K.In h) (G : h.Ns mainGlobals mg) (hfa : mg "law" = some (.ref fa))
    {od1 an1 od2 an2 od3 an3 od4 an4 od5 an5 od6 an6 od7 an7 od8 an8 od9 an9 od10 an10 od11 an11 od12 an12 od13 an13 od14 an14 od15 an15 od16 an16 od17 an17 od18 an18 od19 an19 od20 an20 od21 an21 : Option Addr} {sl1 sl2 sl3 sl4 sl5 sl6 sl7 sl8 sl9 sl10 sl11 sl12 sl13 sl14 sl15 sl16 sl17 sl18 sl19 sl20 sl21 : Array (Option Value)} {oc1 kV1 dc1 pm1 cd1 ct1 oc2 kV2 dc2 pm2 cd2 ct2 oc3 kV3 dc3 pm3 cd3 ct3 oc4 kV4 dc4 pm4 cd4 ct4 oc5 kV5 dc5 pm5 cd5 ct5 oc6 kV6 dc6 pm6 cd6 ct6 oc7 kV7 dc7 pm7 cd7 ct7 oc8 kV8 dc8 pm8 cd8 ct8 oc9 kV9 dc9 pm9 cd9 ct9 oc10 kV10 dc10 pm10 cd10 ct10 oc11 kV11 dc11 pm11 cd11 ct11 oc12 kV12 dc12 pm12 cd12 ct12 oc13 kV13 dc13 pm13 cd13 ct13 oc14 kV14 dc14 pm14 cd14 ct14 oc15 kV15 dc15 pm15 cd15 ct15 oc16 kV16 dc16 pm16 cd16 ct16 oc17 kV17 dc17 pm17 cd17 ct17 oc18 kV18 dc18 pm18 cd18 ct18 oc19 kV19 dc19 pm19 cd19 ct19 oc20 kV20 dc20 pm20 cd20 ct20 oc21 kV21 dc21 pm21 cd21 ct21 : Value}
    {tkMOST_NUMBER tkWORD_BITS : Tok} (eMOST_NUMBER : PySem.W.nsIn K mainGlobals "MOST_NUMBER" = some (some (.int 536870911 tkMOST_NUMBER))) (eWORD_BITS : PySem.W.nsIn K mainGlobals "WORD_BITS" = some (some (.int 60 tkWORD_BITS)))
    (a1 : PySem.W.nsIn K mainGlobals "lane_count" = some (some (.ref f1))) (l1 : K.lookup f1 = some ⟨oc1, od1, .func (PySem.W.fnOf "lane_count" "lane_count" (defArgs s_lane_count) (defBody s_lane_count) (defScope s_lane_count) .none kV1 dc1 pm1 an1 cd1 ct1), sl1⟩) (c1 : PySem.W.codeIn K cd1 "lane_count" = true) (k1 : PySem.W.keepIn K (.ref f1) = true)
    (a2 : PySem.W.nsIn K mainGlobals "width_of" = some (some (.ref f2))) (l2 : K.lookup f2 = some ⟨oc2, od2, .func (PySem.W.fnOf "width_of" "width_of" (defArgs s_width_of) (defBody s_width_of) (defScope s_width_of) .none kV2 dc2 pm2 an2 cd2 ct2), sl2⟩) (c2 : PySem.W.codeIn K cd2 "width_of" = true) (k2 : PySem.W.keepIn K (.ref f2) = true)
    (a3 : PySem.W.nsIn K mainGlobals "pack" = some (some (.ref f3))) (l3 : K.lookup f3 = some ⟨oc3, od3, .func (PySem.W.fnOf "pack" "pack" (defArgs s_pack) (defBody s_pack) (defScope s_pack) .none kV3 dc3 pm3 an3 cd3 ct3), sl3⟩) (c3 : PySem.W.codeIn K cd3 "pack" = true) (k3 : PySem.W.keepIn K (.ref f3) = true)
    (a4 : PySem.W.nsIn K mainGlobals "unpack" = some (some (.ref f4))) (l4 : K.lookup f4 = some ⟨oc4, od4, .func (PySem.W.fnOf "unpack" "unpack" (defArgs s_unpack) (defBody s_unpack) (defScope s_unpack) .none kV4 dc4 pm4 an4 cd4 ct4), sl4⟩) (c4 : PySem.W.codeIn K cd4 "unpack" = true) (k4 : PySem.W.keepIn K (.ref f4) = true)
    (a5 : PySem.W.nsIn K mainGlobals "lanes_below" = some (some (.ref f5))) (l5 : K.lookup f5 = some ⟨oc5, od5, .func (PySem.W.fnOf "lanes_below" "lanes_below" (defArgs s_lanes_below) (defBody s_lanes_below) (defScope s_lanes_below) .none kV5 dc5 pm5 an5 cd5 ct5), sl5⟩) (c5 : PySem.W.codeIn K cd5 "lanes_below" = true) (k5 : PySem.W.keepIn K (.ref f5) = true)
    (a6 : PySem.W.nsIn K mainGlobals "_law_digits" = some (some (.ref f6))) (l6 : K.lookup f6 = some ⟨oc6, od6, .func (PySem.W.fnOf "_law_digits" "_law_digits" (defArgs s_l_digits) (defBody s_l_digits) (defScope s_l_digits) .none kV6 dc6 pm6 an6 cd6 ct6), sl6⟩) (c6 : PySem.W.codeIn K cd6 "_law_digits" = true) (k6 : PySem.W.keepIn K (.ref f6) = true)
    (a7 : PySem.W.nsIn K mainGlobals "_law_draw" = some (some (.ref f7))) (l7 : K.lookup f7 = some ⟨oc7, od7, .func (PySem.W.fnOf "_law_draw" "_law_draw" (defArgs s_l_draw) (defBody s_l_draw) (defScope s_l_draw) .none kV7 dc7 pm7 an7 cd7 ct7), sl7⟩) (c7 : PySem.W.codeIn K cd7 "_law_draw" = true) (k7 : PySem.W.keepIn K (.ref f7) = true)
    (a8 : PySem.W.nsIn K mainGlobals "_law_words" = some (some (.ref f8))) (l8 : K.lookup f8 = some ⟨oc8, od8, .func (PySem.W.fnOf "_law_words" "_law_words" (defArgs s_l_words) (defBody s_l_words) (defScope s_l_words) .none kV8 dc8 pm8 an8 cd8 ct8), sl8⟩) (c8 : PySem.W.codeIn K cd8 "_law_words" = true) (k8 : PySem.W.keepIn K (.ref f8) = true)
    (a9 : PySem.W.nsIn K mainGlobals "_law_lanes" = some (some (.ref f9))) (l9 : K.lookup f9 = some ⟨oc9, od9, .func (PySem.W.fnOf "_law_lanes" "_law_lanes" (defArgs s_l_lanes) (defBody s_l_lanes) (defScope s_l_lanes) .none kV9 dc9 pm9 an9 cd9 ct9), sl9⟩) (c9 : PySem.W.codeIn K cd9 "_law_lanes" = true) (k9 : PySem.W.keepIn K (.ref f9) = true)
    (a10 : PySem.W.nsIn K mainGlobals "_law_packed" = some (some (.ref f10))) (l10 : K.lookup f10 = some ⟨oc10, od10, .func (PySem.W.fnOf "_law_packed" "_law_packed" (defArgs s_l_packed) (defBody s_l_packed) (defScope s_l_packed) .none kV10 dc10 pm10 an10 cd10 ct10), sl10⟩) (c10 : PySem.W.codeIn K cd10 "_law_packed" = true) (k10 : PySem.W.keepIn K (.ref f10) = true)
    (a11 : PySem.W.nsIn K mainGlobals "_law_int" = some (some (.ref f11))) (l11 : K.lookup f11 = some ⟨oc11, od11, .func (PySem.W.fnOf "_law_int" "_law_int" (defArgs s_l_int) (defBody s_l_int) (defScope s_l_int) .none kV11 dc11 pm11 an11 cd11 ct11), sl11⟩) (c11 : PySem.W.codeIn K cd11 "_law_int" = true) (k11 : PySem.W.keepIn K (.ref f11) = true)
    (a12 : PySem.W.nsIn K mainGlobals "_law_ints" = some (some (.ref f12))) (l12 : K.lookup f12 = some ⟨oc12, od12, .func (PySem.W.fnOf "_law_ints" "_law_ints" (defArgs s_l_ints) (defBody s_l_ints) (defScope s_l_ints) .none kV12 dc12 pm12 an12 cd12 ct12), sl12⟩) (c12 : PySem.W.codeIn K cd12 "_law_ints" = true) (k12 : PySem.W.keepIn K (.ref f12) = true)
    (a13 : PySem.W.nsIn K mainGlobals "_law_read" = some (some (.ref f13))) (l13 : K.lookup f13 = some ⟨oc13, od13, .func (PySem.W.fnOf "_law_read" "_law_read" (defArgs s_l_read) (defBody s_l_read) (defScope s_l_read) .none kV13 dc13 pm13 an13 cd13 ct13), sl13⟩) (c13 : PySem.W.codeIn K cd13 "_law_read" = true) (k13 : PySem.W.keepIn K (.ref f13) = true)
    (a14 : PySem.W.nsIn K mainGlobals "_law_unfit" = some (some (.ref f14))) (l14 : K.lookup f14 = some ⟨oc14, od14, .func (PySem.W.fnOf "_law_unfit" "_law_unfit" (defArgs s_l_unfit) (defBody s_l_unfit) (defScope s_l_unfit) .none kV14 dc14 pm14 an14 cd14 ct14), sl14⟩) (c14 : PySem.W.codeIn K cd14 "_law_unfit" = true) (k14 : PySem.W.keepIn K (.ref f14) = true)
    (a15 : PySem.W.nsIn K mainGlobals "_law_near" = some (some (.ref f15))) (l15 : K.lookup f15 = some ⟨oc15, od15, .func (PySem.W.fnOf "_law_near" "_law_near" (defArgs s_l_near) (defBody s_l_near) (defScope s_l_near) .none kV15 dc15 pm15 an15 cd15 ct15), sl15⟩) (c15 : PySem.W.codeIn K cd15 "_law_near" = true) (k15 : PySem.W.keepIn K (.ref f15) = true)
    (a16 : PySem.W.nsIn K mainGlobals "_law_nothing" = some (some (.ref f16))) (l16 : K.lookup f16 = some ⟨oc16, od16, .func (PySem.W.fnOf "_law_nothing" "_law_nothing" (defArgs s_l_nothing) (defBody s_l_nothing) (defScope s_l_nothing) .none kV16 dc16 pm16 an16 cd16 ct16), sl16⟩) (c16 : PySem.W.codeIn K cd16 "_law_nothing" = true) (k16 : PySem.W.keepIn K (.ref f16) = true)
    (a17 : PySem.W.nsIn K mainGlobals "_law_below" = some (some (.ref f17))) (l17 : K.lookup f17 = some ⟨oc17, od17, .func (PySem.W.fnOf "_law_below" "_law_below" (defArgs s_l_below) (defBody s_l_below) (defScope s_l_below) .none kV17 dc17 pm17 an17 cd17 ct17), sl17⟩) (c17 : PySem.W.codeIn K cd17 "_law_below" = true) (k17 : PySem.W.keepIn K (.ref f17) = true)
    (a18 : PySem.W.nsIn K mainGlobals "_law_widths" = some (some (.ref f18))) (l18 : K.lookup f18 = some ⟨oc18, od18, .func (PySem.W.fnOf "_law_widths" "_law_widths" (defArgs s_l_widths) (defBody s_l_widths) (defScope s_l_widths) .none kV18 dc18 pm18 an18 cd18 ct18), sl18⟩) (c18 : PySem.W.codeIn K cd18 "_law_widths" = true) (k18 : PySem.W.keepIn K (.ref f18) = true)
    (a19 : PySem.W.nsIn K mainGlobals "_law_drawn" = some (some (.ref f19))) (l19 : K.lookup f19 = some ⟨oc19, od19, .func (PySem.W.fnOf "_law_drawn" "_law_drawn" (defArgs s_l_drawn) (defBody s_l_drawn) (defScope s_l_drawn) .none kV19 dc19 pm19 an19 cd19 ct19), sl19⟩) (c19 : PySem.W.codeIn K cd19 "_law_drawn" = true) (k19 : PySem.W.keepIn K (.ref f19) = true)
    (a20 : PySem.W.nsIn K mainGlobals "_law_bounds" = some (some (.ref f20))) (l20 : K.lookup f20 = some ⟨oc20, od20, .func (PySem.W.fnOf "_law_bounds" "_law_bounds" (defArgs s_l_bounds) (defBody s_l_bounds) (defScope s_l_bounds) .none kV20 dc20 pm20 an20 cd20 ct20), sl20⟩) (c20 : PySem.W.codeIn K cd20 "_law_bounds" = true) (k20 : PySem.W.keepIn K (.ref f20) = true)
    (a21 : PySem.W.nsIn K mainGlobals "law" = some (some (.ref f21))) (l21 : K.lookup f21 = some ⟨oc21, od21, .func (PySem.W.fnOf "law" "law" (defArgs s_law) (defBody s_law) (defScope s_law) .none kV21 dc21 pm21 an21 cd21 ct21), sl21⟩) (c21 : PySem.W.codeIn K cd21 "law" = true) (k21 : PySem.W.keepIn K (.ref f21) = true)
    {C0 C1 C2 fI1 NI1 : Addr} {nm1 qn1 : Str} {bs1 su1 : List Value} {sn1 : List Str} {ab1 : Bool} {co1 : Option Bool} {dd1 odI1 anI1 : Option Addr} {m01 m11 m21 m31 m51 : Option Value} {slI1 : Array (Option Value)} {ocI1 kVI1 dcI1 pmI1 cdI1 ctI1 : Value}
    (aC0 : PySem.W.nsIn K mainGlobals "ColonnadeError" = some (some (.ref C0)))
    (aC1 : PySem.W.nsIn K mainGlobals "Unfit" = some (some (.ref C1)))
    (aC2 : PySem.W.nsIn K mainGlobals "BadCells" = some (some (.ref C2)))
    (eC0 : PySem.W.subIn K (.ref C0) (.type "BaseException") = some true) (tC0 : PySem.W.typeIn K (.ref C0) = some (.type "type")) (hd0 : PySem.W.hasDictIn K C0 = true)
    (eC1 : PySem.W.subIn K (.ref C1) (.type "BaseException") = some true) (tC1 : PySem.W.typeIn K (.ref C1) = some (.type "type")) (hd1 : PySem.W.hasDictIn K C1 = true)
    (eC2 : PySem.W.subIn K (.ref C2) (.type "BaseException") = some true) (tC2 : PySem.W.typeIn K (.ref C2) = some (.type "type")) (hd2 : PySem.W.hasDictIn K C2 = true)
    (qZ2 : PySem.W.excIn K C2 [.type "ValueError", .type "Exception", .type "BaseException", .type "object"] "ValueError.__new__" = true) (kC2 : PySem.W.keepIn K (.ref C2) = true) (ga2 : PySem.W.findIn K (.ref C2) "__getattribute__" = some (some (.builtin "BaseException.__getattribute__"))) (gg2 : PySem.W.findIn K (.ref C2) "__getattr__" = some none) (hc2 : PySem.W.findIn K (.ref C2) "__class__" = some (some (.builtin "object.__class__"))) (hm2 : PySem.W.mroIn K C2 (.type "object") = some true)
    (sb2x0 : PySem.W.subIn K (.ref C2) (.ref C0) = some true)
    (sb2x1 : PySem.W.subIn K (.ref C2) (.ref C1) = some false)
    (sb2x2 : PySem.W.subIn K (.ref C2) (.ref C2) = some true)
    (gN : PySem.W.specialIn K (.builtin "object.__class__") "__get__" = some (some (.builtin "getset_descriptor.__get__"))) (gT : PySem.W.takesIn K (.builtin "object.__class__") = some true)
    (xL1 : K.lookup C1 = some (excClassObj nm1 qn1 C1 NI1 bs1 [.ref C0, .type "ValueError", .type "Exception", .type "BaseException", .type "object"] true sn1 su1 ab1 co1 dd1 m01 m11 m21 m31 m51 "ValueError.__new__"))
    (sa1 : PySem.W.findIn K (.ref C1) "__setattr__" = some (some (.builtin "object.__setattr__"))) (ga1 : PySem.W.findIn K (.ref C1) "__getattribute__" = some (some (.builtin "BaseException.__getattribute__"))) (gg1 : PySem.W.findIn K (.ref C1) "__getattr__" = some none) (hc1 : PySem.W.findIn K (.ref C1) "__class__" = some (some (.builtin "object.__class__"))) (hm1 : PySem.W.mroIn K C1 (.type "object") = some true) (kC1 : PySem.W.keepIn K (.ref C1) = true)
    (nb1chain : PySem.W.findIn K (.ref C1) "chain" = some none)
    (iI1 : PySem.W.findIn K (.ref C1) "__init__" = some (some (.ref fI1))) (tI1 : PySem.W.typeIn K (.ref fI1) = some (.type "function")) (lI1 : K.lookup fI1 = some ⟨ocI1, odI1, .func (PySem.W.fnOf "__init__" "Unfit.__init__" (defArgs sI_1) (defBody sI_1) (defScope sI_1) .none kVI1 dcI1 pmI1 anI1 cdI1 ctI1), slI1⟩) (cI1 : PySem.W.codeIn K cdI1 "Unfit.__init__" = true) (kI1 : PySem.W.keepIn K (.ref fI1) = true)
    (sb1x0 : PySem.W.subIn K (.ref C1) (.ref C0) = some true)
    (sb1x1 : PySem.W.subIn K (.ref C1) (.ref C1) = some true)
    (sb1x2 : PySem.W.subIn K (.ref C1) (.ref C2) = some false)
    (z0 : PySem.W.nsIn K mainGlobals "abs" = some none) (z1 : PySem.W.nsIn K mainGlobals "all" = some none) (z2 : PySem.W.nsIn K mainGlobals "bool" = some none) (z3 : PySem.W.nsIn K mainGlobals "enumerate" = some none) (z4 : PySem.W.nsIn K mainGlobals "int" = some none) (z5 : PySem.W.nsIn K mainGlobals "isinstance" = some none) (z6 : PySem.W.nsIn K mainGlobals "len" = some none) (z7 : PySem.W.nsIn K mainGlobals "list" = some none) (z8 : PySem.W.nsIn K mainGlobals "max" = some none) (z9 : PySem.W.nsIn K mainGlobals "range" = some none) (z10 : PySem.W.nsIn K mainGlobals "tuple" = some none) :
    ∃ fd : FuncData, (∀ (s : Shared) (v : Value), BindsTo s fd ⟨[v], []⟩ [("_law_script", v)]) ∧ ∀ base : Heap, K.In base → base.Ns mainGlobals mg → FnOk l.prog w K mg base CX0 7 fa fd ["_law_script"] (spOf K 1 fsLaw) := by
  have e := hfa.symm.trans (PySem.W.mg_of X G a21)
  cases e
  have F1 := fun_mk (st := s_lane_count) l1 c1 k1
  have F2 := fun_mk (st := s_width_of) l2 c2 k2
  have F3 := fun_mk (st := s_pack) l3 c3 k3
  have F4 := fun_mk (st := s_unpack) l4 c4 k4
  have F5 := fun_mk (st := s_lanes_below) l5 c5 k5
  have F6 := fun_mk (st := s_l_digits) l6 c6 k6
  have F7 := fun_mk (st := s_l_draw) l7 c7 k7
  have F8 := fun_mk (st := s_l_words) l8 c8 k8
  have F9 := fun_mk (st := s_l_lanes) l9 c9 k9
  have F10 := fun_mk (st := s_l_packed) l10 c10 k10
  have F11 := fun_mk (st := s_l_int) l11 c11 k11
  have F12 := fun_mk (st := s_l_ints) l12 c12 k12
  have F13 := fun_mk (st := s_l_read) l13 c13 k13
  have F14 := fun_mk (st := s_l_unfit) l14 c14 k14
  have F15 := fun_mk (st := s_l_near) l15 c15 k15
  have F16 := fun_mk (st := s_l_nothing) l16 c16 k16
  have F17 := fun_mk (st := s_l_below) l17 c17 k17
  have F18 := fun_mk (st := s_l_widths) l18 c18 k18
  have F19 := fun_mk (st := s_l_drawn) l19 c19 k19
  have F20 := fun_mk (st := s_l_bounds) l20 c20 k20
  have F21 := fun_mk (st := s_law) l21 c21 k21
  have FI1 := fun_mk (st := sI_1) lI1 cI1 kI1
  have o1 : OexC K C1 := ⟨⟨_, _, _, _, _, _, _, _, _, _, _, _, _, _, _, xL1, rfl⟩, sa1, eC1, tC1, kC1⟩
  have x1 : ExcC K C1 := ⟨ga1, gg1, eC1, hd1, hc1, gN, gT, hm1⟩
  have y1 : XfC K C1 := ⟨ga1, gg1, eC1, hd1⟩
  have x2 : ExcC K C2 := ⟨ga2, gg2, eC2, hd2, hc2, gN, gT, hm2⟩
  let T : Txt K mg := {
    q_2 := qZ2, kc_2 := kC2, sb_2 := eC2, ty_2 := tC2,
    ct := fun n => match n with | 0 => C0 | 1 => C1 | 2 => C2 | _ => C0,
    gC_0 := PySem.W.mg_of X G aC0,
    gC_1 := PySem.W.mg_of X G aC1,
    gC_2 := PySem.W.mg_of X G aC2,
    fI_1 := fI1, dI_1 := _, FI_1 := FI1, bi_1 := FI1.binds fun _ _ _ _ _ _ us hl => match us, hl with | [_, _], _ => rfl,
    e_1 := ⟨o1, PySem.W.mg_of X G aC1, iI1, tI1⟩,
    nf_1_chain := nb1chain,
    hrd := fun n f h => match n, f, h with | 1, f, h => ⟨y1, by rcases (by simpa [exRd] using h : f = "chain") with rfl <;> assumption⟩ | 0, f, h => by simp [exRd] at h | 2, f, h => by simp [exRd] at h | n + 3, f, h => by simp [exRd] at h,
    hkit := fun n t b h => (by
      unfold exKit at h
      split at h
      · cases h; exact ⟨x1, kit_ref hd0 tC0 sb1x1 sb1x0⟩
      · cases h; exact ⟨x1, kit_ref hd1 tC1 sb1x1 sb1x1⟩
      · cases h; exact ⟨x1, kit_ref hd2 tC2 sb1x1 sb1x2⟩
      · cases h; exact ⟨x2, kit_ref hd0 tC0 sb2x2 sb2x0⟩
      · cases h; exact ⟨x2, kit_ref hd1 tC1 sb2x2 sb2x1⟩
      · cases h; exact ⟨x2, kit_ref hd2 tC2 sb2x2 sb2x2⟩
      · cases h),
    hsub_0 := fun n b h => match n, h with | 1, h => by cases h; exact PySem.W.exm_ref eC0 hd0 tC0 sb1x0 | 2, h => by cases h; exact PySem.W.exm_ref eC0 hd0 tC0 sb2x0 | 0, h => by cases h | n + 3, h => by simp [exSub_0, exKit] at h,
    hsub_1 := fun n b h => match n, h with | 1, h => by cases h; exact PySem.W.exm_ref eC1 hd1 tC1 sb1x1 | 2, h => by cases h; exact PySem.W.exm_ref eC1 hd1 tC1 sb2x1 | 0, h => by cases h | n + 3, h => by simp [exSub_1, exKit] at h,
    hsub_2 := fun n b h => match n, h with | 1, h => by cases h; exact PySem.W.exm_ref eC2 hd2 tC2 sb1x2 | 2, h => by cases h; exact PySem.W.exm_ref eC2 hd2 tC2 sb2x2 | 0, h => by cases h | n + 3, h => by simp [exSub_2, exKit] at h,
    f_lane_count := _, d_lane_count := _, g_lane_count := PySem.W.mg_of X G a1, F_lane_count := F1, b_lane_count := F1.binds fun _ _ _ _ _ _ us hl => match us, hl with | [_], _ => rfl,
    f_width_of := _, d_width_of := _, g_width_of := PySem.W.mg_of X G a2, F_width_of := F2, b_width_of := F2.binds fun _ _ _ _ _ _ us hl => match us, hl with | [_], _ => rfl,
    f_pack := _, d_pack := _, g_pack := PySem.W.mg_of X G a3, F_pack := F3, b_pack := F3.binds fun _ _ _ _ _ _ us hl => match us, hl with | [_, _], _ => rfl,
    f_unpack := _, d_unpack := _, g_unpack := PySem.W.mg_of X G a4, F_unpack := F4, b_unpack := F4.binds fun _ _ _ _ _ _ us hl => match us, hl with | [_, _, _], _ => rfl,
    f_lanes_below := _, d_lanes_below := _, g_lanes_below := PySem.W.mg_of X G a5, F_lanes_below := F5, b_lanes_below := F5.binds fun _ _ _ _ _ _ us hl => match us, hl with | [_, _, _], _ => rfl,
    f_l_digits := _, d_l_digits := _, g_l_digits := PySem.W.mg_of X G a6, F_l_digits := F6, b_l_digits := F6.binds fun _ _ _ _ _ _ us hl => match us, hl with | [_], _ => rfl,
    f_l_draw := _, d_l_draw := _, g_l_draw := PySem.W.mg_of X G a7, F_l_draw := F7, b_l_draw := F7.binds fun _ _ _ _ _ _ us hl => match us, hl with | [_, _], _ => rfl,
    f_l_words := _, d_l_words := _, g_l_words := PySem.W.mg_of X G a8, F_l_words := F8, b_l_words := F8.binds fun _ _ _ _ _ _ us hl => match us, hl with | [_, _], _ => rfl,
    f_l_lanes := _, d_l_lanes := _, g_l_lanes := PySem.W.mg_of X G a9, F_l_lanes := F9, b_l_lanes := F9.binds fun _ _ _ _ _ _ us hl => match us, hl with | [_, _], _ => rfl,
    f_l_packed := _, d_l_packed := _, g_l_packed := PySem.W.mg_of X G a10, F_l_packed := F10, b_l_packed := F10.binds fun _ _ _ _ _ _ us hl => match us, hl with | [_, _, _], _ => rfl,
    f_l_int := _, d_l_int := _, g_l_int := PySem.W.mg_of X G a11, F_l_int := F11, b_l_int := F11.binds fun _ _ _ _ _ _ us hl => match us, hl with | [_, _], _ => rfl,
    f_l_ints := _, d_l_ints := _, g_l_ints := PySem.W.mg_of X G a12, F_l_ints := F12, b_l_ints := F12.binds fun _ _ _ _ _ _ us hl => match us, hl with | [_, _], _ => rfl,
    f_l_read := _, d_l_read := _, g_l_read := PySem.W.mg_of X G a13, F_l_read := F13, b_l_read := F13.binds fun _ _ _ _ _ _ us hl => match us, hl with | [_, _, _], _ => rfl,
    f_l_unfit := _, d_l_unfit := _, g_l_unfit := PySem.W.mg_of X G a14, F_l_unfit := F14, b_l_unfit := F14.binds fun _ _ _ _ _ _ us hl => match us, hl with | [_, _], _ => rfl,
    f_l_near := _, d_l_near := _, g_l_near := PySem.W.mg_of X G a15, F_l_near := F15, b_l_near := F15.binds fun _ _ _ _ _ _ us hl => match us, hl with | [_, _], _ => rfl,
    f_l_nothing := _, d_l_nothing := _, g_l_nothing := PySem.W.mg_of X G a16, F_l_nothing := F16, b_l_nothing := F16.binds fun _ _ _ _ _ _ us hl => match us, hl with | [_], _ => rfl,
    f_l_below := _, d_l_below := _, g_l_below := PySem.W.mg_of X G a17, F_l_below := F17, b_l_below := F17.binds fun _ _ _ _ _ _ us hl => match us, hl with | [_, _, _], _ => rfl,
    f_l_widths := _, d_l_widths := _, g_l_widths := PySem.W.mg_of X G a18, F_l_widths := F18, b_l_widths := F18.binds fun _ _ _ _ _ _ us hl => match us, hl with | [_, _], _ => rfl,
    f_l_drawn := _, d_l_drawn := _, g_l_drawn := PySem.W.mg_of X G a19, F_l_drawn := F19, b_l_drawn := F19.binds fun _ _ _ _ _ _ us hl => match us, hl with | [_, _], _ => rfl,
    f_l_bounds := _, d_l_bounds := _, g_l_bounds := PySem.W.mg_of X G a20, F_l_bounds := F20, b_l_bounds := F20.binds fun _ _ _ _ _ _ us hl => match us, hl with | [_, _, _, _], _ => rfl,
    f_law := _, d_law := _, g_law := PySem.W.mg_of X G a21, F_law := F21, b_law := F21.binds fun _ _ _ _ _ _ us hl => match us, hl with | [_], _ => rfl,
    n_abs := PySem.W.mg_none_of X G z0,
    n_all := PySem.W.mg_none_of X G z1,
    n_bool := PySem.W.mg_none_of X G z2,
    n_enumerate := PySem.W.mg_none_of X G z3,
    n_int := PySem.W.mg_none_of X G z4,
    n_isinstance := PySem.W.mg_none_of X G z5,
    n_len := PySem.W.mg_none_of X G z6,
    n_list := PySem.W.mg_none_of X G z7,
    n_max := PySem.W.mg_none_of X G z8,
    n_range := PySem.W.mg_none_of X G z9,
    n_tuple := PySem.W.mg_none_of X G z10,
    t_MOST_NUMBER := tkMOST_NUMBER, c_MOST_NUMBER := PySem.W.mg_of X G eMOST_NUMBER,
    t_WORD_BITS := tkWORD_BITS, c_WORD_BITS := PySem.W.mg_of X G eWORD_BITS }
  exact ⟨_, fun s v => .of_eq rfl, fun base _ _ => ok_law T⟩
end K02
open PySem PySem.W PyProof.Rows
set_option maxHeartbeats 0 in
theorem PySem.Challenge.cw_colonnade_k02_lanes_holds : PySem.Challenge.rw_colonnade_k02_lanes.Holds := by
  w_on; o_law; k_head; (case hw => w_witness2)
  k_fill
  refine L2.walk_of (l := PySem.Challenge.rw_colonnade_k02_lanes) (n := 63) (k := 7) (x := "_law_script") (CX := fun _ => L2.CX0) (sp := fun w => DL.spOf _ 1 DL.fsLaw) rfl (by decide) rfl ⟨rfl, by decide, by decide⟩ (fun w h Y => PySem.W.kIn_of Y) ?F (fun _ _ a ns hl _ hS => DL.law_sp hl hS) (fun _ _ _ _ _ h => h)
  case F =>
    intro w mg fa h KX G hmg
    refine' K02.all_mk KX G hmg ?eMOST_NUMBER ?eWORD_BITS ?a1 ?l1 ?c1 ?k1 ?a2 ?l2 ?c2 ?k2 ?a3 ?l3 ?c3 ?k3 ?a4 ?l4 ?c4 ?k4 ?a5 ?l5 ?c5 ?k5 ?a6 ?l6 ?c6 ?k6 ?a7 ?l7 ?c7 ?k7 ?a8 ?l8 ?c8 ?k8 ?a9 ?l9 ?c9 ?k9 ?a10 ?l10 ?c10 ?k10 ?a11 ?l11 ?c11 ?k11 ?a12 ?l12 ?c12 ?k12 ?a13 ?l13 ?c13 ?k13 ?a14 ?l14 ?c14 ?k14 ?a15 ?l15 ?c15 ?k15 ?a16 ?l16 ?c16 ?k16 ?a17 ?l17 ?c17 ?k17 ?a18 ?l18 ?c18 ?k18 ?a19 ?l19 ?c19 ?k19 ?a20 ?l20 ?c20 ?k20 ?a21 ?l21 ?c21 ?k21 ?aC0 ?aC1 ?aC2 ?eC0 ?tC0 ?hd0 ?eC1 ?tC1 ?hd1 ?eC2 ?tC2 ?hd2 ?qZ2 ?kC2 ?ga2 ?gg2 ?hc2 ?hm2 ?sb2x0 ?sb2x1 ?sb2x2 ?gN ?gT ?xL1 ?sa1 ?ga1 ?gg1 ?hc1 ?hm1 ?kC1 ?nb1chain ?iI1 ?tI1 ?lI1 ?cI1 ?kI1 ?sb1x0 ?sb1x1 ?sb1x2 ?z0 ?z1 ?z2 ?z3 ?z4 ?z5 ?z6 ?z7 ?z8 ?z9 ?z10
    (case eMOST_NUMBER => k_is); (case eWORD_BITS => k_is); (case a1 => k_is); (case l1 => k_is); (case c1 => k_is); (case k1 => k_is); (case a2 => k_is); (case l2 => k_is); (case c2 => k_is); (case k2 => k_is); (case a3 => k_is); (case l3 => k_is); (case c3 => k_is); (case k3 => k_is); (case a4 => k_is); (case l4 => k_is); (case c4 => k_is); (case k4 => k_is); (case a5 => k_is); (case l5 => k_is); (case c5 => k_is); (case k5 => k_is); (case a6 => k_is); (case l6 => k_is); (case c6 => k_is); (case k6 => k_is); (case a7 => k_is); (case l7 => k_is); (case c7 => k_is); (case k7 => k_is); (case a8 => k_is); (case l8 => k_is); (case c8 => k_is); (case k8 => k_is); (case a9 => k_is); (case l9 => k_is); (case c9 => k_is); (case k9 => k_is); (case a10 => k_is); (case l10 => k_is); (case c10 => k_is); (case k10 => k_is); (case a11 => k_is); (case l11 => k_is); (case c11 => k_is); (case k11 => k_is); (case a12 => k_is); (case l12 => k_is); (case c12 => k_is); (case k12 => k_is); (case a13 => k_is); (case l13 => k_is); (case c13 => k_is); (case k13 => k_is); (case a14 => k_is); (case l14 => k_is); (case c14 => k_is); (case k14 => k_is); (case a15 => k_is); (case l15 => k_is); (case c15 => k_is); (case k15 => k_is); (case a16 => k_is); (case l16 => k_is); (case c16 => k_is); (case k16 => k_is); (case a17 => k_is); (case l17 => k_is); (case c17 => k_is); (case k17 => k_is); (case a18 => k_is); (case l18 => k_is); (case c18 => k_is); (case k18 => k_is); (case a19 => k_is); (case l19 => k_is); (case c19 => k_is); (case k19 => k_is); (case a20 => k_is); (case l20 => k_is); (case c20 => k_is); (case k20 => k_is); (case a21 => k_is); (case l21 => k_is); (case c21 => k_is); (case k21 => k_is); (case aC0 => k_is); (case aC1 => k_is); (case aC2 => k_is); (case eC0 => k_is); (case tC0 => k_is); (case hd0 => k_is); (case eC1 => k_is); (case tC1 => k_is); (case hd1 => k_is); (case eC2 => k_is); (case tC2 => k_is); (case hd2 => k_is); (case qZ2 => k_exc); (case kC2 => k_is); (case ga2 => k_is); (case gg2 => k_is); (case hc2 => k_is); (case hm2 => k_is); (case sb2x0 => k_is); (case sb2x1 => k_is); (case sb2x2 => k_is); (case gN => k_is); (case gT => k_is); (case xL1 => k_is); (case sa1 => k_is); (case ga1 => k_is); (case gg1 => k_is); (case hc1 => k_is); (case hm1 => k_is); (case kC1 => k_is); (case nb1chain => k_is); (case iI1 => k_is); (case tI1 => k_is); (case lI1 => k_is); (case cI1 => k_is); (case kI1 => k_is); (case sb1x0 => k_is); (case sb1x1 => k_is); (case sb1x2 => k_is); (case z0 => k_is); (case z1 => k_is); (case z2 => k_is); (case z3 => k_is); (case z4 => k_is); (case z5 => k_is); (case z6 => k_is); (case z7 => k_is); (case z8 => k_is); (case z9 => k_is); (case z10 => k_is)
