import PyProof.Rows.All
import HandS.CallLocal
import HandS.CallSlots
import HandS.ClsMeth
import HandS.Codes
import HandS.Conv
import HandS.Defaults
import HandS.Evl
import HandS.ExcCtx
import HandS.ExcField
import HandS.ExcInit
import HandS.ExcInitHot
import HandS.ExcIs
import HandS.ForExc
import HandS.ForMost
import HandS.HotCalls
import HandS.IsInst
import HandS.Iter
import HandS.More
import HandS.Property
import HandS.SetFor
import HandS.Star
import HandS.Style
import HandS.TupAny
import HandS.TupLe
import HandS.Wide
import HandS.WideBits
import KE.GoesEnum
import KE.KCallOwn
import KE.KExcIs
import KE.KOpsOwn
import KE.SortData
import PySem.Challenge.RW_colonnade_k17_bridges
set_option Elab.async false
set_option linter.all false
set_option maxRecDepth 100000
set_option maxHeartbeats 2000000
/-! A layer over the heap's readings: what a def does is said of plain data, the heap is hidden. Own work. -/
namespace DL
open PySem PySem.Spec PyProof.Rows L2
open Evl (Ex ex_l ex_t)

/-! ### lists in pairs -/
section
variable {α β : Type} {G : α → β → Prop}
theorem P_get : ∀ {l : List α} {m : List β} {i : Nat} {b : β}, Paired G l m → m[i]? = some b → ∃ a, l[i]? = some a ∧ G a b
  | _, _, _, _, .nil, e => by simp at e
  | _, _, 0, _, .cons r _, e => by simp at e; subst e; exact ⟨_, rfl, r⟩
  | _, _, i + 1, b, .cons _ t, e => by
    obtain ⟨a, h1, h2⟩ := P_get (i := i) (b := b) t (by simpa using e)
    exact ⟨a, by simpa using h1, h2⟩
theorem P_getL : ∀ {l : List α} {m : List β} {i : Nat} {a : α}, Paired G l m → l[i]? = some a → ∃ b, m[i]? = some b ∧ G a b
  | _, _, _, _, .nil, e => by simp at e
  | _, _, 0, _, .cons r _, e => by simp at e; subst e; exact ⟨_, rfl, r⟩
  | _, _, i + 1, a, .cons _ t, e => by
    obtain ⟨b, h1, h2⟩ := P_getL (i := i) (a := a) t (by simpa using e)
    exact ⟨b, by simpa using h1, h2⟩
theorem P_len : ∀ {l : List α} {m : List β}, Paired G l m → l.length = m.length
  | _, _, .nil => rfl
  | _, _, .cons _ t => by rw [List.length_cons, List.length_cons, P_len t]
theorem P_app : ∀ {l l' : List α} {m m' : List β}, Paired G l m → Paired G l' m' → Paired G (l ++ l') (m ++ m')
  | _, _, _, _, .nil, s => s
  | _, _, _, _, .cons r t, s => .cons r (P_app t s)
theorem P_take : ∀ {l : List α} {m : List β} (n : Nat), Paired G l m → Paired G (l.take n) (m.take n)
  | _, _, 0, _ => .nil
  | _, _, _ + 1, .nil => .nil
  | _, _, n + 1, .cons r t => .cons r (P_take n t)
theorem P_drop : ∀ {l : List α} {m : List β} (n : Nat), Paired G l m → Paired G (l.drop n) (m.drop n)
  | _, _, 0, r => r
  | _, _, _ + 1, .nil => .nil
  | _, _, n + 1, .cons _ t => P_drop n t
theorem P_set {a : α} {b : β} (r : G a b) : ∀ {l : List α} {m : List β} (i : Nat), Paired G l m → Paired G (l.set i a) (m.set i b)
  | _, _, _, .nil => .nil
  | _, _, 0, .cons _ t => .cons r t
  | _, _, i + 1, .cons q t => .cons q (P_set r i t)
theorem P_rev : ∀ {l : List α} {m : List β}, Paired G l m → Paired G l.reverse m.reverse
  | _, _, .nil => .nil
  | _, _, .cons r t => by
    rw [List.reverse_cons, List.reverse_cons]
    exact P_app (P_rev t) (.cons r .nil)
theorem P_erase : ∀ {l : List α} {m : List β} (i : Nat), Paired G l m → Paired G (l.eraseIdx i) (m.eraseIdx i)
  | _, _, _, .nil => .nil
  | _, _, 0, .cons _ t => t
  | _, _, i + 1, .cons q t => .cons q (P_erase i t)
theorem P_mono {G' : α → β → Prop} (k : ∀ a b, G a b → G' a b) : ∀ {l : List α} {m : List β}, Paired G l m → Paired G' l m
  | _, _, .nil => .nil
  | _, _, .cons r t => .cons (k _ _ r) (P_mono k t)
theorem P_rep {l : List α} {m : List β} (h : Paired G l m) : ∀ k : Nat, Paired G (List.replicate k l).flatten (List.replicate k m).flatten
  | 0 => .nil
  | k + 1 => by
    rw [List.replicate_succ, List.replicate_succ, List.flatten_cons, List.flatten_cons]
    exact P_app h (P_rep h k)
theorem P_dropLast {l : List α} {m : List β} (h : Paired G l m) : Paired G l.dropLast m.dropLast := by
  rw [List.dropLast_eq_take, List.dropLast_eq_take, P_len h]
  exact P_take _ h
theorem P_of : ∀ {l : List α} {m : List β}, l.length = m.length → (∀ (i : Nat) (a : α) (b : β), l[i]? = some a → m[i]? = some b → G a b) → Paired G l m
  | [], [], _, _ => .nil
  | [], _ :: _, h, _ => by simp at h
  | _ :: _, [], h, _ => by simp at h
  | a :: l, b :: m, h, k => .cons (k 0 a b rfl rfl) (P_of (by simpa using h) fun i x y e1 e2 => k (i + 1) x y (by simpa using e1) (by simpa using e2))
theorem P_insert {a : α} {b : β} (r : G a b) : ∀ {l : List α} {m : List β} (i : Nat), Paired G l m → Paired G (l.take i ++ a :: l.drop i) (m.take i ++ b :: m.drop i) := fun i h =>
  P_app (P_take i h) (.cons r (P_drop i h))
end

/-! ### data -/
inductive D where
  | non | bl (b : Bool) | int (i : Int) | str (x : Str) | ref (a : Addr) | ty (n : String)
  | lst (xs : List D) | tup (xs : List D) | obj (C : String) (fs : List (Str × D)) | dct (kvs : List (Key × D))
  /-- a class of the text -/
  | kls (C : String)
  /-- the law's own script -/
  | scr (ns : List Int)
  /-- a thing that is newer than the line that was drawn -/
  | fr (d : D)

/-- the kit's fragment, and the addresses that were there before -/
structure KZ where
  fr : PySem.W.Frag
  z : Addr → Prop
instance : Coe KZ PySem.W.Frag := ⟨KZ.fr⟩
/-- where a class of the text stands -/
def ctOf (K : PySem.W.Frag) (n : String) : Addr := match PySem.W.nsIn K mainGlobals n with
  | some (some (.ref a)) => a
  | _ => 0
theorem ctOf_of {K : PySem.W.Frag} {n : String} {a : Addr} (h : PySem.W.nsIn K mainGlobals n = some (some (.ref a))) : ctOf K n = a := by
  unfold ctOf
  rw [h]
mutual
/-- v is the data d, all of it read off F -/
inductive Rp (K : KZ) (F : Hp) : V → D → Prop
  | non : Rp K F .non .non
  | bl (b : Bool) : Rp K F (.bl b) (.bl b)
  | int (i : Int) : Rp K F (.int i) (.int i)
  | str (x : Str) : Rp K F (.str x) (.str x)
  | ref (a : Addr) : Rp K F (.ref a) (.ref a)
  | ty (n : String) : Rp K F (.ty n) (.ty n)
  | lst {a : Addr} {vs : List V} {ds : List D} : F a = some (.lst vs) → RpAll K F vs ds → Rp K F (.ref a) (.lst ds)
  | scr {a : Addr} {ns : List Int} : SqL K.fr F a (ns.map V.int) → Rp K F (.ref a) (.scr ns)
  | tup {a : Addr} {vs : List V} {ds : List D} : SqT K.fr F a vs → RpAll K F vs ds → Rp K F (.ref a) (.tup ds)
  | kls (n : String) : Rp K F (.ref (ctOf K.fr n)) (.kls n)
  | obj {a dx : Addr} {C : String} {fv : List (Str × V)} {fs : List (Str × D)} : F a = some (.ins (ctOf K.fr C) dx fv) → F dx = some (.own a) → RpFs K F fv fs → Rp K F (.ref a) (.obj C fs)
  | dct {a : Addr} {kv : List (Key × V)} {kd : List (Key × D)} : F a = some (.dK kv) → RpKs K F kv kd → Rp K F (.ref a) (.dct kd)
  | fr {a : Addr} {d : D} : ¬ K.z a → Rp K F (.ref a) d → Rp K F (.ref a) (.fr d)
inductive RpAll (K : KZ) (F : Hp) : List V → List D → Prop
  | nil : RpAll K F [] []
  | cons {v : V} {vs : List V} {d : D} {ds : List D} : Rp K F v d → RpAll K F vs ds → RpAll K F (v :: vs) (d :: ds)
inductive RpFs (K : KZ) (F : Hp) : List (Str × V) → List (Str × D) → Prop
  | nil : RpFs K F [] []
  | cons {n : Str} {v : V} {vs : List (Str × V)} {d : D} {ds : List (Str × D)} : Rp K F v d → RpFs K F vs ds → RpFs K F ((n, v) :: vs) ((n, d) :: ds)
inductive RpKs (K : KZ) (F : Hp) : List (Key × V) → List (Key × D) → Prop
  | nil : RpKs K F [] []
  | cons {n : Key} {v : V} {vs : List (Key × V)} {d : D} {ds : List (Key × D)} : Rp K F v d → RpKs K F vs ds → RpKs K F ((n, v) :: vs) ((n, d) :: ds)
end
section
variable {K : KZ} {F F' : Hp}
mutual
theorem Rp.mono (e : Ex F F') : ∀ {v : V} {d : D}, Rp K F v d → Rp K F' v d
  | _, _, .non => .non
  | _, _, .bl b => .bl b
  | _, _, .int i => .int i
  | _, _, .str x => .str x
  | _, _, .ref a => .ref a
  | _, _, .ty n => .ty n
  | _, _, .kls n => .kls n
  | _, _, .lst h a => .lst (e _ _ h) (RpAll.mono e a)
  | _, _, .scr h => .scr (ex_l e h)
  | _, _, .tup h a => .tup (ex_t e h) (RpAll.mono e a)
  | _, _, .obj h1 h2 a => .obj (e _ _ h1) (e _ _ h2) (RpFs.mono e a)
  | _, _, .dct h1 a => .dct (e _ _ h1) (RpKs.mono e a)
  | _, _, .fr n a => .fr n (Rp.mono e a)
theorem RpAll.mono (e : Ex F F') : ∀ {v : List V} {d : List D}, RpAll K F v d → RpAll K F' v d
  | _, _, .nil => .nil
  | _, _, .cons h t => .cons (Rp.mono e h) (RpAll.mono e t)
theorem RpFs.mono (e : Ex F F') : ∀ {v : List (Str × V)} {d : List (Str × D)}, RpFs K F v d → RpFs K F' v d
  | _, _, .nil => .nil
  | _, _, .cons h t => .cons (Rp.mono e h) (RpFs.mono e t)
theorem RpKs.mono (e : Ex F F') : ∀ {v : List (Key × V)} {d : List (Key × D)}, RpKs K F v d → RpKs K F' v d
  | _, _, .nil => .nil
  | _, _, .cons h t => .cons (Rp.mono e h) (RpKs.mono e t)
end
theorem RpAll.p : ∀ {vs : List V} {ds : List D}, RpAll K F vs ds → Paired (Rp K F) vs ds
  | _, _, .nil => .nil
  | _, _, .cons h t => .cons h (RpAll.p t)
theorem RpAll.of : ∀ {vs : List V} {ds : List D}, Paired (Rp K F) vs ds → RpAll K F vs ds
  | _, _, .nil => .nil
  | _, _, .cons h t => .cons h (RpAll.of t)
theorem RpAll.length {vs : List V} {ds : List D} (h : RpAll K F vs ds) : vs.length = ds.length := P_len h.p
end

/-! ### what is owned: it may still change -/
inductive OC where
  | lst (xs : List D) | ins (C : String) (fs : List (Str × D)) | dct (kvs : List (Key × D))
def OC.data : OC → D
  | .lst xs => .lst xs
  | .ins C fs => .obj C fs
  | .dct k => .dct k
/-- a name's slot: nothing known; data that stays; a thing that this def may change (of a parameter: some k) -/
inductive Sx where
  | no | val (d : D) | own (p : Option Nat) (c : OC)
/-- a result: data that stays; what stands in slot j; a new thing that nobody else holds -/
inductive RS where
  | val (d : D) | own (j : Nat) (c : OC) | new (c : OC)
def RS.data : RS → D
  | .val d => d
  | .own _ c => c.data
  | .new c => c.data
abbrev Env := List Sx
def look : Env → Nat → Sx
  | [], _ => .no
  | s :: _, 0 => s
  | _ :: γ, i + 1 => look γ i
def put : Env → Nat → Sx → Env
  | [], _, _ => []
  | _ :: γ, 0, t => t :: γ
  | s :: γ, i + 1, t => s :: put γ i t
theorem look_of : ∀ {γ : Env} {i : Nat} {s : Sx}, γ[i]? = some s → look γ i = s
  | [], _, _, h => by simp at h
  | _ :: _, 0, _, h => by simpa [look] using h
  | _ :: γ, i + 1, _, h => look_of (γ := γ) (i := i) (by simpa using h)
theorem of_look : ∀ {γ : Env} {i : Nat} {s : Sx}, look γ i = s → s ≠ .no → γ[i]? = some s
  | [], _, _, h, n => absurd h.symm n
  | _ :: _, 0, _, h, _ => by simpa [look] using h
  | _ :: γ, i + 1, _, h, n => by
    have := of_look (γ := γ) (i := i) h n
    simpa using this
theorem put_set : ∀ {γ : Env} {i : Nat} {s : Sx}, put γ i s = γ.set i s
  | [], _, _ => rfl
  | _ :: _, 0, _ => rfl
  | _ :: γ, i + 1, _ => by rw [put, put_set, List.set_cons_succ]
theorem put_len {γ : Env} {i : Nat} {s : Sx} : (put γ i s).length = γ.length := by rw [put_set, List.length_set]

/-- a base: N the heap at the def's entry, pa its parameters' things; F, H the heaps that later ones are held against, m what may have changed since -/
structure Bs where
  N : Hp
  pa : Nat → Option Addr
  F : Hp
  H : Hp
  m : List Addr
  z : Addr → Prop
  zn : ∀ a, z a → ∃ o, N a = some o
abbrev Bs.kz (B : Bs) (K : PySem.W.Frag) : KZ := ⟨K, B.z⟩

def OCok (K : PySem.W.Frag) (B : Bs) (F H : Hp) (a : Addr) : OC → Prop
  | .lst ds => ∃ vs, H a = some (.lst vs) ∧ RpAll (B.kz K) F vs ds
  | .ins C fs => ∃ dx fv, H a = some (.ins (ctOf K C) dx fv) ∧ H dx = some (.own a) ∧ F dx = none ∧ (B.N a = none → B.N dx = none) ∧ (dx ∈ B.m ∨ B.H dx = none) ∧ RpFs (B.kz K) F fv fs
  | .dct kd => ∃ kv, H a = some (.dK kv) ∧ RpKs (B.kz K) F kv kd
def SlotOk (K : PySem.W.Frag) (B : Bs) (F H : Hp) (s : Option V) : Sx → Prop
  | .no => True
  | .val d => ∃ v, s = some v ∧ Rp (B.kz K) F v d
  | .own _ c => ∃ a, s = some (.ref a) ∧ F a = none ∧ OCok K B F H a c
/-- the kind of an object stays -/
def Kin : HO → HO → Prop
  | .ins C dx _, o => ∃ fs, o = .ins C dx fs
  | .lst _, o => ∃ xs, o = .lst xs
  | .dK _, o => ∃ xs, o = .dK xs
  | _, _ => True
theorem Kin.refl : ∀ o : HO, Kin o o
  | .ins _ _ fs => ⟨fs, rfl⟩
  | .lst xs => ⟨xs, rfl⟩
  | .dK xs => ⟨xs, rfl⟩
  | .tup _ => trivial | .dT _ => trivial | .set _ _ => trivial | .own _ => trivial | .xd _ => trivial | .met _ _ => trivial | .rng _ _ => trivial | .frz _ _ => trivial | .tbl _ => trivial | .ext _ => trivial
theorem Kin.trans : ∀ {a b c : HO}, Kin a b → Kin b c → Kin a c
  | .ins _ _ fs, _, _, ⟨_, rfl⟩, h => h
  | .lst xs, _, _, ⟨_, rfl⟩, h => h
  | .dK xs, _, _, ⟨_, rfl⟩, h => h
  | .tup _, _, _, _, _ => trivial | .dT _, _, _, _, _ => trivial | .set _ _, _, _, _, _ => trivial | .own _, _, _, _, _ => trivial | .xd _, _, _, _, _ => trivial | .met _ _, _, _, _, _ => trivial | .rng _ _, _, _, _, _ => trivial | .frz _ _, _, _, _, _ => trivial | .tbl _, _, _, _, _ => trivial | .ext _, _, _, _, _ => trivial
structure Rep (K : PySem.W.Frag) (B : Bs) (F H : Hp) (σ : L2.St) (γ : Env) : Prop where
  fh : Ex F H
  len : σ.length = γ.length
  sl : ∀ (i : Nat) s t, σ[i]? = some s → γ[i]? = some t → SlotOk K B F H s t
  nd : ∀ (i j : Nat) a p c q c', γ[i]? = some (.own p c) → γ[j]? = some (.own q c') → σ[i]? = some (some (.ref a)) → σ[j]? = some (some (.ref a)) → i = j
  b1 : ∀ b o, B.H b = some o → (b ∉ B.m → H b = some o) ∧ ∃ o', H b = some o'
  b2 : Ex B.F F
  b3 : ∀ b o, B.H b = some o → b ∉ B.m → F b = B.F b
  b4 : ∀ (i : Nat) a p c, γ[i]? = some (.own p c) → σ[i]? = some (some (.ref a)) → (∀ k, p = some k → B.pa k = some a) ∧ (p = none → B.N a = none)
  b5 : ∀ (i : Nat) a p c, γ[i]? = some (.own p c) → σ[i]? = some (some (.ref a)) → a ∈ B.m ∨ B.H a = none
  bN : ∀ b o, B.N b = some o → ∃ o', H b = some o'
  bd : ∀ a o, B.H a = some o → ∃ o', H a = some o' ∧ Kin o o'
structure RNew (K : PySem.W.Frag) (B : Bs) (F H : Hp) (σ : L2.St) (γ : Env) (a : Addr) (c : OC) : Prop where
  fa : F a = none
  ok : OCok K B F H a c
  bn : B.N a = none
  bm : a ∈ B.m ∨ B.H a = none
  na : ∀ (i : Nat) p c', γ[i]? = some (.own p c') → σ[i]? ≠ some (some (.ref a))
def RsOk (K : PySem.W.Frag) (B : Bs) (F H : Hp) (σ : L2.St) (γ : Env) (v : V) : RS → Prop
  | .val d => Rp (B.kz K) F v d
  | .own j c => σ[j]? = some (some v) ∧ ∃ p, γ[j]? = some (.own p c)
  | .new c => ∃ a, v = .ref a ∧ RNew K B F H σ γ a c
/-- the result still stands as it was told -/
def RS.ok (γ : Env) : RS → Prop
  | .own j c => ∃ p, look γ j = .own p c
  | _ => True

section
variable {K : PySem.W.Frag} {B : Bs} {F F' H H' : Hp} {σ : L2.St} {γ : Env} {v : V} {d : D}
theorem OCok.mono {a : Addr} {c : OC} (e : Ex F F') (hd : ∀ dx, H dx = some (.own a) → F dx = none → F' dx = none) (h : OCok K B F H a c) : OCok K B F' H a c := by
  cases c with
  | lst ds => obtain ⟨vs, h1, h2⟩ := h; exact ⟨vs, h1, h2.mono e⟩
  | ins C fs => obtain ⟨dx, fv, h1, h2, h3, h4, h5, h6⟩ := h; exact ⟨dx, fv, h1, h2, hd dx h2 h3, h4, h5, h6.mono e⟩
  | dct kd => obtain ⟨kv, h1, h2⟩ := h; exact ⟨kv, h1, h2.mono e⟩
theorem OCok.obj {a : Addr} {c : OC} (h : OCok K B F H a c) : ∃ o, H a = some o ∧ ∀ x, o ≠ .own x := by
  cases c with
  | lst ds => obtain ⟨vs, h1, h2⟩ := h; exact ⟨_, h1, fun x e => by cases e⟩
  | ins C fs => obtain ⟨dx, fv, h1, _⟩ := h; exact ⟨_, h1, fun x e => by cases e⟩
  | dct kd => obtain ⟨kv, h1, h2⟩ := h; exact ⟨_, h1, fun x e => by cases e⟩
/-- the heap may change elsewhere -/
theorem OCok.heap {a : Addr} {c : OC} (h : OCok K B F H a c) (ka : H' a = H a) (kd : ∀ dx, H dx = some (.own a) → H' dx = H dx) : OCok K B F H' a c := by
  cases c with
  | lst ds => obtain ⟨vs, h1, h2⟩ := h; exact ⟨vs, ka.trans h1, h2⟩
  | ins C fs => obtain ⟨dx, fv, h1, h2, h3⟩ := h; exact ⟨dx, fv, ka.trans h1, (kd dx h2).trans h2, h3⟩
  | dct kd => obtain ⟨kv, h1, h2⟩ := h; exact ⟨kv, ka.trans h1, h2⟩
theorem OCok.base {a : Addr} {c : OC} {B' : Bs} (h : OCok K B F H a c) (hN : B'.N = B.N) (hz : B'.z = B.z) (hm : ∀ dx, H dx = some (.own a) → dx ∈ B.m ∨ B.H dx = none → dx ∈ B'.m ∨ B'.H dx = none) : OCok K B' F H a c := by
  have e : B'.kz K = B.kz K := by unfold Bs.kz; rw [hz]
  cases c with
  | lst ds => obtain ⟨vs, h1, h2⟩ := h; exact ⟨vs, h1, by rw [e]; exact h2⟩
  | ins C fs => obtain ⟨dx, fv, h1, h2, h3, h4, h5, h6⟩ := h; exact ⟨dx, fv, h1, h2, h3, by rw [hN]; exact h4, hm dx h2 h5, by rw [e]; exact h6⟩
  | dct kd => obtain ⟨kv, h1, h2⟩ := h; exact ⟨kv, h1, by rw [e]; exact h2⟩

theorem Rep.val (R : Rep K B F H σ γ) {i : Nat} (h : look γ i = .val d) : ∃ v, σ[i]? = some (some v) ∧ Rp (B.kz K) F v d := by
  have hg := of_look h (by intro e; cases e)
  obtain ⟨h1, _⟩ := List.getElem?_eq_some_iff.mp hg
  have h2 : i < σ.length := by rw [R.len]; exact h1
  have hs : σ[i]? = some σ[i] := List.getElem?_eq_getElem h2
  obtain ⟨v, e, r⟩ := R.sl i _ _ hs hg
  exact ⟨v, by rw [hs, e], r⟩
theorem Rep.own (R : Rep K B F H σ γ) {i : Nat} {p : Option Nat} {c : OC} (h : look γ i = .own p c) : ∃ a, σ[i]? = some (some (.ref a)) ∧ γ[i]? = some (.own p c) ∧ F a = none ∧ OCok K B F H a c := by
  have hg := of_look h (by intro e; cases e)
  obtain ⟨h1, _⟩ := List.getElem?_eq_some_iff.mp hg
  have h2 : i < σ.length := by rw [R.len]; exact h1
  have hs : σ[i]? = some σ[i] := List.getElem?_eq_getElem h2
  obtain ⟨a, e, r, q⟩ := R.sl i _ _ hs hg
  exact ⟨a, by rw [hs, e], hg, r, q⟩
/-- a free address is free everywhere -/
theorem Rep.fresh (R : Rep K B F H σ γ) {p : Addr} (h : H p = none) : F p = none ∧ B.H p = none ∧ B.N p = none ∧ ∀ (i : Nat) q c', γ[i]? = some (.own q c') → σ[i]? ≠ some (some (.ref p)) := by
  refine ⟨?_, ?_, ?_, ?_⟩
  · cases e : F p with
    | none => rfl
    | some o => rw [R.fh p o e] at h; cases h
  · cases e : B.H p with
    | none => rfl
    | some o => obtain ⟨_, o', e'⟩ := R.b1 p o e; rw [e'] at h; cases h
  · cases e : B.N p with
    | none => rfl
    | some o => obtain ⟨o', e'⟩ := R.bN p o e; rw [e'] at h; cases h
  · intro i q c' hg hs
    obtain ⟨a, e, _, ok⟩ := R.sl i _ _ hs hg
    cases e
    obtain ⟨o, ho, _⟩ := ok.obj
    rw [ho] at h; cases h
/-- a slot's address, and that it is no own dict -/
theorem Rep.ownObj (R : Rep K B F H σ γ) {i : Nat} {p : Option Nat} {c : OC} {a : Addr} (hg : γ[i]? = some (.own p c)) (hs : σ[i]? = some (some (.ref a))) : F a = none ∧ OCok K B F H a c := by
  obtain ⟨a', e, f, ok⟩ := R.sl i _ _ hs hg
  cases e
  exact ⟨f, ok⟩
/-- a new object, not frozen -/
theorem Rep.alloc (R : Rep K B F H σ γ) {p : Addr} (o : HO) (h : H p = none) : Rep K B F (upd H p o) σ γ := by
  have hx : Ex H (upd H p o) := Ex.new h
  have nep : ∀ {b : Addr} {x : HO}, H b = some x → b ≠ p := fun e => ne_of_none e h
  refine ⟨R.fh.trans hx, R.len, fun i s t hs hg => ?_, R.nd, fun b x e => ?_, R.b2, R.b3, R.b4, R.b5, fun b x e => ?_, fun a x e => let ⟨o', h, k⟩ := R.bd a x e; ⟨o', hx _ _ h, k⟩⟩
  · have q := R.sl i s t hs hg
    cases t with
    | no => trivial
    | val d => exact q
    | own q' c =>
      obtain ⟨a, e, f, ok⟩ := q
      obtain ⟨o', ho', _⟩ := ok.obj
      exact ⟨a, e, f, ok.heap (upd_ne (nep ho')) fun dx hd => upd_ne (nep hd)⟩
  · obtain ⟨h1, o', h2⟩ := R.b1 b x e
    exact ⟨fun n => hx _ _ (h1 n), o', hx _ _ h2⟩
  · obtain ⟨o', h2⟩ := R.bN b x e
    exact ⟨o', hx _ _ h2⟩
/-- F takes up what H holds at a, which nobody owns -/
theorem Rep.freeze (R : Rep K B F H σ γ) {a : Addr} {o : HO} (h : H a = some o) (fa : F a = none) (bm : a ∈ B.m ∨ B.H a = none) (na : ∀ (i : Nat) q c', γ[i]? = some (.own q c') → σ[i]? ≠ some (some (.ref a)) ∧ ∀ x, σ[i]? = some (some (.ref x)) → o ≠ .own x) :
    Rep K B (upd F a o) H σ γ ∧ Ex F (upd F a o) := by
  have hx : Ex F (upd F a o) := Ex.new fa
  refine ⟨⟨fun b x e => ?_, R.len, fun i s t hs hg => ?_, R.nd, R.b1, R.b2.trans hx, fun b x e n => ?_, R.b4, R.b5, R.bN, R.bd⟩, hx⟩
  · by_cases hb : b = a
    · subst hb; rw [upd_same] at e; cases e; exact h
    · rw [upd_ne hb] at e; exact R.fh b x e
  · have q := R.sl i s t hs hg
    cases t with
    | no => trivial
    | val d => obtain ⟨v, e, r⟩ := q; exact ⟨v, e, r.mono hx⟩
    | own q' c =>
      obtain ⟨b, e, f, ok⟩ := q
      subst e
      obtain ⟨n1, n2⟩ := na i _ _ hg
      have nba : b ≠ a := fun z => n1 (by rw [hs, z])
      refine ⟨b, rfl, by rw [upd_ne nba]; exact f, ok.mono hx fun dx hd fd => ?_⟩
      have : dx ≠ a := fun z => by
        subst z
        rw [h] at hd
        exact n2 b hs (Option.some.inj hd)
      rw [upd_ne this]; exact fd
  · rcases bm with z | z
    · by_cases hb : b = a
      · subst hb; exact absurd z n
      · rw [upd_ne hb]; exact R.b3 b x e n
    · rw [upd_ne (ne_of_none e z)]; exact R.b3 b x e n
end
end DL

set_option Elab.async false
set_option linter.all false
set_option maxRecDepth 100000
set_option maxHeartbeats 2000000
namespace DL
open PySem PySem.Spec PyProof.Rows L2
open Evl (Ex ex_l ex_t)

abbrev DE := Env → (RS → Env → Prop) → Prop
abbrev DT := Env → (Bool → Env → Prop) → Prop
abbrev DA := Env → (List RS → Env → Prop) → Prop
def SE (K : PySem.W.Frag) (B : Bs) (te : TE) (de : DE) : Prop := ∀ (F H : Hp) (σ : L2.St) (γ : Env) (Q : VK) (q : RS → Env → Prop), Rep K B F H σ γ → de γ q →
  (∀ v F' H' γ' s, Rep K B F' H' σ γ' → Ex F F' → RsOk K B F' H' σ γ' v s → q s γ' → Q v H') → te σ H Q
def ST (K : PySem.W.Frag) (B : Bs) (tt : TT) (dt : DT) : Prop := ∀ (F H : Hp) (σ : L2.St) (γ : Env) (Q : Bool → Hp → Prop) (q : Bool → Env → Prop), Rep K B F H σ γ → dt γ q →
  (∀ b F' H' γ', Rep K B F' H' σ γ' → Ex F F' → q b γ' → Q b H') → tt σ H Q
def SA (K : PySem.W.Frag) (B : Bs) (ta : TA) (da : DA) : Prop := ∀ (F H : Hp) (σ : L2.St) (γ : Env) (Q : List V → Hp → Prop) (q : List RS → Env → Prop), Rep K B F H σ γ → da γ q →
  (∀ vs F' H' γ' rs, Rep K B F' H' σ γ' → Ex F F' → Paired (RsOk K B F' H' σ γ') vs rs → q rs γ' → Q vs H') → ta σ H Q
structure XE (X : Cx) (B : Bs) (e : Expr) (te : TE) (de : DE) : Prop where
  pe : PE X e te
  se : SE X.K B te de
structure XT (X : Cx) (B : Bs) (e : Expr) (tt : TT) (dt : DT) : Prop where
  pt : PT X e tt
  st : ST X.K B tt dt
structure XW (X : Cx) (B : Bs) (e : Expr) (tt : TT) (dt : DT) : Prop where
  pw : PW X e tt
  st : ST X.K B tt dt
structure XA (X : Cx) (B : Bs) (es : List Expr) (ta : TA) (da : DA) : Prop where
  pa : PA X es ta
  sa : SA X.K B ta da

/-- a new thing that is not given a name stays -/
def RS.fz : RS → RS
  | .new c => .val c.data
  | s => s
theorem RS.fz_data (s : RS) : s.fz.data = s.data := by cases s <;> rfl
section
variable {K : PySem.W.Frag} {B : Bs} {F F' H H' : Hp} {σ : L2.St} {γ γ' : Env} {v : V} {d : D}
theorem RsOk.fz (R : Rep K B F H σ γ) {s : RS} (h : RsOk K B F H σ γ v s) : ∃ F', Rep K B F' H σ γ ∧ Ex F F' ∧ RsOk K B F' H σ γ v s.fz := by
  cases s with
  | val d => exact ⟨F, R, Evl.Ex.refl F, h⟩
  | own j c => exact ⟨F, R, Evl.Ex.refl F, h⟩
  | new c =>
    obtain ⟨a, rfl, N⟩ := h
    have ok := N.ok
    cases c with
    | lst ds =>
      obtain ⟨vs, h1, h2⟩ := ok
      obtain ⟨R', e⟩ := R.freeze h1 N.fa N.bm fun i q c' hg => ⟨N.na i q c' hg, fun x _ z => by cases z⟩
      exact ⟨_, R', e, .lst upd_same (h2.mono e)⟩
    | dct kd =>
      obtain ⟨kv, h1, h2⟩ := ok
      obtain ⟨R', e⟩ := R.freeze h1 N.fa N.bm fun i q c' hg => ⟨N.na i q c' hg, fun x _ z => by cases z⟩
      exact ⟨_, R', e, .dct upd_same (h2.mono e)⟩
    | ins C fs =>
      obtain ⟨dx, fv, h1, h2, h3, h4, h5, h6⟩ := ok
      have na : a ≠ dx := ne_of h1 h2 (fun z => by cases z)
      obtain ⟨R', e⟩ := R.freeze h2 h3 h5 fun i q c' hg => ⟨fun hs => by
        obtain ⟨_, ok'⟩ := R.ownObj hg hs
        obtain ⟨o, ho, n⟩ := ok'.obj
        rw [h2] at ho
        exact n a (Option.some.inj ho).symm, fun x hs z => by
        injection z with z
        subst z
        exact N.na i q c' hg hs⟩
      obtain ⟨R2, e2⟩ := R'.freeze h1 (by rw [upd_ne na]; exact N.fa) N.bm fun i q c' hg => ⟨N.na i q c' hg, fun x _ z => by cases z⟩
      refine ⟨_, R2, e.trans e2, .obj upd_same (e2 dx _ upd_same) (h6.mono (e.trans e2))⟩
/-- read as it stands: frozen, or owned -/
def Rs (K : KZ) (F H : Hp) (v : V) (d : D) : Prop := Rp K F v d ∨ ∃ a, v = .ref a ∧
  ((∃ vs ds, d = .lst ds ∧ H a = some (.lst vs) ∧ RpAll K F vs ds) ∨ (∃ C dx fv fs, d = .obj C fs ∧ H a = some (.ins (ctOf K.fr C) dx fv) ∧ H dx = some (.own a) ∧ RpFs K F fv fs) ∨ ∃ kv kd, d = .dct kd ∧ H a = some (.dK kv) ∧ RpKs K F kv kd)
theorem OCok.rs {a : Addr} {c : OC} (h : OCok K B F H a c) : Rs (B.kz K) F H (.ref a) c.data := by
  cases c with
  | lst ds => obtain ⟨vs, h1, h2⟩ := h; exact .inr ⟨a, rfl, .inl ⟨vs, ds, rfl, h1, h2⟩⟩
  | ins C fs => obtain ⟨dx, fv, h1, h2, _, _, _, h6⟩ := h; exact .inr ⟨a, rfl, .inr (.inl ⟨C, dx, fv, fs, rfl, h1, h2, h6⟩)⟩
  | dct kd => obtain ⟨kv, h1, h2⟩ := h; exact .inr ⟨a, rfl, .inr (.inr ⟨kv, kd, rfl, h1, h2⟩)⟩
/-- what a result says later: val grows, own is asked again -/
theorem RsOk.later {s : RS} {F1 H1 F2 H2 : Hp} {γ1 γ2 : Env} (h : RsOk K B F1 H1 σ γ1 v s) (e : Ex F1 F2) (R2 : Rep K B F2 H2 σ γ2) (hok : s.ok γ2) (hf : s.fz = s) : RsOk K B F2 H2 σ γ2 v s := by
  cases s with
  | val d => exact Rp.mono e h
  | own j c =>
    obtain ⟨p, hp⟩ := hok
    obtain ⟨a, _, hg, _⟩ := R2.own hp
    exact ⟨h.1, p, hg⟩
  | new c => cases hf
theorem RsOk.rs (R : Rep K B F H σ γ) {s : RS} (h : RsOk K B F H σ γ v s) : Rs (B.kz K) F H v s.data := by
  cases s with
  | val d => exact .inl h
  | own j c =>
    obtain ⟨hs, p, hg⟩ := h
    obtain ⟨a, e, _, ok⟩ := R.sl j _ _ hs hg
    cases e
    exact ok.rs
  | new c =>
    obtain ⟨a, rfl, N⟩ := h
    exact N.ok.rs
theorem fz_idem (s : RS) : s.fz.fz = s.fz := by cases s <;> rfl
theorem fz_ok (s : RS) (γ : Env) : s.ok γ → s.fz.ok γ := by cases s <;> exact fun h => h
theorem ok_own {j : Nat} {c : OC} {p : Option Nat} (h : look γ j = .own p c) : RS.ok γ (.own j c) := ⟨p, h⟩
end
/-! inversions -/
section
variable {K : KZ} {F F' H H' : Hp} {v : V} {d : D}
theorem Rs.int {i : Int} (h : Rs K F H v (.int i)) : v = .int i := by
  rcases h with h | ⟨a, rfl, ⟨_, _, e, _⟩ | ⟨_, _, _, _, e, _⟩ | ⟨_, _, e, _⟩⟩
  · cases h; rfl
  all_goals cases e
theorem Rs.bl {i : Bool} (h : Rs K F H v (.bl i)) : v = .bl i := by
  rcases h with h | ⟨a, rfl, ⟨_, _, e, _⟩ | ⟨_, _, _, _, e, _⟩ | ⟨_, _, e, _⟩⟩
  · cases h; rfl
  all_goals cases e
theorem Rs.str {i : Str} (h : Rs K F H v (.str i)) : v = .str i := by
  rcases h with h | ⟨a, rfl, ⟨_, _, e, _⟩ | ⟨_, _, _, _, e, _⟩ | ⟨_, _, e, _⟩⟩
  · cases h; rfl
  all_goals cases e
theorem Rs.non (h : Rs K F H v .non) : v = .non := by
  rcases h with h | ⟨a, rfl, ⟨_, _, e, _⟩ | ⟨_, _, _, _, e, _⟩ | ⟨_, _, e, _⟩⟩
  · cases h; rfl
  all_goals cases e
theorem Rs.lst {ds : List D} (e : Ex F H) (h : Rs K F H v (.lst ds)) : ∃ a vs, v = .ref a ∧ H a = some (.lst vs) ∧ RpAll K F vs ds := by
  rcases h with h | ⟨a, rfl, ⟨vs, _, e, h1, h2⟩ | ⟨_, _, _, _, e, _⟩ | ⟨_, _, e, _⟩⟩
  · cases h with
    | lst h1 h2 => exact ⟨_, _, rfl, e _ _ h1, h2⟩
  · cases e; exact ⟨a, vs, rfl, h1, h2⟩
  all_goals cases e
theorem Rs.tup {ds : List D} (e : Ex F H) (h : Rs K F H v (.tup ds)) : ∃ a vs, v = .ref a ∧ SqT K H a vs ∧ RpAll K F vs ds := by
  rcases h with h | ⟨a, rfl, ⟨vs, _, e, h1, h2⟩ | ⟨_, _, _, _, e, _⟩ | ⟨_, _, e, _⟩⟩
  · cases h with
    | tup h1 h2 => exact ⟨_, _, rfl, ex_t e h1, h2⟩
  all_goals cases e
end

/-! ### names and constants -/
section
variable {X : Cx} {B : Bs} {pos : Pos}
def dC (d : D) (γ : Env) (q : RS → Env → Prop) : Prop := q (.val d) γ
/-- a name, as it stands -/
def dVar (i : Nat) (γ : Env) (q : RS → Env → Prop) : Prop := match look γ i with
  | .val d => q (.val d) γ
  | .own _ c => q (.own i c) γ
  | .no => False
/-- a name whose thing stays from here on -/
def dVarV (i : Nat) (γ : Env) (q : RS → Env → Prop) : Prop := match look γ i with
  | .val d => q (.val d) γ
  | .own _ c => q (.val c.data) (put γ i (.val c.data))
  | .no => False
/-- a name that is given away -/
def dVarM (i : Nat) (γ : Env) (q : RS → Env → Prop) : Prop := match look γ i with
  | .val d => q (.val d) γ
  | .own none c => q (.new c) (put γ i .no)
  | .own (some _) _ => False
  | .no => False
theorem se_c {K : PySem.W.Frag} {B : Bs} {v : V} {d : D} (h : ∀ z F, Rp ⟨K, z⟩ F v d) : SE K B (tC v) (dC d) := fun F H σ γ Q q R hq k => k v F H γ (.val d) R (Evl.Ex.refl F) (h B.z F) hq
theorem se_var {K : PySem.W.Frag} {B : Bs} {i : Nat} : SE K B (tVar i) (dVar i) := fun F H σ γ Q q R hq k => by
  unfold dVar at hq
  cases e : look γ i with
  | no => rw [e] at hq; exact hq.elim
  | val d =>
    rw [e] at hq
    obtain ⟨v, hs, r⟩ := R.val e
    exact ⟨v, hs, k v F H γ (.val d) R (Evl.Ex.refl F) r hq⟩
  | own p c =>
    rw [e] at hq
    obtain ⟨a, hs, hg, _⟩ := R.own e
    exact ⟨.ref a, hs, k _ F H γ (.own i c) R (Evl.Ex.refl F) ⟨hs, p, hg⟩ hq⟩
section
variable {K : PySem.W.Frag} {B : Bs} {F H : Hp} {σ : L2.St} {γ : Env}
theorem get_put {i j : Nat} {s t : Sx} (h : (put γ i s)[j]? = some t) : (j = i ∧ t = s) ∨ (j ≠ i ∧ γ[j]? = some t) := by
  rw [put_set] at h
  by_cases e : i = j
  · subst e
    by_cases hl : i < γ.length
    · rw [List.getElem?_set_self hl] at h; exact .inl ⟨rfl, (Option.some.inj h).symm⟩
    · rw [List.getElem?_eq_none (by rw [List.length_set]; omega)] at h; cases h
  · rw [List.getElem?_set_ne e] at h; exact .inr ⟨fun z => e z.symm, h⟩
/-- a slot told less, or by frozen data -/
theorem Rep.told (R : Rep K B F H σ γ) {i : Nat} {t : Sx} (ht : ∀ s, σ[i]? = some s → SlotOk K B F H s t) (hn : ∀ p c, t ≠ .own p c) : Rep K B F H σ (put γ i t) := by
  have key : ∀ {j : Nat} {p : Option Nat} {c : OC}, (put γ i t)[j]? = some (.own p c) → γ[j]? = some (.own p c) := fun h => by
    rcases get_put h with ⟨_, e⟩ | ⟨_, e⟩
    · exact absurd e.symm (hn _ _)
    · exact e
  refine ⟨R.fh, by rw [put_len]; exact R.len, fun j s u hs hg => ?_, fun i j a p c q c' h1 h2 => R.nd i j a p c q c' (key h1) (key h2), R.b1, R.b2, R.b3, fun j a p c h1 => R.b4 j a p c (key h1), fun j a p c h1 => R.b5 j a p c (key h1), R.bN, R.bd⟩
  rcases get_put hg with ⟨rfl, rfl⟩ | ⟨_, e⟩
  · exact ht s hs
  · exact R.sl j s u hs e
/-- the thing in slot i is given away -/
theorem Rep.move (R : Rep K B F H σ γ) {i : Nat} {c : OC} (e : look γ i = .own none c) : ∃ a, σ[i]? = some (some (.ref a)) ∧ Rep K B F H σ (put γ i .no) ∧ RNew K B F H σ (put γ i .no) a c := by
  obtain ⟨a, hs, hg, fa, ok⟩ := R.own e
  refine ⟨a, hs, R.told (fun _ _ => trivial) (fun _ _ z => by cases z), fa, ok, (R.b4 i a none c hg hs).2 rfl, R.b5 i a none c hg hs, fun j p c' h1 h2 => ?_⟩
  rcases get_put h1 with ⟨_, z⟩ | ⟨n, z⟩
  · cases z
  · exact n (R.nd j i a p c' none c z hg h2 hs)
/-- the thing in slot i stays from here on -/
theorem Rep.freezeVar (R : Rep K B F H σ γ) {i : Nat} {p : Option Nat} {c : OC} (e : look γ i = .own p c) : ∃ a F', σ[i]? = some (some (.ref a)) ∧ Rep K B F' H σ (put γ i (.val c.data)) ∧ Ex F F' ∧ Rp (B.kz K) F' (.ref a) c.data := by
  obtain ⟨a, hs, hg, fa, ok⟩ := R.own e
  have R0 : Rep K B F H σ (put γ i .no) := R.told (fun _ _ => trivial) (fun _ _ z => by cases z)
  have na : ∀ (j : Nat) q c', (put γ i .no)[j]? = some (.own q c') → σ[j]? ≠ some (some (.ref a)) := fun j q c' h1 h2 => by
    rcases get_put h1 with ⟨_, z⟩ | ⟨n, z⟩
    · cases z
    · exact n (R.nd j i a q c' p c z hg h2 hs)
  have b5 := R.b5 i a p c hg hs
  obtain ⟨F', R', ex, rp⟩ : ∃ F', Rep K B F' H σ (put γ i .no) ∧ Ex F F' ∧ Rp (B.kz K) F' (.ref a) c.data := by
    cases c with
    | lst ds =>
      obtain ⟨vs, h1, h2⟩ := ok
      obtain ⟨R', e⟩ := R0.freeze h1 fa b5 fun i q c' hg => ⟨na i q c' hg, fun x _ z => by cases z⟩
      exact ⟨_, R', e, .lst upd_same (h2.mono e)⟩
    | dct kd =>
      obtain ⟨kv, h1, h2⟩ := ok
      obtain ⟨R', e⟩ := R0.freeze h1 fa b5 fun i q c' hg => ⟨na i q c' hg, fun x _ z => by cases z⟩
      exact ⟨_, R', e, .dct upd_same (h2.mono e)⟩
    | ins C fs =>
      obtain ⟨dx, fv, h1, h2, h3, h4, h5, h6⟩ := ok
      have nad : a ≠ dx := ne_of h1 h2 (fun z => by cases z)
      obtain ⟨R', e⟩ := R0.freeze h2 h3 h5 fun i q c' hg => ⟨fun hs => by
        obtain ⟨_, ok'⟩ := R0.ownObj hg hs
        obtain ⟨o, ho, n⟩ := ok'.obj
        rw [h2] at ho
        exact n a (Option.some.inj ho).symm, fun x hs z => by
        injection z with z
        subst z
        exact na i q c' hg hs⟩
      obtain ⟨R2, e2⟩ := R'.freeze h1 (by rw [upd_ne nad]; exact fa) b5 fun i q c' hg => ⟨na i q c' hg, fun x _ z => by cases z⟩
      exact ⟨_, R2, e.trans e2, .obj upd_same (e2 dx _ upd_same) (h6.mono (e.trans e2))⟩
  refine ⟨a, F', hs, ?_, ex, rp⟩
  have q := R'.told (i := i) (t := .val c.data) (fun s hs' => by rw [hs] at hs'; cases hs'; exact ⟨_, rfl, rp⟩) (fun _ _ z => by cases z)
  have pp : put (put γ i .no) i (.val c.data) = put γ i (.val c.data) := by rw [put_set, put_set, put_set, List.set_set]
  rw [pp] at q
  exact q
end
theorem se_varV {K : PySem.W.Frag} {B : Bs} {i : Nat} : SE K B (tVar i) (dVarV i) := fun F H σ γ Q q R hq k => by
  unfold dVarV at hq
  cases e : look γ i with
  | no => rw [e] at hq; exact hq.elim
  | val d =>
    rw [e] at hq
    obtain ⟨v, hs, r⟩ := R.val e
    exact ⟨v, hs, k v F H γ (.val d) R (Evl.Ex.refl F) r hq⟩
  | own p c =>
    rw [e] at hq
    obtain ⟨a, F', hs, R', ex, rp⟩ := R.freezeVar e
    exact ⟨.ref a, hs, k _ F' H _ (.val c.data) R' ex rp hq⟩
theorem se_varM {K : PySem.W.Frag} {B : Bs} {i : Nat} : SE K B (tVar i) (dVarM i) := fun F H σ γ Q q R hq k => by
  unfold dVarM at hq
  cases e : look γ i with
  | no => rw [e] at hq; exact hq.elim
  | val d =>
    rw [e] at hq
    obtain ⟨v, hs, r⟩ := R.val e
    exact ⟨v, hs, k v F H γ (.val d) R (Evl.Ex.refl F) r hq⟩
  | own p c =>
    rw [e] at hq
    cases p with
    | some k' => exact hq.elim
    | none =>
      obtain ⟨a, hs, R', N⟩ := R.move e
      exact ⟨.ref a, hs, k _ F H _ (.new c) R' (Evl.Ex.refl F) ⟨a, rfl, N⟩ hq⟩
section
variable {x : Str}
theorem xv (i : Nat) (hN : X.N[i]? = some x := by rfl) (hv : Vis X.env.scope x := by first | exact Or.inl rfl | exact Or.inr (Or.inl rfl) | exact Or.inr (Or.inr rfl)) (hd : (x == ("__debug__" : Str)) = false := by decide)
    (hcd : (x == ("__classdict__" : Str)) = false := by decide) : XE X B (.Name x pos) (tVar i) (dVar i) := ⟨pe_var hN hv hd hcd, se_var⟩
theorem xvV (i : Nat) (hN : X.N[i]? = some x := by rfl) (hv : Vis X.env.scope x := by first | exact Or.inl rfl | exact Or.inr (Or.inl rfl) | exact Or.inr (Or.inr rfl)) (hd : (x == ("__debug__" : Str)) = false := by decide)
    (hcd : (x == ("__classdict__" : Str)) = false := by decide) : XE X B (.Name x pos) (tVar i) (dVarV i) := ⟨pe_var hN hv hd hcd, se_varV⟩
theorem xvM (i : Nat) (hN : X.N[i]? = some x := by rfl) (hv : Vis X.env.scope x := by first | exact Or.inl rfl | exact Or.inr (Or.inl rfl) | exact Or.inr (Or.inr rfl)) (hd : (x == ("__debug__" : Str)) = false := by decide)
    (hcd : (x == ("__classdict__" : Str)) = false := by decide) : XE X B (.Name x pos) (tVar i) (dVarM i) := ⟨pe_var hN hv hd hcd, se_varM⟩
end
theorem x_int {i j} : XE X B (.Constant (.int i) j pos) (tC (.int i)) (dC (.int i)) := ⟨pe_int, se_c fun _ _ => .int i⟩
theorem x_bl {i j} : XE X B (.Constant (.bool i) j pos) (tC (.bl i)) (dC (.bl i)) := ⟨pe_bl, se_c fun _ _ => .bl i⟩
theorem x_non {j} : XE X B (.Constant .none j pos) (tC .non) (dC .non) := ⟨pe_non, se_c fun _ _ => .non⟩
theorem x_str {i j} : XE X B (.Constant (.str i) j pos) (tC (.str i)) (dC (.str i)) := ⟨pe_str, se_c fun _ _ => .str i⟩
theorem x_glob {x : Str} {v : V} {d : D} {u : Value} (hg : Gl X x) (hm : X.mg x = some u) (r : RelV v u) (h : ∀ z F, Rp ⟨X.K, z⟩ F v d) (hd : (x == ("__debug__" : Str)) = false := by decide) : XE X B (.Name x pos) (tC v) (dC d) := ⟨pe_glob hg hm r hd, se_c h⟩
end

/-! ### operations -/
def OpD (K : PySem.W.Frag) (r : R2) (f : D → D → (RS → Prop) → Prop) : Prop := ∀ (B : Bs) (F H : Hp) (σ : L2.St) (γ : Env) (x y : V) (d e : D) (Q : VK) (q : RS → Prop), Rep K B F H σ γ → Rs (B.kz K) F H x d → Rs (B.kz K) F H y e → f d e q →
  (∀ v F' H' s, Rep K B F' H' σ γ → Ex F F' → RsOk K B F' H' σ γ v s → q s → Q v H') → r x y H Q
def UnD (K : PySem.W.Frag) (r : V → Hp → VK → Prop) (f : D → (RS → Prop) → Prop) : Prop := ∀ (B : Bs) (F H : Hp) (σ : L2.St) (γ : Env) (x : V) (d : D) (Q : VK) (q : RS → Prop), Rep K B F H σ γ → Rs (B.kz K) F H x d → f d q →
  (∀ v F' H' s, Rep K B F' H' σ γ → Ex F F' → RsOk K B F' H' σ γ v s → q s → Q v H') → r x H Q
def CallD (K : PySem.W.Frag) (r : List V → Hp → VK → Prop) (f : List D → (RS → Prop) → Prop) : Prop := ∀ (B : Bs) (F H : Hp) (σ : L2.St) (γ : Env) (xs : List V) (ds : List D) (Q : VK) (q : RS → Prop), Rep K B F H σ γ → Paired (Rs (B.kz K) F H) xs ds → f ds q →
  (∀ v F' H' s, Rep K B F' H' σ γ → Ex F F' → RsOk K B F' H' σ γ v s → q s → Q v H') → r xs H Q
def d2 (f : D → D → (RS → Prop) → Prop) (da db : DE) (γ : Env) (q : RS → Env → Prop) : Prop := da γ fun s γ1 => db γ1 fun t γ2 => s.ok γ2 ∧ f s.data t.data fun r => q r γ2
def d1 (f : D → (RS → Prop) → Prop) (da : DE) (γ : Env) (q : RS → Env → Prop) : Prop := da γ fun s γ1 => f s.data fun r => q r γ1
section
variable {K : PySem.W.Frag} {B : Bs} {ta tb : TE} {da db : DE}
theorem se_op {r : R2} {f : D → D → (RS → Prop) → Prop} (ho : OpD K r f) (sa : SE K B ta da) (sb : SE K B tb db) : SE K B (tOp r ta tb) (d2 f da db) := fun F H σ γ Q q R hq k => by
  refine sa F H σ γ _ _ R hq fun x F1 H1 γ1 s R1 e1 o1 h1 => ?_
  obtain ⟨F2, R2, e2, o2⟩ := o1.fz R1
  refine sb F2 H1 σ γ1 _ _ R2 h1 fun y F3 H3 γ3 t R3 e3 o3 ⟨h3, h4⟩ => ?_
  obtain ⟨F4, R4, e4, o4⟩ := o3.fz R3
  have ox := o2.later (e3.trans e4) R4 (fz_ok s γ3 h3) (fz_idem s)
  have rx := ox.rs R4
  have ry := o4.rs R4
  rw [RS.fz_data] at rx ry
  exact ho B F4 H3 σ γ3 x y _ _ Q _ R4 rx ry h4 fun v F5 H5 u R5 e5 o5 h5 => k v F5 H5 γ3 u R5 ((((e1.trans e2).trans e3).trans e4).trans e5) o5 h5
theorem se_un {r : V → Hp → VK → Prop} {f : D → (RS → Prop) → Prop} (ho : UnD K r f) (sa : SE K B ta da) : SE K B (tUn r ta) (d1 f da) := fun F H σ γ Q q R hq k => by
  refine sa F H σ γ _ _ R hq fun x F1 H1 γ1 s R1 e1 o1 h1 => ?_
  obtain ⟨F2, R2, e2, o2⟩ := o1.fz R1
  have rx := o2.rs R2
  rw [RS.fz_data] at rx
  exact ho B F2 H1 σ γ1 x _ Q _ R2 rx h1 fun v F5 H5 u R5 e5 o5 h5 => k v F5 H5 γ1 u R5 ((e1.trans e2).trans e5) o5 h5
def dNil (γ : Env) (q : List RS → Env → Prop) : Prop := q [] γ
/-- what a result is by now -/
def RS.now (γ : Env) : RS → (RS → Prop) → Prop
  | .own j _, q => match look γ j with
    | .own _ c => q (.own j c)
    | .val d => q (.val d)
    | .no => False
  | .val d, q => q (.val d)
  | .new c, q => q (.val c.data)
theorem RsOk.now {B : Bs} {F1 H1 F2 H2 : Hp} {σ : L2.St} {γ1 γ2 : Env} {v : V} {s : RS} {q : RS → Prop} (h : RsOk K B F1 H1 σ γ1 v s.fz) (e : Ex F1 F2) (R2 : Rep K B F2 H2 σ γ2) (hq : s.now γ2 q) : ∃ s', RsOk K B F2 H2 σ γ2 v s' ∧ q s' := by
  cases s with
  | val d => exact ⟨.val d, Rp.mono e h, hq⟩
  | new c => exact ⟨.val c.data, Rp.mono e h, hq⟩
  | own j c =>
    obtain ⟨hs, p, hg⟩ := h
    unfold RS.now at hq
    cases el : look γ2 j with
    | no => simp only [el] at hq
    | val d =>
      simp only [el] at hq
      obtain ⟨v', hs', r⟩ := R2.val el
      rw [hs] at hs'
      cases hs'
      exact ⟨.val d, r, hq⟩
    | own p' c' =>
      simp only [el] at hq
      obtain ⟨a, hs', hg', _⟩ := R2.own el
      exact ⟨.own j c', ⟨hs, p', hg'⟩, hq⟩
def dCons (da : DE) (dr : DA) (γ : Env) (q : List RS → Env → Prop) : Prop := da γ fun s γ1 => dr γ1 fun rs γ2 => s.now γ2 fun s' => q (s' :: rs) γ2
theorem sa_nil : SA K B tNil dNil := fun F H σ γ Q q R hq k => k [] F H γ [] R (Evl.Ex.refl F) .nil hq
theorem sa_cons {tr : TA} {dr : DA} (sa : SE K B ta da) (sr : SA K B tr dr) : SA K B (tCons ta tr) (dCons da dr) := fun F H σ γ Q q R hq k => by
  refine sa F H σ γ _ _ R hq fun x F1 H1 γ1 s R1 e1 o1 h1 => ?_
  obtain ⟨F2, R2, e2, o2⟩ := o1.fz R1
  refine sr F2 H1 σ γ1 _ _ R2 h1 fun vs F3 H3 γ3 rs R3 e3 o3 h3 => ?_
  obtain ⟨s', o4, h4⟩ := o2.now e3 R3 h3
  exact k _ F3 H3 γ3 _ R3 ((e1.trans e2).trans e3) (.cons o4 o3) h4
/-- the data of arguments -/
def dCB (f : List D → (RS → Prop) → Prop) (da : DA) (γ : Env) (q : RS → Env → Prop) : Prop := da γ fun rs γ1 => f (rs.map RS.data) fun r => q r γ1
theorem rs_all {B : Bs} {F H : Hp} {σ : L2.St} {γ : Env} (R : Rep K B F H σ γ) : ∀ {vs : List V} {rs : List RS}, Paired (RsOk K B F H σ γ) vs rs → Paired (Rs (B.kz K) F H) vs (rs.map RS.data)
  | _, _, .nil => .nil
  | _, _, .cons h t => .cons (h.rs R) (rs_all R t)
theorem se_cb {ta : TA} {da : DA} {r : List V → Hp → VK → Prop} {f : List D → (RS → Prop) → Prop} (ho : CallD K r f) (sa : SA K B ta da) : SE K B (tCB r ta) (dCB f da) := fun F H σ γ Q q R hq k => by
  refine sa F H σ γ _ _ R hq fun vs F1 H1 γ1 rs R1 e1 o1 h1 => ?_
  exact ho B F1 H1 σ γ1 vs _ Q _ R1 (rs_all R1 o1) h1 fun v F5 H5 u R5 e5 o5 h5 => k v F5 H5 γ1 u R5 (e1.trans e5) o5 h5
end
section
variable {X : Cx} {B : Bs} {pos : Pos} {a b : Expr} {ta tb : TE} {da db : DE}
theorem x_op {op : Operator} {r : R2} {f : D → D → (RS → Prop) → Prop} (ho : OpR X (binaryOp op) r) (hd : OpD X.K r f) (ha : XE X B a ta da) (hb : XE X B b tb db) : XE X B (.BinOp a op b pos) (tOp r ta tb) (d2 f da db) := ⟨pe_op ho ha.pe hb.pe, se_op hd ha.se hb.se⟩
theorem x_un {op : UnaryOp} {r : V → Hp → VK → Prop} {f : D → (RS → Prop) → Prop} (ho : UnR X (unaryOp op) r) (hd : UnD X.K r f) (ha : XE X B a ta da) : XE X B (.UnaryOp op a pos) (tUn r ta) (d1 f da) := ⟨pe_un ho ha.pe, se_un hd ha.se⟩
theorem x_cmp {op : CmpOp} {r : R2} {f : D → D → (RS → Prop) → Prop} (ho : OpR X (compareOp op) r) (hd : OpD X.K r f) (ha : XE X B a ta da) (hb : XE X B b tb db) (hm : behindInMarks op b = false := by first | exact nomark _ | rfl) : XE X B (.Compare a [op] [b] pos) (tOp r ta tb) (d2 f da db) := ⟨pe_cmpR ho ha.pe hb.pe hm, se_op hd ha.se hb.se⟩
theorem x_ix {r : R2} {f : D → D → (RS → Prop) → Prop} (ho : IxR X r) (hd : OpD X.K r f) (ha : XE X B a ta da) (hb : XE X B b tb db) (hs : PlainIx b := by exact fun _ _ => rfl) : XE X B (.Subscript a b pos) (tOp r ta tb) (d2 f da db) := ⟨pe_ix ho ha.pe hb.pe hs, se_op hd ha.se hb.se⟩
theorem xa_nil : XA X B [] tNil dNil := ⟨pa_nil, sa_nil⟩
theorem xa_cons {es : List Expr} {tr : TA} {dr : DA} (ha : XE X B a ta da) (hr : XA X B es tr dr) (hs : starEach (a :: es) X.env = (false, eval a X.env) :: starEach es X.env := by rfl) : XA X B (a :: es) (tCons ta tr) (dCons da dr) := ⟨pa_cons ha.pe hr.pa hs, sa_cons ha.se hr.sa⟩
theorem x_cb {id : String} {es : List Expr} {x : Str} {p : Pos} {tl : TA} {dl : DA} {r : List V → Hp → VK → Prop} {f : List D → (RS → Prop) → Prop} (hc : CallR X (.builtin id) r) (hd : CallD X.K r f) (hm : X.mg x = none) (hl : XA X B (a :: es) tl dl)
    (hg : Gl X x := by rfl) (hv : bootBuiltins x = some (.builtin id) := by decide +kernel) (hn : x ≠ "__name__" := by decide) (hdb : (x == ("__debug__" : Str)) = false := by decide)
    (he : starEach (a :: es) X.env = (false, eval a X.env) :: starEach es X.env := by rfl) (hpl : (backTo pos (starEach es X.env)).any (·.1) = false := by rfl) : XE X B (.Call (.Name x p) (a :: es) [] pos) (tCB r tl) (dCB f dl) := ⟨pe_callB hc hg hm hv hl.pa hn hdb he hpl, se_cb hd hl.sa⟩
theorem x_ct {T : String} {es : List Expr} {x : Str} {p : Pos} {tl : TA} {dl : DA} {r : List V → Hp → VK → Prop} {f : List D → (RS → Prop) → Prop} (hc : CallR X (.type T) r) (hd : CallD X.K r f) (hm : X.mg x = none) (hl : XA X B (a :: es) tl dl)
    (hg : Gl X x := by rfl) (hv : bootBuiltins x = some (.type T) := by decide +kernel) (hn : x ≠ "__name__" := by decide) (hdb : (x == ("__debug__" : Str)) = false := by decide)
    (he : starEach (a :: es) X.env = (false, eval a X.env) :: starEach es X.env := by rfl) (hpl : (backTo pos (starEach es X.env)).any (·.1) = false := by rfl) : XE X B (.Call (.Name x p) (a :: es) [] pos) (tCB r tl) (dCB f dl) := ⟨pe_callTy hc hg hm hv hl.pa hn hdb he hpl, se_cb hd hl.sa⟩
end
end DL

set_option Elab.async false
set_option linter.all false
set_option maxRecDepth 100000
set_option maxHeartbeats 2000000
namespace DL
open PySem PySem.Spec PyProof.Rows L2
open Evl (Ex ex_l ex_t)
theorem sz_le {n : Nat} (h : n ≤ 1000000) : n ≤ sizeLine := Nat.le_trans h (by decide)

/-! ### new things -/
section
variable {K : PySem.W.Frag} {B : Bs} {F H : Hp} {σ : L2.St} {γ : Env} {p : Addr} {vs : List V} {ds : List D}
theorem Rep.newL (R : Rep K B F H σ γ) (hp : H p = none) (h : RpAll (B.kz K) F vs ds) : Rep K B F (upd H p (.lst vs)) σ γ ∧ RsOk K B F (upd H p (.lst vs)) σ γ (.ref p) (.new (.lst ds)) := by
  obtain ⟨f1, f2, f3, f4⟩ := R.fresh hp
  exact ⟨R.alloc _ hp, p, rfl, f1, ⟨vs, upd_same, h⟩, f3, .inr f2, f4⟩
theorem Rep.newT (R : Rep K B F H σ γ) (hp : H p = none) (h : RpAll (B.kz K) F vs ds) : Rep K B (upd F p (.tup vs)) (upd H p (.tup vs)) σ γ ∧ Ex F (upd F p (.tup vs)) ∧ Rp (B.kz K) (upd F p (.tup vs)) (.ref p) (.tup ds) := by
  obtain ⟨f1, f2, f3, f4⟩ := R.fresh hp
  obtain ⟨R2, e⟩ := (R.alloc (.tup vs) hp).freeze (a := p) (o := .tup vs) upd_same f1 (.inr f2) fun i q c' hg => ⟨f4 i q c' hg, fun x _ z => by cases z⟩
  exact ⟨R2, e, .tup (Evl.st_of upd_same) (h.mono e)⟩
end

/-! ### operations on numbers, texts, truths -/
theorem vk {K : PySem.W.Frag} {B : Bs} {F H : Hp} {σ : L2.St} {γ : Env} {v : V} {d : D} {Q : VK} {q : RS → Prop} (R : Rep K B F H σ γ) (k : ∀ v F' H' s, Rep K B F' H' σ γ → Ex F F' → RsOk K B F' H' σ γ v s → q s → Q v H')
    (r : Rp (B.kz K) F v d) (hq : q (.val d)) : Q v H := k v F H (.val d) R (Evl.Ex.refl F) r hq
def fI0 (g : Int → Int → D) : D → D → (RS → Prop) → Prop
  | .int i, .int j, q => q (.val (g i j))
  | _, _, _ => False
def fI (C : Int → Int → Prop) (g : Int → Int → D) : D → D → (RS → Prop) → Prop
  | .int i, .int j, q => C i j ∧ q (.val (g i j))
  | _, _, _ => False
def fU (g : Int → D) : D → (RS → Prop) → Prop
  | .int i, q => q (.val (g i))
  | _, _ => False
section
variable {K : PySem.W.Frag} {B : Bs}
theorem od_I0 {gv : Int → Int → V} {g : Int → Int → D} (h : ∀ i j z F, Rp ⟨K, z⟩ F (gv i j) (g i j)) : OpD K (rI0 gv) (fI0 g) := fun B F H σ γ x y d e Q q R rx ry hf k => by
  unfold fI0 at hf
  split at hf
  · exact ⟨_, _, rx.int, ry.int, vk R k (h _ _ _ F) hf⟩
  · exact hf.elim
theorem od_I {C : Int → Int → Prop} {gv : Int → Int → V} {g : Int → Int → D} (h : ∀ i j z F, Rp ⟨K, z⟩ F (gv i j) (g i j)) : OpD K (rI C gv) (fI C g) := fun B F H σ γ x y d e Q q R rx ry hf k => by
  unfold fI at hf
  split at hf
  · exact ⟨_, _, rx.int, ry.int, hf.1, vk R k (h _ _ _ F) hf.2⟩
  · exact hf.elim
theorem ud_U {gv : Int → V} {g : Int → D} (h : ∀ i z F, Rp ⟨K, z⟩ F (gv i) (g i)) : UnD K (rU gv) (fU g) := fun B F H σ γ x d Q q R rx hf k => by
  unfold fU at hf
  split at hf
  · exact ⟨_, rx.int, vk R k (h _ _ F) hf⟩
  · exact hf.elim
theorem od_add : OpD K (rI0 fun i j => .int (i + j)) (fI0 fun i j => .int (i + j)) := od_I0 fun _ _ _ _ => .int _
theorem od_sub : OpD K (rI0 fun i j => .int (i - j)) (fI0 fun i j => .int (i - j)) := od_I0 fun _ _ _ _ => .int _
theorem od_mul : OpD K (rI CMul fun i j => .int (i * j)) (fI CMul fun i j => .int (i * j)) := od_I fun _ _ _ _ => .int _
theorem od_fdiv : OpD K (rI CDiv fun i j => .int (i / j)) (fI CDiv fun i j => .int (i / j)) := od_I fun _ _ _ _ => .int _
theorem od_mod : OpD K (rI (fun _ j => 0 < j) fun i j => .int (i % j)) (fI (fun _ j => 0 < j) fun i j => .int (i % j)) := od_I fun _ _ _ _ => .int _
theorem od_mulW : OpD K (rI CMulW fun i j => .int (i * j)) (fI CMulW fun i j => .int (i * j)) := od_I fun _ _ _ _ => .int _
theorem od_fdivW : OpD K (rI CDivW fun i j => .int (i / j)) (fI CDivW fun i j => .int (i / j)) := od_I fun _ _ _ _ => .int _
theorem od_pow : OpD K (rI CPow fun i j => .int (i ^ j.toNat)) (fI CPow fun i j => .int (i ^ j.toNat)) := od_I fun _ _ _ _ => .int _
theorem od_shl : OpD K (rI CPow fun i j => .int (i * 2 ^ j.toNat)) (fI CPow fun i j => .int (i * 2 ^ j.toNat)) := od_I fun _ _ _ _ => .int _
theorem od_shr : OpD K (rI (fun _ j => 0 ≤ j) fun i j => .int (i / 2 ^ j.toNat)) (fI (fun _ j => 0 ≤ j) fun i j => .int (i / 2 ^ j.toNat)) := od_I fun _ _ _ _ => .int _
theorem od_bit {g : Int → Int → Int} : OpD K (rI0 fun i j => .int (g i j)) (fI0 fun i j => .int (g i j)) := od_I0 fun _ _ _ _ => .int _
theorem od_lt : OpD K (rI0 fun i j => .bl (decide (i < j))) (fI0 fun i j => .bl (decide (i < j))) := od_I0 fun _ _ _ _ => .bl _
theorem od_le : OpD K (rI0 fun i j => .bl (decide (i ≤ j))) (fI0 fun i j => .bl (decide (i ≤ j))) := od_I0 fun _ _ _ _ => .bl _
theorem od_gt : OpD K (rI0 fun i j => .bl (decide (j < i))) (fI0 fun i j => .bl (decide (j < i))) := od_I0 fun _ _ _ _ => .bl _
theorem od_ge : OpD K (rI0 fun i j => .bl (decide (j ≤ i))) (fI0 fun i j => .bl (decide (j ≤ i))) := od_I0 fun _ _ _ _ => .bl _
theorem ud_neg : UnD K (rU fun i => .int (-i)) (fU fun i => .int (-i)) := ud_U fun _ _ _ => .int _
/-- == of flat things of the kinds that are met -/
def fEq : D → D → (RS → Prop) → Prop
  | .int i, .int j, q => q (.val (.bl (decide (i = j))))
  | .str i, .str j, q => q (.val (.bl (decide (i = j))))
  | .bl i, .bl j, q => q (.val (.bl (decide (i = j))))
  | .non, .non, q => q (.val (.bl true))
  | .int _, .non, q => q (.val (.bl false))
  | .non, .int _, q => q (.val (.bl false))
  | .str _, .non, q => q (.val (.bl false))
  | .non, .str _, q => q (.val (.bl false))
  | .int _, .str _, q => q (.val (.bl false))
  | .str _, .int _, q => q (.val (.bl false))
  | _, _, _ => False
def fNe : D → D → (RS → Prop) → Prop
  | .int i, .int j, q => q (.val (.bl (!decide (i = j))))
  | .str i, .str j, q => q (.val (.bl (!decide (i = j))))
  | .bl i, .bl j, q => q (.val (.bl (!decide (i = j))))
  | .non, .non, q => q (.val (.bl false))
  | .int _, .non, q => q (.val (.bl true))
  | .non, .int _, q => q (.val (.bl true))
  | .str _, .non, q => q (.val (.bl true))
  | .non, .str _, q => q (.val (.bl true))
  | .int _, .str _, q => q (.val (.bl true))
  | .str _, .int _, q => q (.val (.bl true))
  | _, _, _ => False
theorem dec_inj {α : Type} [DecidableEq α] (f : α → V) (h : ∀ a b, f a = f b → a = b) (a b : α) : decide (f a = f b) = decide (a = b) := by
  by_cases e : a = b
  · subst e; simp
  · rw [decide_eq_false e, decide_eq_false fun z => e (h _ _ z)]
theorem od_eq : OpD K rEq fEq := fun B F H σ γ x y d e Q q R rx ry hf k => by
  unfold fEq at hf
  split at hf
  all_goals first
    | exact hf.elim
    | (rw [rx.int, ry.int]; exact ⟨rfl, by rw [dec_inj V.int (fun _ _ e => V.int.inj e)]; exact vk R k (.bl _) hf⟩)
    | (rw [rx.str, ry.str]; exact ⟨rfl, by rw [dec_inj V.str (fun _ _ e => V.str.inj e)]; exact vk R k (.bl _) hf⟩)
    | (rw [rx.bl, ry.bl]; exact ⟨rfl, by rw [dec_inj V.bl (fun _ _ e => V.bl.inj e)]; exact vk R k (.bl _) hf⟩)
    | (rw [rx.non, ry.non]; exact ⟨rfl, vk R k (.bl _) hf⟩)
    | (rw [rx.int, ry.non]; exact ⟨rfl, vk R k (.bl _) hf⟩)
    | (rw [rx.non, ry.int]; exact ⟨rfl, vk R k (.bl _) hf⟩)
    | (rw [rx.str, ry.non]; exact ⟨rfl, vk R k (.bl _) hf⟩)
    | (rw [rx.non, ry.str]; exact ⟨rfl, vk R k (.bl _) hf⟩)
    | (rw [rx.int, ry.str]; exact ⟨rfl, vk R k (.bl _) hf⟩)
    | (rw [rx.str, ry.int]; exact ⟨rfl, vk R k (.bl _) hf⟩)
theorem od_ne : OpD K rNe fNe := fun B F H σ γ x y d e Q q R rx ry hf k => by
  unfold fNe at hf
  split at hf
  all_goals first
    | exact hf.elim
    | (rw [rx.int, ry.int]; exact ⟨rfl, by rw [dec_inj V.int (fun _ _ e => V.int.inj e)]; exact vk R k (.bl _) hf⟩)
    | (rw [rx.str, ry.str]; exact ⟨rfl, by rw [dec_inj V.str (fun _ _ e => V.str.inj e)]; exact vk R k (.bl _) hf⟩)
    | (rw [rx.bl, ry.bl]; exact ⟨rfl, by rw [dec_inj V.bl (fun _ _ e => V.bl.inj e)]; exact vk R k (.bl _) hf⟩)
    | (rw [rx.non, ry.non]; exact ⟨rfl, vk R k (.bl _) hf⟩)
    | (rw [rx.int, ry.non]; exact ⟨rfl, vk R k (.bl _) hf⟩)
    | (rw [rx.non, ry.int]; exact ⟨rfl, vk R k (.bl _) hf⟩)
    | (rw [rx.str, ry.non]; exact ⟨rfl, vk R k (.bl _) hf⟩)
    | (rw [rx.non, ry.str]; exact ⟨rfl, vk R k (.bl _) hf⟩)
    | (rw [rx.int, ry.str]; exact ⟨rfl, vk R k (.bl _) hf⟩)
    | (rw [rx.str, ry.int]; exact ⟨rfl, vk R k (.bl _) hf⟩)
def fIsN : D → D → (RS → Prop) → Prop
  | .non, .non, q => q (.val (.bl true))
  | _, .non, q => q (.val (.bl false))
  | _, _, _ => False
def fNotN : D → D → (RS → Prop) → Prop
  | .non, .non, q => q (.val (.bl false))
  | _, .non, q => q (.val (.bl true))
  | _, _, _ => False
theorem Rs.ne_non {K : KZ} {F H : Hp} {v : V} {d : D} (h : Rs K F H v d) (n : d ≠ .non) : v ≠ .non := fun e => by
  subst e
  rcases h with h | ⟨a, z, _⟩
  · cases h; exact n rfl
  · cases z
theorem od_isN : OpD K (fun x y H Q => y = .non ∧ Q (.bl (decide (x = .non))) H) fIsN := fun B F H σ γ x y d e Q q R rx ry hf k => by
  unfold fIsN at hf
  split at hf
  · rw [rx.non]; exact ⟨ry.non, vk R k (.bl _) hf⟩
  · rename_i n
    refine ⟨ry.non, ?_⟩
    rw [decide_eq_false (rx.ne_non fun z => n z)]
    exact vk R k (.bl _) hf
  · exact hf.elim
theorem od_notN : OpD K (fun x y H Q => y = .non ∧ Q (.bl (!decide (x = .non))) H) fNotN := fun B F H σ γ x y d e Q q R rx ry hf k => by
  unfold fNotN at hf
  split at hf
  · rw [rx.non]; exact ⟨ry.non, vk R k (.bl _) hf⟩
  · rename_i n
    refine ⟨ry.non, ?_⟩
    rw [decide_eq_false (rx.ne_non fun z => n z)]
    exact vk R k (.bl _) hf
  · exact hf.elim
def fAddS : D → D → (RS → Prop) → Prop
  | .str i, .str j, q => i.length + j.length ≤ 1000000 ∧ q (.val (.str (i ++ j)))
  | _, _, _ => False
theorem od_addS : OpD K (fun x y H Q => ∃ i j, x = .str i ∧ y = .str j ∧ i.length + j.length ≤ sizeLine ∧ Q (.str (i ++ j)) H) fAddS := fun B F H σ γ x y d e Q q R rx ry hf k => by
  unfold fAddS at hf
  split at hf
  · exact ⟨_, _, rx.str, ry.str, sz_le hf.1, vk R k (.str _) hf.2⟩
  · exact hf.elim
def fLtS : D → D → (RS → Prop) → Prop
  | .str i, .str j, q => q (.val (.bl (decide (i.cps.toList < j.cps.toList))))
  | _, _, _ => False
theorem od_ltS : OpD K (fun x y H Q => ∃ i j, x = .str i ∧ y = .str j ∧ Q (.bl (decide (i.cps.toList < j.cps.toList))) H) fLtS := fun B F H σ γ x y d e Q q R rx ry hf k => by
  unfold fLtS at hf
  split at hf
  · exact ⟨_, _, rx.str, ry.str, vk R k (.bl _) hf⟩
  · exact hf.elim
end

/-! ### lists and tuples -/
section
variable {K : PySem.W.Frag} {B : Bs} {F H : Hp}
theorem rp_ints {K : KZ} : ∀ {vs : List V} {ns : List Int}, RpAll K F vs (ns.map D.int) → vs = ns.map V.int
  | _, [], .nil => rfl
  | _, n :: ns, .cons h t => by
    cases h
    rw [List.map_cons, rp_ints t]
theorem rp_bls {K : KZ} : ∀ {vs : List V} {ns : List Bool}, RpAll K F vs (ns.map D.bl) → vs = ns.map V.bl
  | _, [], .nil => rfl
  | _, n :: ns, .cons h t => by
    cases h
    rw [List.map_cons, rp_bls t]
theorem rp_strs {K : KZ} : ∀ {vs : List V} {ns : List Str}, RpAll K F vs (ns.map D.str) → vs = ns.map V.str
  | _, [], .nil => rfl
  | _, n :: ns, .cons h t => by
    cases h
    rw [List.map_cons, rp_strs t]
theorem ints_rp {K : KZ} : ∀ ns : List Int, RpAll K F (ns.map V.int) (ns.map D.int)
  | [] => .nil
  | n :: ns => .cons (.int n) (ints_rp ns)
theorem strs_rp {K : KZ} : ∀ ns : List Str, RpAll K F (ns.map V.str) (ns.map D.str)
  | [] => .nil
  | n :: ns => .cons (.str n) (strs_rp ns)
theorem bls_rp {K : KZ} : ∀ ns : List Bool, RpAll K F (ns.map V.bl) (ns.map D.bl)
  | [] => .nil
  | n :: ns => .cons (.bl n) (bls_rp ns)
theorem Rs.scr {K : KZ} {ns : List Int} {v : V} (e : Ex F H) (h : Rs K F H v (.scr ns)) : ∃ a, v = .ref a ∧ SqL K H a (ns.map V.int) := by
  rcases h with h | ⟨a, rfl, ⟨_, _, e, _⟩ | ⟨_, _, _, _, e, _⟩ | ⟨_, _, e, _⟩⟩
  · cases h with
    | scr h1 => exact ⟨_, rfl, ex_l e h1⟩
  all_goals cases e
theorem Rs.seq {K : KZ} {ds : List D} {v : V} {d : D} (e : Ex F H) (h : Rs K F H v d) (hd : d = .lst ds ∨ d = .tup ds ∨ (∃ ns, d = .scr ns ∧ ds = ns.map D.int)) : ∃ a vs, v = .ref a ∧ (SqL K H a vs ∨ SqT K H a vs) ∧ RpAll K F vs ds := by
  rcases hd with rfl | rfl | ⟨ns, rfl, rfl⟩
  · obtain ⟨a, vs, h1, h2, h3⟩ := h.lst e; exact ⟨a, vs, h1, .inl (Evl.sq_of h2), h3⟩
  · obtain ⟨a, vs, h1, h2, h3⟩ := h.tup e; exact ⟨a, vs, h1, .inr h2, h3⟩
  · obtain ⟨a, h1, h2⟩ := h.scr e; exact ⟨a, _, h1, .inl h2, ints_rp ns⟩
def fCat : D → D → (RS → Prop) → Prop
  | .lst xs, .lst ys, q => xs.length + ys.length ≤ 1000000 ∧ q (.new (.lst (xs ++ ys)))
  | _, _, _ => False
theorem od_cat : OpD K rCat fCat := fun B F H σ γ x y d e Q q R rx ry hf k => by
  unfold fCat at hf
  split at hf
  · obtain ⟨a, vs, rfl, h1, r1⟩ := rx.lst R.fh
    obtain ⟨b, ws, rfl, h2, r2⟩ := ry.lst R.fh
    refine ⟨a, b, vs, ws, rfl, rfl, h1, h2, sz_le (by rw [r1.length, r2.length]; exact hf.1), fun p hp => ?_⟩
    obtain ⟨R', ok⟩ := R.newL hp (RpAll.of (P_app r1.p r2.p))
    exact k _ F _ _ R' (Evl.Ex.refl F) ok hf.2
  · exact hf.elim
def fRep : D → D → (RS → Prop) → Prop
  | .lst xs, .int n, q => -1000000 ≤ n ∧ n ≤ 1000000 ∧ xs.length * n.toNat ≤ 1000000 ∧ q (.new (.lst (List.replicate n.toNat xs).flatten))
  | _, _, _ => False
theorem od_rep : OpD K rRep fRep := fun B F H σ γ x y d e Q q R rx ry hf k => by
  unfold fRep at hf
  split at hf
  · obtain ⟨a, vs, rfl, h1, r1⟩ := rx.lst R.fh
    obtain ⟨n1, n2, n3, hq⟩ := hf
    refine ⟨a, _, vs, rfl, ry.int, h1, by omega, by omega, sz_le (by rw [r1.length]; exact n3), fun p hp => ?_⟩
    obtain ⟨R', ok⟩ := R.newL hp (RpAll.of (P_rep r1.p _))
    exact k _ F _ _ R' (Evl.Ex.refl F) ok hq
  · exact hf.elim
theorem atI_p {G : V → D → Prop} {vs : List V} {ds : List D} {i : Int} {d : D} (h : Paired G vs ds) (e : atI ds i = some d) : ∃ v, atI vs i = some v ∧ G v d := by
  unfold atI at e ⊢
  rw [P_len h]
  cases hn : ixN ds.length i with
  | none => rw [hn] at e; cases e
  | some j =>
    rw [hn] at e
    exact P_get h e
def fIxL : D → D → (RS → Prop) → Prop
  | .lst xs, .int i, q => ∃ d, atI xs i = some d ∧ q (.val d)
  | .scr ns, .int i, q => ∃ n, atI ns i = some n ∧ q (.val (.int n))
  | _, _, _ => False
theorem atI_map {α β : Type} {f : α → β} {xs : List α} {i : Int} {x : α} (h : atI xs i = some x) : atI (xs.map f) i = some (f x) := by
  unfold atI at h ⊢
  rw [List.length_map]
  cases hn : ixN xs.length i with
  | none => rw [hn] at h; cases h
  | some j =>
    rw [hn] at h
    show (xs.map f)[j]? = _
    rw [List.getElem?_map, show xs[j]? = some x from h]; rfl
theorem od_ixL : OpD K (rIxL K) fIxL := fun B F H σ γ x y d e Q q R rx ry hf k => by
  unfold fIxL at hf
  split at hf
  · obtain ⟨a, vs, rfl, h1, r1⟩ := rx.lst R.fh
    obtain ⟨d, hd, hq⟩ := hf
    obtain ⟨v, hv, rv⟩ := atI_p r1.p hd
    exact ⟨a, vs, _, v, rfl, ry.int, Evl.sq_of h1, hv, vk R k rv hq⟩
  · obtain ⟨a, rfl, h1⟩ := rx.scr R.fh
    obtain ⟨n, hn, hq⟩ := hf
    exact ⟨a, _, _, .int n, rfl, ry.int, h1, atI_map hn, vk R k (.int n) hq⟩
  · exact hf.elim
def fIxT : D → D → (RS → Prop) → Prop
  | .tup xs, .int i, q => ∃ d, atI xs i = some d ∧ q (.val d)
  | _, _, _ => False
theorem od_ixT : OpD K (rIxT K) fIxT := fun B F H σ γ x y d e Q q R rx ry hf k => by
  unfold fIxT at hf
  split at hf
  · obtain ⟨a, vs, rfl, h1, r1⟩ := rx.tup R.fh
    obtain ⟨d, hd, hq⟩ := hf
    obtain ⟨v, hv, rv⟩ := atI_p r1.p hd
    exact ⟨a, vs, _, v, rfl, ry.int, h1, hv, vk R k rv hq⟩
  · exact hf.elim
def fIxS : D → D → (RS → Prop) → Prop
  | .str z, .int i, q => z.length ≤ 1000000 ∧ ∃ c, atI z.cps.toList i = some c ∧ q (.val (.str ⟨#[c]⟩))
  | _, _, _ => False
theorem od_ixS : OpD K rIxS fIxS := fun B F H σ γ x y d e Q q R rx ry hf k => by
  unfold fIxS at hf
  split at hf
  · obtain ⟨hz, c, hc, hq⟩ := hf
    exact ⟨_, _, c, rx.str, ry.int, sz_le hz, hc, vk R k (.str _) hq⟩
  · exact hf.elim

/-! ### built-in calls -/
def fLen : List D → (RS → Prop) → Prop
  | [.lst xs], q => q (.val (.int xs.length))
  | [.tup xs], q => q (.val (.int xs.length))
  | [.scr xs], q => q (.val (.int xs.length))
  | _, _ => False
theorem one_rs {P : V → D → Prop} {xs : List V} {d : D} (h : Paired P xs [d]) : ∃ x, xs = [x] ∧ P x d := by
  cases h with
  | cons r t => cases t; exact ⟨_, rfl, r⟩
theorem two_rs {P : V → D → Prop} {xs : List V} {d e : D} (h : Paired P xs [d, e]) : ∃ x y, xs = [x, y] ∧ P x d ∧ P y e := by
  cases h with
  | cons r t =>
    obtain ⟨y, rfl, ry⟩ := one_rs t
    exact ⟨_, _, rfl, r, ry⟩
theorem cd_len : CallD K (fun xs H Q => ∃ p ys, xs = [.ref p] ∧ (SqL K H p ys ∨ SqT K H p ys) ∧ Q (.int ys.length) H) fLen := fun B F H σ γ xs ds Q q R rx hf k => by
  unfold fLen at hf
  split at hf
  · obtain ⟨x, rfl, r⟩ := one_rs rx
    obtain ⟨a, vs, rfl, h1, r1⟩ := r.seq R.fh (.inl rfl)
    exact ⟨a, vs, rfl, h1, by rw [r1.length]; exact vk R k (.int _) hf⟩
  · obtain ⟨x, rfl, r⟩ := one_rs rx
    obtain ⟨a, vs, rfl, h1, r1⟩ := r.seq R.fh (.inr (.inl rfl))
    exact ⟨a, vs, rfl, h1, by rw [r1.length]; exact vk R k (.int _) hf⟩
  · obtain ⟨x, rfl, r⟩ := one_rs rx
    obtain ⟨a, vs, rfl, h1, r1⟩ := r.seq R.fh (.inr (.inr ⟨_, rfl, rfl⟩))
    refine ⟨a, vs, rfl, h1, ?_⟩
    have e := r1.length
    rw [List.length_map] at e
    rw [e]; exact vk R k (.int _) hf
  · exact hf.elim
def fLenS : List D → (RS → Prop) → Prop
  | [.str x], q => x.length ≤ 1000000 ∧ q (.val (.int x.length))
  | _, _ => False
theorem cd_lenS : CallD K (fun xs H Q => ∃ z, xs = [.str z] ∧ z.length ≤ sizeLine ∧ Q (.int z.length) H) fLenS := fun B F H σ γ xs ds Q q R rx hf k => by
  unfold fLenS at hf
  split at hf
  · obtain ⟨x, rfl, r⟩ := one_rs rx
    rw [r.str]
    exact ⟨_, rfl, sz_le hf.1, vk R k (.int _) hf.2⟩
  · exact hf.elim
def fInt : List D → (RS → Prop) → Prop
  | [.int i], q => q (.val (.int i))
  | [.bl b], q => q (.val (.int (if b then 1 else 0)))
  | _, _ => False
theorem cd_int : CallD K (fun xs H Q => (∃ i, xs = [.int i] ∧ Q (.int i) H) ∨ ∃ k, xs = [.bl k] ∧ Q (.int (if k then 1 else 0)) H) fInt := fun B F H σ γ xs ds Q q R rx hf k => by
  unfold fInt at hf
  split at hf
  · obtain ⟨x, rfl, r⟩ := one_rs rx
    rw [r.int]
    exact .inl ⟨_, rfl, vk R k (.int _) hf⟩
  · obtain ⟨x, rfl, r⟩ := one_rs rx
    rw [r.bl]
    exact .inr ⟨_, rfl, vk R k (.int _) hf⟩
  · exact hf.elim
def fAbs : List D → (RS → Prop) → Prop
  | [.int i], q => q (.val (.int (if i < 0 then -i else i)))
  | _, _ => False
theorem cd_abs : CallD K (fun xs H Q => ∃ i, xs = [.int i] ∧ Q (.int (if i < 0 then -i else i)) H) fAbs := fun B F H σ γ xs ds Q q R rx hf k => by
  unfold fAbs at hf
  split at hf
  · obtain ⟨x, rfl, r⟩ := one_rs rx
    rw [r.int]
    exact ⟨_, rfl, vk R k (.int _) hf⟩
  · exact hf.elim
def fI2 (g : Int → Int → Int) : List D → (RS → Prop) → Prop
  | [.int i, .int j], q => q (.val (.int (g i j)))
  | _, _ => False
theorem cd_I2 {g : Int → Int → Int} : CallD K (fun xs H Q => ∃ i j, xs = [.int i, .int j] ∧ Q (.int (g i j)) H) (fI2 g) := fun B F H σ γ xs ds Q q R rx hf k => by
  unfold fI2 at hf
  split at hf
  · obtain ⟨x, y, rfl, r, r'⟩ := two_rs rx
    rw [r.int, r'.int]
    exact ⟨_, _, rfl, vk R k (.int _) hf⟩
  · exact hf.elim
def fSum : List D → (RS → Prop) → Prop
  | [.lst ds], q => ∃ ns : List Int, ds = ns.map D.int ∧ q (.val (.int ns.sum))
  | _, _ => False
theorem cd_sum : CallD K (rSum K) fSum := fun B F H σ γ xs ds Q q R rx hf k => by
  unfold fSum at hf
  split at hf
  · obtain ⟨x, rfl, r⟩ := one_rs rx
    obtain ⟨ns, rfl, hq⟩ := hf
    obtain ⟨a, vs, rfl, h1, r1⟩ := r.lst R.fh
    rw [rp_ints r1] at h1
    exact ⟨a, ns, rfl, Evl.sq_of h1, vk R k (.int _) hq⟩
  · exact hf.elim
def fMin : List D → (RS → Prop) → Prop
  | [.lst ds], q => ∃ ns : List Int, ds = ns.map D.int ∧ 0 < ns.length ∧ ∀ m, m ∈ ns → (∀ y, y ∈ ns → m ≤ y) → q (.val (.int m))
  | _, _ => False
theorem cd_min : CallD K (rMin K) fMin := fun B F H σ γ xs ds Q q R rx hf k => by
  unfold fMin at hf
  split at hf
  · obtain ⟨x, rfl, r⟩ := one_rs rx
    obtain ⟨ns, rfl, hl, hq⟩ := hf
    obtain ⟨a, vs, rfl, h1, r1⟩ := r.lst R.fh
    rw [rp_ints r1] at h1
    exact ⟨a, ns, rfl, Evl.sq_of h1, hl, fun m h2 h3 => vk R k (.int _) (hq m h2 h3)⟩
  · exact hf.elim
def fMax : List D → (RS → Prop) → Prop
  | [.lst ds], q => ∃ ns : List Int, ds = ns.map D.int ∧ 0 < ns.length ∧ ∀ m, m ∈ ns → (∀ y, y ∈ ns → y ≤ m) → q (.val (.int m))
  | _, _ => False
theorem cd_max : CallD K (rMax K) fMax := fun B F H σ γ xs ds Q q R rx hf k => by
  unfold fMax at hf
  split at hf
  · obtain ⟨x, rfl, r⟩ := one_rs rx
    obtain ⟨ns, rfl, hl, hq⟩ := hf
    obtain ⟨a, vs, rfl, h1, r1⟩ := r.lst R.fh
    rw [rp_ints r1] at h1
    exact ⟨a, ns, rfl, Evl.sq_of h1, hl, fun m h2 h3 => vk R k (.int _) (hq m h2 h3)⟩
  · exact hf.elim
def fAll : List D → (RS → Prop) → Prop
  | [.lst ds], q => ∃ bs : List Bool, ds = bs.map D.bl ∧ q (.val (.bl (bs.all id)))
  | _, _ => False
theorem cd_all : CallD K (rAll K) fAll := fun B F H σ γ xs ds Q q R rx hf k => by
  unfold fAll at hf
  split at hf
  · obtain ⟨x, rfl, r⟩ := one_rs rx
    obtain ⟨ns, rfl, hq⟩ := hf
    obtain ⟨a, vs, rfl, h1, r1⟩ := r.lst R.fh
    rw [rp_bls r1] at h1
    exact ⟨a, ns, rfl, Evl.sq_of h1, vk R k (.bl _) hq⟩
  · exact hf.elim
def fAny : List D → (RS → Prop) → Prop
  | [.lst ds], q => ∃ bs : List Bool, ds = bs.map D.bl ∧ q (.val (.bl (bs.any id)))
  | _, _ => False
theorem cd_any : CallD K (rAny K) fAny := fun B F H σ γ xs ds Q q R rx hf k => by
  unfold fAny at hf
  split at hf
  · obtain ⟨x, rfl, r⟩ := one_rs rx
    obtain ⟨ns, rfl, hq⟩ := hf
    obtain ⟨a, vs, rfl, h1, r1⟩ := r.lst R.fh
    rw [rp_bls r1] at h1
    exact ⟨a, ns, rfl, Evl.sq_of h1, vk R k (.bl _) hq⟩
  · exact hf.elim
def fList : List D → (RS → Prop) → Prop
  | [.lst xs], q => q (.new (.lst xs))
  | [.tup xs], q => q (.new (.lst xs))
  | [.scr ns], q => q (.new (.lst (ns.map D.int)))
  | _, _ => False
theorem cd_list : CallD K (fun xs H Q => ∃ p ys, xs = [.ref p] ∧ (SqL K H p ys ∨ SqT K H p ys) ∧ ∀ l, H l = none → Q (.ref l) (upd H l (.lst ys))) fList := fun B F H σ γ xs ds Q q R rx hf k => by
  have key : ∀ {d : D} {ys : List D}, Paired (Rs (B.kz K) F H) xs [d] → (d = .lst ys ∨ d = .tup ys ∨ (∃ ns, d = .scr ns ∧ ys = ns.map D.int)) → q (.new (.lst ys)) → ∃ p ys, xs = [.ref p] ∧ (SqL K H p ys ∨ SqT K H p ys) ∧ ∀ l, H l = none → Q (.ref l) (upd H l (.lst ys)) := fun rx hd hq => by
    obtain ⟨x, rfl, r⟩ := one_rs rx
    obtain ⟨a, vs, rfl, h1, r1⟩ := r.seq R.fh hd
    refine ⟨a, vs, rfl, h1, fun l hl => ?_⟩
    obtain ⟨R', ok⟩ := R.newL hl r1
    exact k _ F _ _ R' (Evl.Ex.refl F) ok hq
  unfold fList at hf
  split at hf
  · exact key rx (.inl rfl) hf
  · exact key rx (.inr (.inl rfl)) hf
  · exact key rx (.inr (.inr ⟨_, rfl, rfl⟩)) hf
  · exact hf.elim
def fTuple : List D → (RS → Prop) → Prop
  | [.lst xs], q => q (.val (.tup xs))
  | [.tup xs], q => q (.val (.tup xs))
  | _, _ => False
/-- a tuple that is handed on is itself frozen -/
theorem Rs.tupF {K : KZ} {F H : Hp} {v : V} {ds : List D} (h : Rs K F H v (.tup ds)) : Rp K F v (.tup ds) := by
  rcases h with h | ⟨a, rfl, ⟨_, _, e, _⟩ | ⟨_, _, _, _, e, _⟩ | ⟨_, _, e, _⟩⟩
  · exact h
  all_goals cases e
theorem cd_tuple : CallD K (fun xs H Q => ∃ p ys, xs = [.ref p] ∧ ((SqL K H p ys ∧ ∀ l, H l = none → Q (.ref l) (upd H l (.tup ys))) ∨ (SqT K H p ys ∧ Q (.ref p) H))) fTuple := fun B F H σ γ xs ds Q q R rx hf k => by
  unfold fTuple at hf
  split at hf
  · obtain ⟨x, rfl, r⟩ := one_rs rx
    obtain ⟨a, vs, rfl, h1, r1⟩ := r.lst R.fh
    refine ⟨a, vs, rfl, .inl ⟨Evl.sq_of h1, fun l hl => ?_⟩⟩
    obtain ⟨R', ex, rp⟩ := R.newT hl r1
    exact k _ _ _ (.val _) R' ex rp hf
  · obtain ⟨x, rfl, r⟩ := one_rs rx
    have rf := r.tupF
    obtain ⟨a, vs, rfl, h1, r1⟩ := r.tup R.fh
    exact ⟨a, vs, rfl, .inr ⟨h1, vk R k rf hf⟩⟩
  · exact hf.elim
/-! isinstance -/
def D.cls : D → String
  | .non => "NoneType" | .bl _ => "bool" | .int _ => "int" | .str _ => "str" | .lst _ => "list" | .tup _ => "tuple" | .dct _ => "dict" | .scr _ => "list" | .ref _ => "" | .ty _ => "" | .obj _ _ => "" | .fr _ => "" | .kls _ => ""
theorem kb_ii : kitB "int" "int" = some true := by decide +kernel
theorem kb_ib : kitB "int" "bool" = some false := by decide +kernel
theorem kb_il : kitB "int" "list" = some false := by decide +kernel
theorem kb_it : kitB "int" "tuple" = some false := by decide +kernel
theorem kb_is : kitB "int" "str" = some false := by decide +kernel
theorem kb_bi : kitB "bool" "int" = some true := by decide +kernel
theorem kb_bb : kitB "bool" "bool" = some true := by decide +kernel
theorem kb_li : kitB "list" "int" = some false := by decide +kernel
theorem kb_ll : kitB "list" "list" = some true := by decide +kernel
theorem kb_lt : kitB "list" "tuple" = some false := by decide +kernel
theorem kb_ti : kitB "tuple" "int" = some false := by decide +kernel
theorem kb_tt : kitB "tuple" "tuple" = some true := by decide +kernel
theorem kb_tl : kitB "tuple" "list" = some false := by decide +kernel
theorem kb_si : kitB "str" "int" = some false := by decide +kernel
theorem kb_sb : kitB "str" "bool" = some false := by decide +kernel
theorem kb_ss : kitB "str" "str" = some true := by decide +kernel
theorem kb_ni : kitB "NoneType" "int" = some false := by decide +kernel
theorem kb_nl : kitB "NoneType" "list" = some false := by decide +kernel
theorem kb_nt : kitB "NoneType" "tuple" = some false := by decide +kernel
def fIsi : List D → (RS → Prop) → Prop
  | [.int _, .ty n], q => ∃ r, kitB "int" n = some r ∧ q (.val (.bl r))
  | [.bl _, .ty n], q => ∃ r, kitB "bool" n = some r ∧ q (.val (.bl r))
  | [.str _, .ty n], q => ∃ r, kitB "str" n = some r ∧ q (.val (.bl r))
  | [.non, .ty n], q => ∃ r, kitB "NoneType" n = some r ∧ q (.val (.bl r))
  | [.lst _, .ty n], q => ∃ r, kitB "list" n = some r ∧ q (.val (.bl r))
  | [.tup _, .ty n], q => ∃ r, kitB "tuple" n = some r ∧ q (.val (.bl r))
  | [.dct _, .ty n], q => ∃ r, kitB "dict" n = some r ∧ q (.val (.bl r))
  | _, _ => False
theorem Rs.ty {K : KZ} {n : String} {v : V} (h : Rs K F H v (.ty n)) : v = .ty n := by
  rcases h with h | ⟨a, rfl, ⟨_, _, e, _⟩ | ⟨_, _, _, _, e, _⟩ | ⟨_, _, e, _⟩⟩
  · cases h; rfl
  all_goals cases e
theorem tyx_tup {a : Addr} {vs : List V} (h : SqT K H a vs) : TyX K H (.ref a) (.type "tuple") := by
  rcases h with (h | ⟨o, h⟩) | ⟨o, its, n, h1, h2, _⟩
  · exact .base (.tup h)
  · exact .fTuple h
  · exact .kTuple h1 h2
theorem Rs.dct {K : KZ} {kd : List (Key × D)} {v : V} (e : Ex F H) (h : Rs K F H v (.dct kd)) : ∃ a kv, v = .ref a ∧ H a = some (.dK kv) ∧ RpKs K F kv kd := by
  rcases h with h | ⟨a, rfl, ⟨vs, _, e, h1, h2⟩ | ⟨_, _, _, _, e, _⟩ | ⟨kv, kd', e1, h1, h2⟩⟩
  · cases h with
    | dct h1 h2 => exact ⟨_, _, rfl, e _ _ h1, h2⟩
  · cases e
  · cases e
  · cases e1; exact ⟨a, kv, rfl, h1, h2⟩
theorem cd_isi : CallD K (rIsi K) fIsi := fun B F H σ γ xs ds Q q R rx hf k => by
  have go : ∀ {x : V} {n a : String} {r : Bool}, TyX K H x (.type a) → kitB a n = some r → q (.val (.bl r)) → rIsi K [x, .ty n] H Q := fun t hi hq =>
    ⟨_, _, _, _, _, rfl, .ty _, t, kit_ty hi, vk R k (.bl _) hq⟩
  unfold fIsi at hf
  split at hf
  all_goals first
    | exact hf.elim
    | (obtain ⟨x, y, rfl, r, r'⟩ := two_rs rx; obtain ⟨b, hi, hq⟩ := hf; rw [r'.ty])
  · rw [r.int]; exact go (.base (.int _)) hi hq
  · rw [r.bl]; exact go (.base (.bl _)) hi hq
  · rw [r.str]; exact go (.base (.str _)) hi hq
  · rw [r.non]; exact go (.base .non) hi hq
  · obtain ⟨a, vs, rfl, h1, r1⟩ := r.lst R.fh; exact go (.base (.lst h1)) hi hq
  · obtain ⟨a, vs, rfl, h1, r1⟩ := r.tup R.fh; exact go (tyx_tup h1) hi hq
  · obtain ⟨a, vs, rfl, h1, r1⟩ := r.dct R.fh; exact go (.base (.dK h1)) hi hq
end
end DL

set_option Elab.async false
set_option linter.all false
set_option maxRecDepth 100000
set_option maxHeartbeats 2000000
namespace DL
open PySem PySem.Spec PyProof.Rows L2
open Evl (Ex ex_l ex_t)

/-! ### == at any depth -/
mutual
def D.py : D → PyData
  | .non => .none | .bl b => .bool b | .int i => .int i | .str x => .str x | .ref _ => .none | .ty _ => .none | .kls _ => .none
  | .lst xs => .list (pyAll xs) | .tup xs => .tuple (pyAll xs) | .obj _ _ => .none | .dct _ => .none | .fr _ => .none | .scr ns => .list (ns.map PyData.int)
def pyAll : List D → List PyData
  | [] => []
  | x :: xs => x.py :: pyAll xs
end
mutual
def D.pure : D → Bool
  | .non => true | .bl _ => true | .int _ => true | .str _ => true | .ref _ => false | .ty _ => false | .kls _ => false
  | .lst xs => pureAll xs | .tup xs => pureAll xs | .obj _ _ => false | .dct _ => false | .fr _ => false | .scr _ => true
def pureAll : List D → Bool
  | [] => true
  | x :: xs => x.pure && pureAll xs
end
theorem pyAll_map {α : Type} (f : α → D) (g : α → PyData) (h : ∀ x, (f x).py = g x) : ∀ xs : List α, pyAll (xs.map f) = xs.map g
  | [] => rfl
  | x :: xs => by rw [List.map_cons, List.map_cons, pyAll, h, pyAll_map f g h xs]
theorem pureAll_map {α : Type} (f : α → D) (h : ∀ x, (f x).pure = true) : ∀ xs : List α, pureAll (xs.map f) = true
  | [] => rfl
  | x :: xs => by rw [List.map_cons, pureAll, h, pureAll_map f h xs]; rfl
def dOk (d : D) : Bool := d.pure && SeqAt.shaped d.py
def deq (d e : D) : Bool := PyData.eqv d.py e.py
section
variable {K : PySem.W.Frag} {B : Bs} {F H : Hp}
theorem dp_ints : ∀ ns : List Int, DpAll K H (ns.map V.int) (ns.map PyData.int)
  | [] => .nil
  | n :: ns => .cons (.int n) (dp_ints ns)
mutual
theorem Rp.dp {K : KZ} (e : Ex F H) : ∀ {v : V} {d : D}, Rp K F v d → d.pure = true → Dp K H v d.py
  | _, _, .non, _ => .non
  | _, _, .bl b, _ => .bl b
  | _, _, .int i, _ => .int i
  | _, _, .str x, _ => .str x
  | _, _, .lst h a, p => .lst (Evl.sq_of (e _ _ h)) (RpAll.dp e a p)
  | _, _, .tup h a, p => .tup (ex_t e h) (RpAll.dp e a p)
  | _, _, .scr h, _ => .lst (ex_l e h) (dp_ints _)
theorem RpAll.dp {K : KZ} (e : Ex F H) : ∀ {v : List V} {d : List D}, RpAll K F v d → pureAll d = true → DpAll K H v (pyAll d)
  | _, _, .nil, _ => .nil
  | _, _, .cons h t, p => .cons (Rp.dp e h (Bool.and_eq_true_iff.mp p).1) (RpAll.dp e t (Bool.and_eq_true_iff.mp p).2)
end
theorem Rs.dp {K : KZ} {v : V} {d : D} (e : Ex F H) (h : Rs K F H v d) (p : d.pure = true) : Dp K H v d.py := by
  rcases h with h | ⟨a, rfl, ⟨vs, ds, rfl, h1, h2⟩ | ⟨_, _, _, _, rfl, _⟩ | ⟨_, _, rfl, _⟩⟩
  · exact h.dp e p
  · exact .lst (Evl.sq_of h1) (h2.dp e p)
  · cases p
  · cases p
def fEqD (d e : D) (q : RS → Prop) : Prop := dOk d = true ∧ dOk e = true ∧ q (.val (.bl (deq d e)))
def fNeD (d e : D) (q : RS → Prop) : Prop := dOk d = true ∧ dOk e = true ∧ q (.val (.bl (!deq d e)))
theorem od_eqD : OpD K (rEqD K) fEqD := fun B F H σ γ x y d e Q q R rx ry hf k => by
  obtain ⟨h1, h2, h3⟩ := hf
  obtain ⟨p1, s1⟩ := Bool.and_eq_true_iff.mp h1
  obtain ⟨p2, s2⟩ := Bool.and_eq_true_iff.mp h2
  exact ⟨_, _, rx.dp R.fh p1, ry.dp R.fh p2, s1, s2, vk R k (.bl _) h3⟩
theorem od_neD : OpD K (rNeD K) fNeD := fun B F H σ γ x y d e Q q R rx ry hf k => by
  obtain ⟨h1, h2, h3⟩ := hf
  obtain ⟨p1, s1⟩ := Bool.and_eq_true_iff.mp h1
  obtain ⟨p2, s2⟩ := Bool.and_eq_true_iff.mp h2
  exact ⟨_, _, rx.dp R.fh p1, ry.dp R.fh p2, s1, s2, vk R k (.bl _) h3⟩
end

/-! ### slices -/
def cut {α : Type} (xs : List α) (lo hi : Option Int) : List α := (xs.drop (HT.sIx xs.length 0 lo)).take (HT.sIx xs.length xs.length hi - HT.sIx xs.length 0 lo)
theorem cut_p {G : V → D → Prop} {vs : List V} {ds : List D} {lo hi : Option Int} (h : Paired G vs ds) : Paired G (cutV vs lo hi) (cut ds lo hi) := by
  unfold cutV cut
  rw [P_len h]
  exact P_take _ (P_drop _ h)
theorem cut_map {α β : Type} (f : α → β) (xs : List α) (lo hi : Option Int) : cut (xs.map f) lo hi = (cut xs lo hi).map f := by
  unfold cut
  rw [List.length_map, List.map_take, List.map_drop]
abbrev DO := Env → (Option Int → Env → Prop) → Prop
def SO (K : PySem.W.Frag) (B : Bs) (to : TO) (dd : DO) : Prop := ∀ (F H : Hp) (σ : L2.St) (γ : Env) (Q : Option Int → Hp → Prop) (q : Option Int → Env → Prop), Rep K B F H σ γ → dd γ q →
  (∀ b F' H' γ', Rep K B F' H' σ γ' → Ex F F' → q b γ' → Q b H') → to σ H Q
structure XO (X : Cx) (B : Bs) (e : Option Expr) (to : TO) (dd : DO) : Prop where
  po : PO X e to
  so : SO X.K B to dd
def dNo (γ : Env) (q : Option Int → Env → Prop) : Prop := q none γ
def dPart (de : DE) (γ : Env) (q : Option Int → Env → Prop) : Prop := de γ fun s γ1 => match s.data with
  | .int i => q (some i) γ1
  | _ => False
theorem xo_none {X : Cx} {B : Bs} : XO X B none tNoPart dNo := ⟨po_none, fun F H σ γ Q q R hq k => k none F H γ R (Evl.Ex.refl F) hq⟩
theorem xo_some {X : Cx} {B : Bs} {e : Expr} {te : TE} {de : DE} (h : XE X B e te de) : XO X B (some e) (tPart te) (dPart de) := ⟨po_some h.pe, fun F H σ γ Q q R hq k => by
  refine h.se F H σ γ _ _ R hq fun v F1 H1 γ1 s R1 e1 o1 h1 => ?_
  split at h1
  · rename_i i es
    have r := o1.rs R1
    rw [es] at r
    exact ⟨i, r.int, k _ F1 H1 γ1 R1 e1 h1⟩
  · exact h1.elim⟩
def dSl (f : D → Option Int → Option Int → (RS → Prop) → Prop) (de : DE) (dl dh : DO) (γ : Env) (q : RS → Env → Prop) : Prop := de γ fun s γ1 => dl γ1 fun lo γ2 => dh γ2 fun hi γ3 => s.ok γ3 ∧ f s.data lo hi fun r => q r γ3
def SlD (K : PySem.W.Frag) (r : V → Option Int → Option Int → Hp → VK → Prop) (f : D → Option Int → Option Int → (RS → Prop) → Prop) : Prop := ∀ (B : Bs) (F H : Hp) (σ : L2.St) (γ : Env) (x : V) (d : D) (lo hi : Option Int) (Q : VK) (q : RS → Prop), Rep K B F H σ γ → Rs (B.kz K) F H x d → f d lo hi q →
  (∀ v F' H' s, Rep K B F' H' σ γ → Ex F F' → RsOk K B F' H' σ γ v s → q s → Q v H') → r x lo hi H Q
theorem x_sl {X : Cx} {B : Bs} {e : Expr} {lo hi : Option Expr} {p2 pos : Pos} {te : TE} {de : DE} {tl th : TO} {dl dh : DO} {r : V → Option Int → Option Int → Hp → VK → Prop} {f : D → Option Int → Option Int → (RS → Prop) → Prop} (hr : SlR X r) (hf : SlD X.K r f) (he : XE X B e te de) (hl : XO X B lo tl dl) (hh : XO X B hi th dh) :
    XE X B (.Subscript e (.Slice lo hi none p2) pos) (tSl r te tl th) (dSl f de dl dh) := ⟨pe_slice hr he.pe hl.po hh.po, fun F H σ γ Q q R hq k => by
  refine he.se F H σ γ _ _ R hq fun x F1 H1 γ1 s R1 e1 o1 h1 => ?_
  obtain ⟨F2, R2, e2, o2⟩ := o1.fz R1
  refine hl.so F2 H1 σ γ1 _ _ R2 h1 fun a F3 H3 γ3 R3 e3 h3 => ?_
  refine hh.so F3 H3 σ γ3 _ _ R3 h3 fun b F4 H4 γ4 R4 e4 ⟨h4, h5⟩ => ?_
  have ox := (o2.later (e3.trans e4) R4 (fz_ok s γ4 h4) (fz_idem s)).rs R4
  rw [RS.fz_data] at ox
  exact hf B F4 H4 σ γ4 x _ a b Q _ R4 ox h5 fun v F5 H5 u R5 e5 o5 h6 => k v F5 H5 γ4 u R5 ((((e1.trans e2).trans e3).trans e4).trans e5) o5 h6⟩
def fSlL : D → Option Int → Option Int → (RS → Prop) → Prop
  | .lst xs, lo, hi, q => q (.new (.lst (cut xs lo hi)))
  | .scr ns, lo, hi, q => q (.new (.lst ((cut ns lo hi).map D.int)))
  | _, _, _, _ => False
theorem sd_list {K : PySem.W.Frag} : SlD K (rSlL K) fSlL := fun B F H σ γ x d lo hi Q q R rx hf k => by
  unfold fSlL at hf
  split at hf
  · obtain ⟨a, vs, rfl, h1, r1⟩ := rx.lst R.fh
    refine ⟨a, vs, rfl, Evl.sq_of h1, fun p hp => ?_⟩
    obtain ⟨R', ok⟩ := R.newL hp (RpAll.of (cut_p r1.p))
    exact k _ F _ _ R' (Evl.Ex.refl F) ok hf
  · obtain ⟨a, rfl, h1⟩ := rx.scr R.fh
    refine ⟨a, _, rfl, h1, fun p hp => ?_⟩
    obtain ⟨R', ok⟩ := R.newL hp (RpAll.of (cut_p (ints_rp (K := B.kz K) (F := F) _).p))
    rw [cut_map] at ok
    exact k _ F _ _ R' (Evl.Ex.refl F) ok hf
  · exact hf.elim
def fSlT : D → Option Int → Option Int → (RS → Prop) → Prop
  | .tup xs, lo, hi, q => q (.val (.tup (cut xs lo hi)))
  | _, _, _, _ => False
def fRev : D → (RS → Prop) → Prop
  | .lst xs, q => q (.new (.lst xs.reverse))
  | _, _ => False
theorem x_revL {X : Cx} {B : Bs} {e : Expr} {te : TE} {de : DE} {k : Nat} {p1 p2 p3 pos : Pos} (he : XE X B e te de) : XE X B (.Subscript e (.Slice none none (some (.UnaryOp .USub (.Constant (.int 1) k p1) p2)) p3) pos) (tRevL X.K te)
    (d1 fRev de) := ⟨pe_revL he.pe, fun F H σ γ Q q R hq k => by
  refine he.se F H σ γ _ _ R hq fun x F1 H1 γ1 s R1 e1 o1 h1 => ?_
  unfold fRev at h1
  split at h1
  · rename_i xs es
    obtain ⟨F2, R2, e2, o2⟩ := o1.fz R1
    have r := o2.rs R2
    rw [RS.fz_data, es] at r
    obtain ⟨a, vs, rfl, h2, r1⟩ := r.lst R2.fh
    refine ⟨a, vs, rfl, Evl.sq_of h2, fun p hp => ?_⟩
    obtain ⟨R', ok⟩ := R2.newL hp (RpAll.of (P_rev r1.p))
    exact k _ F2 _ γ1 _ R' (e1.trans e2) ok h1
  · exact h1.elim⟩

/-! ### displays -/
def allV : List RS → Prop
  | [] => True
  | .val _ :: r => allV r
  | _ :: _ => False
theorem allV_rp {K : PySem.W.Frag} {B : Bs} {F H : Hp} {σ : L2.St} {γ : Env} : ∀ {vs : List V} {rs : List RS}, Paired (RsOk K B F H σ γ) vs rs → allV rs → RpAll (B.kz K) F vs (rs.map RS.data)
  | _, _, .nil, _ => .nil
  | _, .val d :: _, .cons h t, a => .cons h (allV_rp t a)
def dLst (da : DA) (γ : Env) (q : RS → Env → Prop) : Prop := da γ fun rs γ1 => allV rs ∧ rs.length ≤ 1000000 ∧ q (.new (.lst (rs.map RS.data))) γ1
def dTup (da : DA) (γ : Env) (q : RS → Env → Prop) : Prop := da γ fun rs γ1 => allV rs ∧ rs.length ≤ 1000000 ∧ q (.val (.tup (rs.map RS.data))) γ1
section
variable {X : Cx} {B : Bs} {es : List Expr} {ta : TA} {da : DA} {pos : Pos}
theorem x_lst (h : XA X B es ta da) : XE X B (.List es pos) (tLst ta) (dLst da) := ⟨pe_lst h.pa, fun F H σ γ Q q R hq k => by
  refine h.sa F H σ γ _ _ R hq fun vs F1 H1 γ1 rs R1 e1 o1 ⟨h1, h2, h3⟩ => ?_
  have ra := allV_rp o1 h1
  refine ⟨sz_le (by rw [P_len o1]; exact h2), fun p hp => ?_⟩
  obtain ⟨R', ok⟩ := R1.newL hp ra
  exact k _ F1 _ γ1 _ R' e1 ok h3⟩
theorem x_tup {x1} (h : XA X B es ta da) : XE X B (.Tuple es x1 pos) (tTup ta) (dTup da) := ⟨pe_tup h.pa, fun F H σ γ Q q R hq k => by
  refine h.sa F H σ γ _ _ R hq fun vs F1 H1 γ1 rs R1 e1 o1 ⟨h1, h2, h3⟩ => ?_
  have ra := allV_rp o1 h1
  refine ⟨sz_le (by rw [P_len o1]; exact h2), fun p hp => ?_⟩
  obtain ⟨R', ex, rp⟩ := R1.newT hp ra
  exact k _ _ _ γ1 (.val _) R' (e1.trans ex) rp h3⟩
end

/-! ### tests -/
def dB (de : DE) (γ : Env) (q : Bool → Env → Prop) : Prop := de γ fun s γ1 => match s.data with
  | .bl b => q b γ1
  | _ => False
def dAnd (t u : DT) (γ : Env) (q : Bool → Env → Prop) : Prop := t γ fun b γ1 => (b = true → u γ1 q) ∧ (b = false → q false γ1)
def dOr (t u : DT) (γ : Env) (q : Bool → Env → Prop) : Prop := t γ fun b γ1 => (b = true → q true γ1) ∧ (b = false → u γ1 q)
def dNot (t : DT) (γ : Env) (q : Bool → Env → Prop) : Prop := t γ fun b γ1 => q (!b) γ1
def dAndV (da db : DE) (γ : Env) (q : RS → Env → Prop) : Prop := da γ fun s γ1 => match s.data with
  | .bl b => (b = true → db γ1 q) ∧ (b = false → q (.val (.bl false)) γ1)
  | _ => False
def dOrV (da db : DE) (γ : Env) (q : RS → Env → Prop) : Prop := da γ fun s γ1 => match s.data with
  | .bl b => (b = true → q (.val (.bl true)) γ1) ∧ (b = false → db γ1 q)
  | _ => False
def dNotV (da : DE) (γ : Env) (q : RS → Env → Prop) : Prop := da γ fun s γ1 => match s.data with
  | .bl b => q (.val (.bl (!b))) γ1
  | _ => False
def dIfE (t : DT) (da db : DE) (γ : Env) (q : RS → Env → Prop) : Prop := t γ fun b γ1 => (b = true → da γ1 q) ∧ (b = false → db γ1 q)
def dTru (de : DE) (γ : Env) (q : Bool → Env → Prop) : Prop := de γ fun s γ1 => match s.data with
  | .lst xs => q (!xs.isEmpty) γ1
  | .tup xs => q (!xs.isEmpty) γ1
  | .int i => q (i != 0) γ1
  | .bl b => q b γ1
  | .non => q false γ1
  | .str x => x.length ≤ 1000000 ∧ q ((x.length : Int) != 0) γ1
  | _ => False
section
variable {K : PySem.W.Frag} {B : Bs} {te : TE} {de : DE} {t u : TT} {dt du : DT}
theorem st_B (h : SE K B te de) : ST K B (tTest te) (dB de) := fun F H σ γ Q q R hq k => by
  refine h F H σ γ _ _ R hq fun v F1 H1 γ1 s R1 e1 o1 h1 => ?_
  split at h1
  · rename_i b es
    have r := o1.rs R1
    rw [es] at r
    exact ⟨b, r.bl, k _ F1 H1 γ1 R1 e1 h1⟩
  · exact h1.elim
theorem st_and (h1 : ST K B t dt) (h2 : ST K B u du) : ST K B (tAnd t u) (dAnd dt du) := fun F H σ γ Q q R hq k => by
  refine h1 F H σ γ _ _ R hq fun b F1 H1 γ1 R1 e1 ⟨q1, q2⟩ => ?_
  cases b with
  | true =>
    show u σ H1 Q
    exact h2 F1 H1 σ γ1 _ _ R1 (q1 rfl) fun c F2 H2 γ2 R2 e2 q3 => k c F2 H2 γ2 R2 (e1.trans e2) q3
  | false => exact k false F1 H1 γ1 R1 e1 (q2 rfl)
theorem st_or (h1 : ST K B t dt) (h2 : ST K B u du) : ST K B (tOr t u) (dOr dt du) := fun F H σ γ Q q R hq k => by
  refine h1 F H σ γ _ _ R hq fun b F1 H1 γ1 R1 e1 ⟨q1, q2⟩ => ?_
  cases b with
  | false =>
    show u σ H1 Q
    exact h2 F1 H1 σ γ1 _ _ R1 (q2 rfl) fun c F2 H2 γ2 R2 e2 q3 => k c F2 H2 γ2 R2 (e1.trans e2) q3
  | true => exact k true F1 H1 γ1 R1 e1 (q1 rfl)
theorem st_not (h1 : ST K B t dt) : ST K B (tNot t) (dNot dt) := fun F H σ γ Q q R hq k =>
  h1 F H σ γ _ _ R hq fun b F1 H1 γ1 R1 e1 q1 => k _ F1 H1 γ1 R1 e1 q1
theorem st_tru (h : SE K B te de) : ST K B (fun σ H Q => te σ H fun x H' => ∃ k, TruV K x H' k ∧ Q k H') (dTru de) := fun F H σ γ Q q R hq k => by
  refine h F H σ γ _ _ R hq fun v F1 H1 γ1 s R1 e1 o1 h1 => ?_
  have r := o1.rs R1
  split at h1
  · rename_i xs es
    rw [es] at r
    obtain ⟨a, vs, rfl, h2, r1⟩ := r.lst R1.fh
    refine ⟨_, .inl ⟨vs, Evl.sq_of h2, rfl⟩, ?_⟩
    have e : vs.isEmpty = xs.isEmpty := by
      have := r1.length
      cases vs <;> cases xs <;> first | rfl | (simp at this)
    rw [e]
    exact k _ F1 H1 γ1 R1 e1 h1
  · rename_i xs es
    rw [es] at r
    obtain ⟨a, vs, rfl, h2, r1⟩ := r.tup R1.fh
    refine ⟨_, .inr (.inl ⟨vs, h2, rfl⟩), ?_⟩
    have e : vs.isEmpty = xs.isEmpty := by
      have := r1.length
      cases vs <;> cases xs <;> first | rfl | (simp at this)
    rw [e]
    exact k _ F1 H1 γ1 R1 e1 h1
  · rename_i i es
    rw [es] at r
    rw [r.int]
    exact ⟨_, rfl, k _ F1 H1 γ1 R1 e1 h1⟩
  · rename_i i es
    rw [es] at r
    rw [r.bl]
    exact ⟨_, rfl, k _ F1 H1 γ1 R1 e1 h1⟩
  · rename_i es
    rw [es] at r
    rw [r.non]
    exact ⟨_, rfl, k _ F1 H1 γ1 R1 e1 h1⟩
  · rename_i i es
    rw [es] at r
    rw [r.str]
    exact ⟨_, ⟨sz_le h1.1, rfl⟩, k _ F1 H1 γ1 R1 e1 h1.2⟩
  · exact h1.elim
theorem se_and {ta tb : TE} {da db : DE} (h1 : SE K B ta da) (h2 : SE K B tb db) : SE K B (tAndV ta tb) (dAndV da db) := fun F H σ γ Q q R hq k => by
  refine h1 F H σ γ _ _ R hq fun v F1 H1 γ1 s R1 e1 o1 q1 => ?_
  split at q1
  · rename_i b es
    have r := o1.rs R1
    rw [es] at r
    refine ⟨b, r.bl, ?_⟩
    cases b with
    | true =>
      show tb σ H1 Q
      exact h2 F1 H1 σ γ1 _ _ R1 (q1.1 rfl) fun v F2 H2 γ2 s R2 e2 o2 q3 => k v F2 H2 γ2 s R2 (e1.trans e2) o2 q3
    | false => exact k _ F1 H1 γ1 (.val (.bl false)) R1 e1 (.bl _) (q1.2 rfl)
  · exact q1.elim
theorem se_or {ta tb : TE} {da db : DE} (h1 : SE K B ta da) (h2 : SE K B tb db) : SE K B (tOrV ta tb) (dOrV da db) := fun F H σ γ Q q R hq k => by
  refine h1 F H σ γ _ _ R hq fun v F1 H1 γ1 s R1 e1 o1 q1 => ?_
  split at q1
  · rename_i b es
    have r := o1.rs R1
    rw [es] at r
    refine ⟨b, r.bl, ?_⟩
    cases b with
    | false =>
      show tb σ H1 Q
      exact h2 F1 H1 σ γ1 _ _ R1 (q1.2 rfl) fun v F2 H2 γ2 s R2 e2 o2 q3 => k v F2 H2 γ2 s R2 (e1.trans e2) o2 q3
    | true => exact k _ F1 H1 γ1 (.val (.bl true)) R1 e1 (.bl _) (q1.1 rfl)
  · exact q1.elim
theorem se_not {ta : TE} {da : DE} (h1 : SE K B ta da) : SE K B (tNotV ta) (dNotV da) := fun F H σ γ Q q R hq k => by
  refine h1 F H σ γ _ _ R hq fun v F1 H1 γ1 s R1 e1 o1 q1 => ?_
  split at q1
  · rename_i b es
    have r := o1.rs R1
    rw [es] at r
    exact ⟨b, r.bl, k _ F1 H1 γ1 (.val (.bl (!b))) R1 e1 (.bl _) q1⟩
  · exact q1.elim
theorem se_if {ta tb : TE} {da db : DE} (h : ST K B t dt) (h1 : SE K B ta da) (h2 : SE K B tb db) : SE K B (tIf t ta tb) (dIfE dt da db) := fun F H σ γ Q q R hq k => by
  refine h F H σ γ _ _ R hq fun b F1 H1 γ1 R1 e1 q1 => ?_
  cases b with
  | true =>
    show ta σ H1 Q
    exact h1 F1 H1 σ γ1 _ _ R1 (q1.1 rfl) fun v F2 H2 γ2 s R2 e2 o2 q3 => k v F2 H2 γ2 s R2 (e1.trans e2) o2 q3
  | false =>
    show tb σ H1 Q
    exact h2 F1 H1 σ γ1 _ _ R1 (q1.2 rfl) fun v F2 H2 γ2 s R2 e2 o2 q3 => k v F2 H2 γ2 s R2 (e1.trans e2) o2 q3
/-- a op b op' c -/
def dChain (f g : D → D → (RS → Prop) → Prop) (da db dc : DE) (γ : Env) (q : RS → Env → Prop) : Prop := da γ fun s γ1 => db γ1 fun t γ2 => s.ok γ2 ∧ f s.data t.data fun r => match r with
  | .val (.bl b) => (b = true → dc γ2 fun u γ3 => t.ok γ3 ∧ g t.data u.data fun r' => q r' γ3) ∧ (b = false → q (.val (.bl false)) γ2)
  | _ => False
theorem se_chain {ta tb tc : TE} {da db dc : DE} {r r' : R2} {f g : D → D → (RS → Prop) → Prop} (hf : OpD K r f) (hg : OpD K r' g) (ha : SE K B ta da) (hb : SE K B tb db) (hc : SE K B tc dc) : SE K B (tChain r r' ta tb tc) (dChain f g da db dc) := fun F H σ γ Q q R hq k => by
  refine ha F H σ γ _ _ R hq fun x F1 H1 γ1 s R1 e1 o1 h1 => ?_
  obtain ⟨F2, R2, e2, o2⟩ := o1.fz R1
  refine hb F2 H1 σ γ1 _ _ R2 h1 fun y F3 H3 γ3 t R3 e3 o3 ⟨h3, h4⟩ => ?_
  obtain ⟨F4, R4, e4, o4⟩ := o3.fz R3
  have ox := o2.later (e3.trans e4) R4 (fz_ok s γ3 h3) (fz_idem s)
  have rx := ox.rs R4
  have ry := o4.rs R4
  rw [RS.fz_data] at rx ry
  refine hf B F4 H3 σ γ3 x y _ _ _ _ R4 rx ry h4 fun v F5 H5 u R5 e5 o5 h5 => ?_
  split at h5
  · rename_i b
    have ev : v = .bl b := (o5.rs R5).bl
    refine ⟨b, ev, ?_⟩
    cases b with
    | true =>
      show tc σ H5 _
      refine hc F5 H5 σ γ3 _ _ R5 (h5.1 rfl) fun z F6 H6 γ6 u R6 e6 o6 ⟨h6, h7⟩ => ?_
      obtain ⟨F7, R7, e7, o7⟩ := o6.fz R6
      have oy := (o4.later ((e5.trans e6).trans e7) R7 (fz_ok t γ6 h6) (fz_idem t)).rs R7
      have oz := o7.rs R7
      rw [RS.fz_data] at oy oz
      exact hg B F7 H6 σ γ6 y z _ _ Q _ R7 oy oz h7 fun v F8 H8 u R8 e8 o8 h8 => k v F8 H8 γ6 u R8 (((((((e1.trans e2).trans e3).trans e4).trans e5).trans e6).trans e7).trans e8) o8 h8
    | false => exact k _ F5 H5 γ3 (.val (.bl false)) R5 ((((e1.trans e2).trans e3).trans e4).trans e5) (.bl _) (h5.2 rfl)
  · exact h5.elim
end
section
variable {X : Cx} {B : Bs} {pos : Pos} {a b c : Expr} {ta tb tc : TE} {da db dc : DE} {t u : TT} {dt du : DT} {rest : List Expr}
theorem t_cmp {op : CmpOp} {r : R2} {f : D → D → (RS → Prop) → Prop} (ho : OpR X (compareOp op) r) (hd : OpD X.K r f) (ha : XE X B a ta da) (hb : XE X B b tb db) (hm : behindInMarks op b = false := by first | exact nomark _ | rfl) : XT X B (.Compare a [op] [b] pos) (tTest (tOp r ta tb)) (dB (d2 f da db)) :=
  ⟨pt_cmpR ho ha.pe hb.pe hm, st_B (se_op hd ha.se hb.se)⟩
theorem t_val {e : Expr} {te : TE} {de : DE} (h : XE X B e te de) (he : ∀ whole, isTrue e X.env whole = (do let v ← whole; standAt e.pos; holding [v] (truthy v)) := by intro _; rfl) : XT X B e (tB te) (dB de) := ⟨pt_val h.pe he, st_B h.se⟩
theorem t_tru {e : Expr} {te : TE} {de : DE} (h : XE X B e te de) (he : ∀ whole, isTrue e X.env whole = (do let v ← whole; standAt e.pos; holding [v] (truthy v)) := by intro _; rfl) : XT X B e (fun σ H Q => te σ H fun x H' => ∃ k, TruV X.K x H' k ∧ Q k H') (dTru de) := ⟨pt_truth h.pe he, st_tru h.se⟩
theorem w_and1 (h : XT X B a t dt) : XW X B (.BoolOp .And [a] pos) t dt := ⟨pw_and1 h.pt, h.st⟩
theorem w_or1 (h : XT X B a t dt) : XW X B (.BoolOp .Or [a] pos) t dt := ⟨pw_or1 h.pt, h.st⟩
theorem w_and (h : XT X B a t dt) (h2 : XW X B (.BoolOp .And (b :: rest) pos) u du) : XW X B (.BoolOp .And (a :: b :: rest) pos) (tAnd t u) (dAnd dt du) := ⟨pw_and h.pt h2.pw, st_and h.st h2.st⟩
theorem w_or (h : XT X B a t dt) (h2 : XW X B (.BoolOp .Or (b :: rest) pos) u du) : XW X B (.BoolOp .Or (a :: b :: rest) pos) (tOr t u) (dOr dt du) := ⟨pw_or h.pt h2.pw, st_or h.st h2.st⟩
theorem t_w {e : Expr} (h : XW X B e t dt) : XT X B e t dt := ⟨h.pw.pt, h.st⟩
theorem t_not (h : XT X B a t dt) : XT X B (.UnaryOp .Not a pos) (tNot t) (dNot dt) := ⟨pt_not h.pt, st_not h.st⟩
theorem t_chain {op op' : CmpOp} {r r' : R2} {f g : D → D → (RS → Prop) → Prop} (ho : OpR X (compareOp op) r) (ho' : OpR X (compareOp op') r') (hd : OpD X.K r f) (hd' : OpD X.K r' g) (ha : XE X B a ta da) (hb : XE X B b tb db) (hc : XE X B c tc dc) (hm : lastMarks [op, op'] [b, c] = false := by with_unfolding_all rfl) :
    XT X B (.Compare a [op, op'] [b, c] pos) (tTest (tChain r r' ta tb tc)) (dB (dChain f g da db dc)) := ⟨pt_chain ho ho' ha.pe hb.pe hc.pe hm, st_B (se_chain hd hd' ha.se hb.se hc.se)⟩
theorem x_chain {op op' : CmpOp} {r r' : R2} {f g : D → D → (RS → Prop) → Prop} (ho : OpR X (compareOp op) r) (ho' : OpR X (compareOp op') r') (hd : OpD X.K r f) (hd' : OpD X.K r' g) (ha : XE X B a ta da) (hb : XE X B b tb db) (hc : XE X B c tc dc) (hm : lastMarks [op, op'] [b, c] = false := by with_unfolding_all rfl) :
    XE X B (.Compare a [op, op'] [b, c] pos) (tChain r r' ta tb tc) (dChain f g da db dc) := ⟨pe_chain ho ho' ha.pe hb.pe hc.pe hm, se_chain hd hd' ha.se hb.se hc.se⟩
theorem x_one {op} (h : XE X B a ta da) : XE X B (.BoolOp op [a] pos) ta da := ⟨pe_one h.pe, h.se⟩
theorem x_and (h : XE X B a ta da) (h2 : XE X B (.BoolOp .And (b :: rest) pos) tb db) : XE X B (.BoolOp .And (a :: b :: rest) pos) (tAndV ta tb) (dAndV da db) := ⟨pe_and h.pe h2.pe, se_and h.se h2.se⟩
theorem x_or (h : XE X B a ta da) (h2 : XE X B (.BoolOp .Or (b :: rest) pos) tb db) : XE X B (.BoolOp .Or (a :: b :: rest) pos) (tOrV ta tb) (dOrV da db) := ⟨pe_or h.pe h2.pe, se_or h.se h2.se⟩
theorem x_not (h : XE X B a ta da) : XE X B (.UnaryOp .Not a pos) (tNotV ta) (dNotV da) := ⟨pe_not h.pe, se_not h.se⟩
theorem x_if (h : XT X B c t dt) (h1 : XE X B a ta da) (h2 : XE X B b tb db) : XE X B (.IfExp c a b pos) (tIf t ta tb) (dIfE dt da db) := ⟨pe_ifExp h.pt h1.pe h2.pe, se_if h.st h1.se h2.se⟩
end
end DL

set_option Elab.async false
set_option linter.all false
set_option maxRecDepth 100000
set_option maxHeartbeats 2000000
namespace DL
open PySem PySem.Spec PyProof.Rows L2
open Evl (Ex ex_l ex_t)

structure DEnds where
  nx : Env → Prop
  rt : RS → Env → Prop
  bk : Env → Prop := fun _ => False
  ct : Env → Prop := fun _ => False
abbrev DS := DEnds → Env → Prop
structure EndsOk (K : PySem.W.Frag) (B : Bs) (F0 : Hp) (E : Ends) (d : DEnds) : Prop where
  nx : ∀ F H σ γ, Rep K B F H σ γ → Ex F0 F → d.nx γ → E.nx σ H
  rt : ∀ F H σ γ v s, Rep K B F H σ γ → Ex F0 F → RsOk K B F H σ γ v s → d.rt s γ → E.rt v H
  bk : ∀ F H σ γ, Rep K B F H σ γ → Ex F0 F → d.bk γ → E.bk σ H
  ct : ∀ F H σ γ, Rep K B F H σ γ → Ex F0 F → d.ct γ → E.ct σ H
def SS (K : PySem.W.Frag) (B : Bs) (ts : TS) (ds : DS) : Prop := ∀ (F H : Hp) (σ : L2.St) (γ : Env) (E : Ends) (d : DEnds), Rep K B F H σ γ → ds d γ → EndsOk K B F E d → ts E σ H
structure XS (X : Cx) (B : Bs) (st : Stmt) (ts : TS) (ds : DS) : Prop where
  ps : PS X st ts
  ss : SS X.K B ts ds
structure XSs (X : Cx) (B : Bs) (st : List Stmt) (ts : TS) (ds : DS) : Prop where
  ps : PSs X st ts
  ss : SS X.K B ts ds
section
variable {K : PySem.W.Frag} {B : Bs} {F F' H : Hp} {σ : L2.St} {γ : Env} {E : Ends} {d : DEnds}
theorem EndsOk.mono (h : EndsOk K B F E d) (e : Ex F F') : EndsOk K B F' E d :=
  ⟨fun F2 H2 σ2 γ2 R x => h.nx F2 H2 σ2 γ2 R (e.trans x), fun F2 H2 σ2 γ2 v s R x => h.rt F2 H2 σ2 γ2 v s R (e.trans x), fun F2 H2 σ2 γ2 R x => h.bk F2 H2 σ2 γ2 R (e.trans x), fun F2 H2 σ2 γ2 R x => h.ct F2 H2 σ2 γ2 R (e.trans x)⟩
theorem get_set {i j : Nat} {v : V} {s : Option V} (h : (σ.set i (some v))[j]? = some s) : (j = i ∧ s = some v) ∨ (j ≠ i ∧ σ[j]? = some s) := by
  by_cases e : i = j
  · subst e
    by_cases hl : i < σ.length
    · rw [List.getElem?_set_self hl] at h; exact .inl ⟨rfl, (Option.some.inj h).symm⟩
    · rw [List.getElem?_eq_none (by rw [List.length_set]; omega)] at h; cases h
  · rw [List.getElem?_set_ne e] at h; exact .inr ⟨fun z => e z.symm, h⟩
theorem Rep.setVal (R : Rep K B F H σ γ) (i : Nat) {v : V} {x : D} (r : Rp (B.kz K) F v x) : Rep K B F H (σ.set i (some v)) (put γ i (.val x)) := by
  have key : ∀ {j : Nat} {p : Option Nat} {c : OC} {a : Addr}, (put γ i (.val x))[j]? = some (.own p c) → (σ.set i (some v))[j]? = some (some (.ref a)) → γ[j]? = some (.own p c) ∧ σ[j]? = some (some (.ref a)) := fun h h2 => by
    rcases get_put h with ⟨_, e⟩ | ⟨n, e⟩
    · cases e
    · rcases get_set h2 with ⟨z, _⟩ | ⟨_, e2⟩
      · exact absurd z n
      · exact ⟨e, e2⟩
  refine ⟨R.fh, by rw [put_len, List.length_set]; exact R.len, fun j s u hs hg => ?_, fun i j a p c q c' h1 h2 h3 h4 => R.nd i j a p c q c' (key h1 h3).1 (key h2 h4).1 (key h1 h3).2 (key h2 h4).2, R.b1, R.b2, R.b3,
    fun j a p c h1 h2 => R.b4 j a p c (key h1 h2).1 (key h1 h2).2, fun j a p c h1 h2 => R.b5 j a p c (key h1 h2).1 (key h1 h2).2, R.bN, R.bd⟩
  rcases get_put hg with ⟨rfl, rfl⟩ | ⟨n, e⟩
  · rcases get_set hs with ⟨_, rfl⟩ | ⟨z, _⟩
    · exact ⟨v, rfl, r⟩
    · exact absurd rfl z
  · rcases get_set hs with ⟨z, _⟩ | ⟨_, e2⟩
    · exact absurd z n
    · exact R.sl j s u e2 e
theorem Rep.setNew (R : Rep K B F H σ γ) (i : Nat) {a : Addr} {c : OC} (N : RNew K B F H σ γ a c) : Rep K B F H (σ.set i (some (.ref a))) (put γ i (.own none c)) := by
  have key : ∀ {j : Nat} {p : Option Nat} {c' : OC} {b : Addr}, (put γ i (.own none c))[j]? = some (.own p c') → (σ.set i (some (.ref a)))[j]? = some (some (.ref b)) → (j = i ∧ p = none ∧ b = a) ∨ (j ≠ i ∧ γ[j]? = some (.own p c') ∧ σ[j]? = some (some (.ref b))) := fun h h2 => by
    rcases get_put h with ⟨z, e⟩ | ⟨n, e⟩
    · rcases get_set h2 with ⟨_, e2⟩ | ⟨z2, _⟩
      · injection e with e1 _
        injection e2 with e2
        injection e2 with e2
        exact .inl ⟨z, e1, e2⟩
      · exact absurd z z2
    · rcases get_set h2 with ⟨z, _⟩ | ⟨_, e2⟩
      · exact absurd z n
      · exact .inr ⟨n, e, e2⟩
  refine ⟨R.fh, by rw [put_len, List.length_set]; exact R.len, fun j s u hs hg => ?_, fun i' j' b p c1 q c2 h1 h2 h3 h4 => ?_, R.b1, R.b2, R.b3, fun j b p c1 h1 h2 => ?_, fun j b p c1 h1 h2 => ?_, R.bN, R.bd⟩
  · rcases get_put hg with ⟨rfl, rfl⟩ | ⟨n, e⟩
    · rcases get_set hs with ⟨_, rfl⟩ | ⟨z, _⟩
      · exact ⟨a, rfl, N.fa, N.ok⟩
      · exact absurd rfl z
    · rcases get_set hs with ⟨z, _⟩ | ⟨_, e2⟩
      · exact absurd z n
      · exact R.sl j s u e2 e
  · rcases key h1 h3 with ⟨z1, _, z2⟩ | ⟨n1, y1, y2⟩
    · rcases key h2 h4 with ⟨z3, _, _⟩ | ⟨_, y3, y4⟩
      · rw [z1, z3]
      · rw [z2] at y4
        exact absurd y4 (N.na j' q c2 y3)
    · rcases key h2 h4 with ⟨_, _, z4⟩ | ⟨_, y3, y4⟩
      · rw [z4] at y2
        exact absurd y2 (N.na i' p c1 y1)
      · exact R.nd i' j' b p c1 q c2 y1 y3 y2 y4
  · rcases key h1 h2 with ⟨_, rfl, rfl⟩ | ⟨_, y1, y2⟩
    · exact ⟨fun k z => (by cases z), fun _ => N.bn⟩
    · exact R.b4 j b p c1 y1 y2
  · rcases key h1 h2 with ⟨_, _, rfl⟩ | ⟨_, y1, y2⟩
    · exact N.bm
    · exact R.b5 j b p c1 y1 y2
end

/-! ### blocks and small statements -/
def dNext (d : DEnds) (γ : Env) : Prop := d.nx γ
def dSeq (s t : DS) (d : DEnds) (γ : Env) : Prop := s { d with nx := t d } γ
def dDrop (de : DE) (d : DEnds) (γ : Env) : Prop := de γ fun _ γ1 => d.nx γ1
def dRet (de : DE) (d : DEnds) (γ : Env) : Prop := de γ d.rt
def dRetN (d : DEnds) (γ : Env) : Prop := d.rt (.val .non) γ
def dBreak (d : DEnds) (γ : Env) : Prop := d.bk γ
def dCont (d : DEnds) (γ : Env) : Prop := d.ct γ
def dIf (t : DT) (a b : DS) (d : DEnds) (γ : Env) : Prop := t γ fun c γ1 => (c = true → a d γ1) ∧ (c = false → b d γ1)
def dAsg (i : Nat) (de : DE) (d : DEnds) (γ : Env) : Prop := de γ fun s γ1 => match s with
  | .val x => d.nx (put γ1 i (.val x))
  | .new c => d.nx (put γ1 i (.own none c))
  | .own _ _ => False
/-- targets -/
abbrev DG := D → Env → (Env → Prop) → Prop
abbrev DGs := List D → Env → (Env → Prop) → Prop
/-- outside of ix the slots stay -/
def Off (ix : List Nat) (σ σ' : L2.St) : Prop := σ'.length = σ.length ∧ ∀ j, j ∉ ix → σ'[j]? = σ[j]?
def SG (K : PySem.W.Frag) (B : Bs) (g : TG) (dg : DG) (ix : List Nat) : Prop := ∀ (F H : Hp) (σ : L2.St) (γ : Env) (v : V) (x : D) (Q : L2.St → Hp → Prop) (q : Env → Prop), Rep K B F H σ γ → Rp (B.kz K) F v x → dg x γ q →
  (∀ σ' γ', Rep K B F H σ' γ' → Off ix σ σ' → q γ' → Q σ' H) → g v σ H Q
def SGs (K : PySem.W.Frag) (B : Bs) (g : TGs) (dg : DGs) (ix : List Nat) : Prop := ∀ (F H : Hp) (σ : L2.St) (γ : Env) (vs : List V) (xs : List D) (Q : L2.St → Hp → Prop) (q : Env → Prop), Rep K B F H σ γ → RpAll (B.kz K) F vs xs → dg xs γ q →
  (∀ σ' γ', Rep K B F H σ' γ' → Off ix σ σ' → q γ' → Q σ' H) → g vs σ H Q
structure XG (X : Cx) (B : Bs) (tg : Expr) (g : TG) (dg : DG) (ix : List Nat) : Prop where
  pg : PG X tg g
  sg : SG X.K B g dg ix
structure XGs (X : Cx) (B : Bs) (tg : List Expr) (g : TGs) (dg : DGs) (ix : List Nat) : Prop where
  pg : PGs X tg g
  sg : SGs X.K B g dg ix
def gN (i : Nat) (x : D) (γ : Env) (q : Env → Prop) : Prop := q (put γ i (.val x))
def gsNil (xs : List D) (γ : Env) (q : Env → Prop) : Prop := xs = [] ∧ q γ
def gsCons (g : DG) (r : DGs) (xs : List D) (γ : Env) (q : Env → Prop) : Prop := match xs with
  | x :: ys => g x γ fun γ1 => r ys γ1 q
  | [] => False
def gT (n : Nat) (gs : DGs) (x : D) (γ : Env) (q : Env → Prop) : Prop := match x with
  | .tup xs => xs.length = n ∧ gs xs γ q
  | _ => False
def dAsgG (de : DE) (g : DG) (d : DEnds) (γ : Env) : Prop := de γ fun s γ1 => match s with
  | .own _ _ => False
  | s => g s.data γ1 d.nx
section
variable {X : Cx} {B : Bs} {st : Stmt} {rest : List Stmt} {t u : TS} {ds du : DS} {e : Expr} {te : TE} {de : DE} {pos : Pos}
theorem ss_nil : XSs X B [] tNext dNext := ⟨pss_nil, fun F H σ γ E d R h k => k.nx F H σ γ R (Evl.Ex.refl F) h⟩
theorem ss_cons (h1 : XS X B st t ds) (h2 : XSs X B rest u du) : XSs X B (st :: rest) (tSeq t u) (dSeq ds du) := ⟨pss_cons h1.ps h2.ps, fun F H σ γ E d R h k =>
  h1.ss F H σ γ { E with nx := u E } { d with nx := du d } R h ⟨fun F1 H1 σ1 γ1 R1 e1 q => h2.ss F1 H1 σ1 γ1 E d R1 q (k.mono e1), k.rt, k.bk, k.ct⟩⟩
theorem ss_one (h1 : XS X B st t ds) : XSs X B [st] t ds := ⟨pss_one h1.ps, h1.ss⟩
theorem s_break : XS X B (.Break pos) tBreak dBreak := ⟨ps_break, fun F H σ γ E d R h k => k.bk F H σ γ R (Evl.Ex.refl F) h⟩
theorem s_cont : XS X B (.Continue pos) tCont dCont := ⟨ps_continue, fun F H σ γ E d R h k => k.ct F H σ γ R (Evl.Ex.refl F) h⟩
theorem s_pass : XS X B (.Pass pos) tNext dNext := ⟨ps_pass, fun F H σ γ E d R h k => k.nx F H σ γ R (Evl.Ex.refl F) h⟩
theorem s_expr (he : XE X B e te de) (hs : swapsWith e none pos.line X.env = pure false := by rfl) : XS X B (.Expr e pos) (tDrop te) (dDrop de) := ⟨ps_expr he.pe hs, fun F H σ γ E d R h k =>
  he.se F H σ γ _ _ R h fun v F1 H1 γ1 s R1 e1 _ q => k.nx F1 H1 σ γ1 R1 e1 q⟩
theorem s_ret (he : XE X B e te de) : XS X B (.Return (some e) pos) (tRet te) (dRet de) := ⟨ps_ret he.pe, fun F H σ γ E d R h k =>
  he.se F H σ γ _ _ R h fun v F1 H1 γ1 s R1 e1 o1 q => k.rt F1 H1 σ γ1 v s R1 e1 o1 q⟩
theorem s_retN : XS X B (.Return none pos) tRetN dRetN := ⟨ps_retN, fun F H σ γ E d R h k => k.rt F H σ γ _ (.val .non) R (Evl.Ex.refl F) .non h⟩
theorem s_if {c : Expr} {a b : List Stmt} {tc : TT} {dc : DT} (hc : XT X B c tc dc) (ha : XSs X B a t ds) (hb : XSs X B b u du) : XS X B (.If c a b pos) (tIfS tc t u) (dIf dc ds du) := ⟨ps_if hc.pt ha.ps hb.ps, fun F H σ γ E d R h k => by
  refine hc.st F H σ γ _ _ R h fun b F1 H1 γ1 R1 e1 q => ?_
  cases b with
  | true => exact ha.ss F1 H1 σ γ1 E d R1 (q.1 rfl) (k.mono e1)
  | false => exact hb.ss F1 H1 σ γ1 E d R1 (q.2 rfl) (k.mono e1)⟩
theorem sa_name {K : PySem.W.Frag} {B : Bs} {i : Nat} (h : SE K B te de) : SS K B (tAsg te (gName i)) (dAsg i de) := fun F H σ γ E d R hq k => by
  refine h F H σ γ _ _ R hq fun v F1 H1 γ1 s R1 e1 o1 q => ?_
  cases s with
  | val x => exact k.nx F1 H1 _ _ (R1.setVal i o1) e1 q
  | new c =>
    obtain ⟨a, rfl, N⟩ := o1
    exact k.nx F1 H1 _ _ (R1.setNew i N) e1 q
  | own j c => exact q.elim
theorem s_set (i : Nat) {x : Str} {pos' : Pos} (hN : X.N.Nodup) (he : XE X B e te de) (hi : X.N[i]? = some x := by rfl) (hx : Loc X.env.scope x := by first | exact Or.inl rfl | exact Or.inr rfl) (hs : swapsWith e (some (.Name x pos')) pos.line X.env = pure false := by rfl)
    (hf : X.fn x = true ∨ X.env.scope.names.lookup x = some .local := by first | exact .inl rfl | exact .inr rfl) : XS X B (.Assign [.Name x pos'] e pos) (tAsg te (gName i)) (dAsg i de) := ⟨ps_set hN hi hx he.pe hs hf, sa_name he.se⟩
theorem g_name (i : Nat) {x : Str} (hN : X.N.Nodup) (hi : X.N[i]? = some x := by rfl) (hx : Loc X.env.scope x := by first | exact Or.inl rfl | exact Or.inr rfl) (hf : X.fn x = true ∨ X.env.scope.names.lookup x = some .local := by first | exact .inl rfl | exact .inr rfl) : XG X B (.Name x pos) (gName i) (gN i) [i] :=
  ⟨pg_name hN hi hx hf, fun F H σ γ v x Q q R r h k => k _ _ (R.setVal i r) ⟨by rw [List.length_set], fun j hj => List.getElem?_set_ne fun e => hj (by rw [e]; exact List.mem_singleton.mpr rfl)⟩ h⟩
theorem gs_nil : XGs X B [] gNil gsNil [] := ⟨pgs_nil, fun F H σ γ vs xs Q q R r h k => by
  obtain ⟨rfl, h⟩ := h
  cases r
  exact ⟨rfl, k σ γ R ⟨rfl, fun _ _ => rfl⟩ h⟩⟩
theorem gs_cons {es : List Expr} {g : TG} {gs : TGs} {dg : DG} {dgs : DGs} {i1 i2 : List Nat} (h1 : XG X B e g dg i1) (h2 : XGs X B es gs dgs i2) (hs : (assignEach (e :: es) X.env).map (·.2) = assign e X.env :: (assignEach es X.env).map (·.2) := by rfl) : XGs X B (e :: es) (gCons g gs) (gsCons dg dgs) (i1 ++ i2) := ⟨pgs_cons h1.pg h2.pg hs, fun F H σ γ vs xs Q q R r h k => by
  cases r with
  | nil => exact h.elim
  | cons r t => exact ⟨_, _, rfl, h1.sg F H σ γ _ _ _ _ R r h fun σ' γ' R' o' h' => h2.sg F H σ' γ' _ _ Q q R' t h' fun σ2 γ2 R2 o2 h2 => k σ2 γ2 R2 ⟨o2.1.trans o'.1, fun j hj => (o2.2 j fun z => hj (List.mem_append_right _ z)).trans (o'.2 j fun z => hj (List.mem_append_left _ z))⟩ h2⟩⟩
theorem g_tup {es : List Expr} {k n : Nat} {gs : TGs} {dgs : DGs} {ix : List Nat} (hc : X.calm = true) (h : XGs X B es gs dgs ix) (hn : (assignEach es X.env).length = n := by rfl) (hst : (assignEach es X.env).findIdx? (·.1) = none := by rfl) : XG X B (.Tuple es k pos) (gTup X.K n gs) (gT n dgs) ix := ⟨pg_tup hc h.pg hn hst, fun F H σ γ v x Q q R r hq k => by
  cases r with
  | tup h1 h2 => exact ⟨_, _, rfl, ex_t R.fh h1, by rw [h2.length]; exact hq.1, h.sg F H σ γ _ _ Q q R h2 hq.2 k⟩
  | _ => exact hq.elim⟩
theorem s_asgG {tg : Expr} {g : TG} {dg : DG} {ix : List Nat} (he : XE X B e te de) (hg : XG X B tg g dg ix) (hs : swapsWithSole [tg] e pos.line X.env = pure false := by rfl) (hw : swappedStores [tg] e X.env = pure none := by rfl)
    (h1 : (assignEach [tg] X.env).map (·.2) = [assign tg X.env] := by rfl) : XS X B (.Assign [tg] e pos) (tAsg te g) (dAsgG de dg) := ⟨ps_asg he.pe hg.pg hs hw h1, fun F H σ γ E d R hq k => by
  refine he.se F H σ γ _ _ R hq fun v F1 H1 γ1 s R1 e1 o1 q => ?_
  obtain ⟨F2, R2, e2, o2⟩ := o1.fz R1
  cases s with
  | own j c => exact q.elim
  | val x => exact hg.sg F2 H1 σ γ1 v x _ d.nx R2 o2 q fun σ' γ' R' _ h' => k.nx F2 H1 σ' γ' R' (e1.trans e2) h'
  | new c => exact hg.sg F2 H1 σ γ1 v _ _ d.nx R2 o2 q fun σ' γ' R' _ h' => k.nx F2 H1 σ' γ' R' (e1.trans e2) h'⟩
/-- x op= e on numbers -/
def dAug (i : Nat) (f : Int → Int → Int) (de : DE) (d : DEnds) (γ : Env) : Prop := match look γ i with
  | .val (.int a) => de γ fun s γ1 => match s.data with
    | .int b => d.nx (put γ1 i (.val (.int (f a b))))
    | _ => False
  | _ => False
theorem s_aug (i : Nat) {x : Str} {op : Operator} {f : Int → Int → Int} {pos' : Pos} (hN : X.N.Nodup) (he : XE X B e te de) (ho : PIp X op (ipI f)) (hi : X.N[i]? = some x := by rfl) (hx : Loc X.env.scope x := by first | exact Or.inl rfl | exact Or.inr rfl)
    (hf : X.fn x = true ∨ X.env.scope.names.lookup x = some .local := by first | exact .inl rfl | exact .inr rfl) : XS X B (.AugAssign (.Name x pos') op e pos) (tAug i te (ipI f)) (dAug i f de) := ⟨ps_aug hN hi hx he.pe ho hf, fun F H σ γ E d R hq k => by
  unfold dAug at hq
  split at hq
  · rename_i a hl
    obtain ⟨v, hs, r⟩ := R.val hl
    cases r
    refine ⟨_, hs, he.se F H σ γ _ _ R hq fun v F1 H1 γ1 s R1 e1 o1 q => ?_⟩
    split at q
    · rename_i b es
      have r := o1.rs R1
      rw [es] at r
      exact ⟨_, _, rfl, r.int, k.nx F1 H1 _ _ (R1.setVal i (.int _)) e1 q⟩
    · exact q.elim
  · exact hq.elim⟩
end

/-! ### things that change -/
section
variable {K : PySem.W.Frag} {B : Bs} {F H : Hp} {σ : L2.St} {γ : Env}
/-- the list in slot j is written anew -/
theorem Rep.write (R : Rep K B F H σ γ) {j : Nat} {p : Option Nat} {ds ds' : List D} {a : Addr} {vs vs' : List V} (hl : look γ j = .own p (.lst ds)) (hs : σ[j]? = some (some (.ref a))) (ha : H a = some (.lst vs)) (r : RpAll (B.kz K) F vs' ds') :
    Rep K B F (upd H a (.lst vs')) σ (put γ j (.own p (.lst ds'))) := by
  obtain ⟨a', hs', hg, fa, ok⟩ := R.own hl
  obtain rfl : a = a' := by rw [hs] at hs'; cases hs'; rfl
  have ne_own : ∀ {b x : Addr}, H b = some (.own x) → b ≠ a := fun h e => by
    subst e
    rw [ha] at h; cases h
  have key : ∀ {i : Nat} {q : Option Nat} {c : OC}, (put γ j (.own p (.lst ds')))[i]? = some (.own q c) → ∃ c0, γ[i]? = some (.own q c0) ∧ ((i = j ∧ c = .lst ds') ∨ (i ≠ j ∧ c0 = c)) := fun h => by
    rcases get_put h with ⟨rfl, e⟩ | ⟨n, e⟩
    · injection e with e1 e2
      subst e1; subst e2
      exact ⟨_, hg, .inl ⟨rfl, rfl⟩⟩
    · exact ⟨_, e, .inr ⟨n, rfl⟩⟩
  refine ⟨fun b o e => ?_, by rw [put_len]; exact R.len, fun i s t h1 h2 => ?_, fun i i' b q c q' c' h1 h2 h3 h4 => ?_, fun b o e => ?_, R.b2, R.b3, fun i b q c h1 h2 => ?_, fun i b q c h1 h2 => ?_, fun b o e => ?_, fun b o e => ?_⟩
  · have n : b ≠ a := fun z => by subst z; rw [fa] at e; cases e
    rw [upd_ne n]; exact R.fh b o e
  · rcases get_put h2 with ⟨rfl, rfl⟩ | ⟨n, e⟩
    · rw [hs] at h1; cases h1
      exact ⟨a, rfl, fa, vs', upd_same, r⟩
    · have q := R.sl i s t h1 e
      cases t with
      | no => trivial
      | val d => exact q
      | own q' c =>
        obtain ⟨b, e', f, ok'⟩ := q
        subst e'
        have nb : b ≠ a := fun z => by subst z; exact n (R.nd i j b q' c p (.lst ds) e hg h1 hs)
        exact ⟨b, rfl, f, ok'.heap (upd_ne nb) fun dx hd => upd_ne (ne_own hd)⟩
  · obtain ⟨_, y1, _⟩ := key h1
    obtain ⟨_, y2, _⟩ := key h2
    exact R.nd i i' b q _ q' _ y1 y2 h3 h4
  · obtain ⟨x1, o', x2⟩ := R.b1 b o e
    by_cases hb : b = a
    · subst hb
      rw [upd_same]
      refine ⟨fun n => ?_, _, rfl⟩
      rcases R.b5 j b p _ hg hs with z | z
      · exact absurd z n
      · rw [e] at z; cases z
    · rw [upd_ne hb]; exact ⟨x1, o', x2⟩
  · obtain ⟨_, y1, _⟩ := key h1
    exact R.b4 i b q _ y1 h2
  · obtain ⟨_, y1, _⟩ := key h1
    exact R.b5 i b q _ y1 h2
  · obtain ⟨o', x2⟩ := R.bN b o e
    by_cases hb : b = a
    · subst hb; exact ⟨_, upd_same⟩
    · rw [upd_ne hb]; exact ⟨o', x2⟩
  · obtain ⟨o', x2, kn⟩ := R.bd b o e
    by_cases hb : b = a
    · subst hb
      rw [ha] at x2
      cases x2
      exact ⟨_, upd_same, kn.trans ⟨_, rfl⟩⟩
    · rw [upd_ne hb]; exact ⟨o', x2, kn⟩
/-- what a method does to the list in slot j: by its content and the arguments, the new content and the answer -/
def MutD (K : PySem.W.Frag) (r : V → List V → Hp → VK → Prop) (f : List D → List D → (List D → D → Prop) → Prop) : Prop := ∀ (z : Addr → Prop) (F H : Hp) (a : Addr) (vs : List V) (ds : List D) (xs : List V) (as : List D) (Q : VK) (q : List D → D → Prop), Ex F H → H a = some (.lst vs) → RpAll ⟨K, z⟩ F vs ds → RpAll ⟨K, z⟩ F xs as → f ds as q →
  (∀ v d vs' ds', RpAll ⟨K, z⟩ F vs' ds' → Rp ⟨K, z⟩ F v d → q ds' d → Q v (upd H a (.lst vs'))) → r (.ref a) xs H Q
def isL : Sx → Prop
  | .own _ (.lst _) => True
  | _ => False
def dMut (j : Nat) (f : List D → List D → (List D → D → Prop) → Prop) (da : DA) (γ : Env) (q : RS → Env → Prop) : Prop := isL (look γ j) ∧ da γ fun rs γ1 => allV rs ∧ match look γ1 j with
  | .own p (.lst ds) => f ds (rs.map RS.data) fun ds' d => q (.val d) (put γ1 j (.own p (.lst ds')))
  | _ => False
theorem se_mut {ta : TA} {da : DA} {r : V → List V → Hp → VK → Prop} {f : List D → List D → (List D → D → Prop) → Prop} {j : Nat} (hm : MutD K r f) (h : SA K B ta da) : SE K B (tBM K "list" r (tVar j) ta) (dMut j f da) := fun F H σ γ Q q R ⟨h0, hq⟩ k => by
  obtain ⟨p, ds, hl⟩ : ∃ p ds, look γ j = .own p (.lst ds) := by
    revert h0
    cases look γ j with
    | no => exact fun z => z.elim
    | val d => exact fun z => z.elim
    | own p c => cases c with
      | lst ds => exact fun _ => ⟨p, ds, rfl⟩
      | ins C fs => exact fun z => z.elim
      | dct kd => exact fun z => z.elim
  obtain ⟨a, hs, hg, fa, vs, ha, ra⟩ := R.own hl
  refine ⟨_, hs, Or.inl ⟨rfl, vs, Evl.sq_of ha⟩, h F H σ γ _ _ R hq fun xs F1 H1 γ1 rs R1 e1 o1 ⟨h1, h2⟩ => ?_⟩
  split at h2
  · rename_i p1 ds1 hl1
    obtain ⟨a1, hs1, hg1, fa1, vs1, ha1, ra1⟩ := R1.own hl1
    rw [hs] at hs1; cases hs1
    exact hm B.z F1 H1 a vs1 ds1 xs _ Q _ R1.fh ha1 ra1 (allV_rp o1 h1) h2 fun v d vs' ds' r1 r2 h3 => k v F1 _ _ (.val d) (R1.write hl1 hs ha1 r1) e1 r2 h3
  · exact h2.elim
theorem se_mut0 {r : V → List V → Hp → VK → Prop} {f : List D → List D → (List D → D → Prop) → Prop} {j : Nat} (hm : MutD K r f) : SE K B (tBM0 K "list" r (tVar j)) (dMut j f dNil) := fun F H σ γ Q q R ⟨h0, _, h2⟩ k => by
  split at h2
  · rename_i p ds hl
    obtain ⟨a, hs, hg, fa, vs, ha, ra⟩ := R.own hl
    exact ⟨_, hs, Or.inl ⟨rfl, vs, Evl.sq_of ha⟩, hm B.z F H a vs ds [] [] Q _ R.fh ha ra .nil h2 fun v d vs' ds' r1 r2 h3 => k v F _ _ (.val d) (R.write hl hs ha r1) (Evl.Ex.refl F) r2 h3⟩
  · exact h2.elim
def mApp (ds as : List D) (q : List D → D → Prop) : Prop := match as with
  | [x] => ds.length < 1000000 ∧ q (ds ++ [x]) .non
  | _ => False
theorem md_append : MutD K rAppend mApp := fun z F H a vs ds xs as Q q eFH ha ra rx hf k => by
  unfold mApp at hf
  split at hf
  · obtain ⟨x, rfl, r⟩ := one_rs rx.p
    exact ⟨a, vs, x, rfl, rfl, ha, Nat.lt_of_lt_of_le (by rw [ra.length]; exact hf.1) (by decide), k _ _ _ _ (RpAll.of (P_app ra.p (.cons r .nil))) .non hf.2⟩
  · exact hf.elim
def mPopAt (ds as : List D) (q : List D → D → Prop) : Prop := match as with
  | [.int i] => -1000000 ≤ i ∧ i ≤ 1000000 ∧ ∃ k d, seqIndex? i ds.length = some k ∧ ds[k]? = some d ∧ q (ds.eraseIdx k) d
  | _ => False
theorem md_popAt : MutD K rPopAt mPopAt := fun z F H a vs ds xs as Q q eFH ha ra rx hf k => by
  unfold mPopAt at hf
  split at hf
  · obtain ⟨x, rfl, r⟩ := one_rs rx.p
    cases r
    obtain ⟨i1, i2, j, d, h1, h2, h3⟩ := hf
    obtain ⟨v, hv, rv⟩ := P_get ra.p h2
    exact ⟨a, vs, _, j, v, rfl, rfl, ha, by omega, by omega, by rw [ra.length]; exact h1, hv, k _ _ _ _ (RpAll.of (P_erase j ra.p)) rv h3⟩
  · exact hf.elim
def mPop (ds as : List D) (q : List D → D → Prop) : Prop := match as with
  | [] => ∃ d, ds[ds.length - 1]? = some d ∧ q ds.dropLast d
  | _ => False
theorem md_pop : MutD K rPop mPop := fun z F H a vs ds xs as Q q eFH ha ra rx hf k => by
  unfold mPop at hf
  split at hf
  · cases rx
    obtain ⟨d, h2, h3⟩ := hf
    obtain ⟨v, hv, rv⟩ := P_get ra.p h2
    exact ⟨a, vs, v, rfl, rfl, ha, by rw [ra.length]; exact hv, k _ _ _ _ (RpAll.of (P_dropLast ra.p)) rv h3⟩
  · exact hf.elim
end
section
variable {X : Cx} {B : Bs} {e : Expr} {es : List Expr} {ta : TA} {da : DA} {cpos apos pos : Pos} {x : Str}
theorem x_mut {j : Nat} {r : V → List V → Hp → VK → Prop} {f : List D → List D → (List D → D → Prop) → Prop} {c : Expr} (pe : PA X es ta → PE X c (tBM X.K "list" r (tVar j) ta)) (hd : MutD X.K r f) (h : XA X B es ta da) : XE X B c (tBM X.K "list" r (tVar j) ta) (dMut j f da) := ⟨pe h.pa, se_mut hd h.sa⟩
theorem x_mut0 {j : Nat} {r : V → List V → Hp → VK → Prop} {f : List D → List D → (List D → D → Prop) → Prop} {c : Expr} (pe : PE X c (tBM0 X.K "list" r (tVar j))) (hd : MutD X.K r f) : XE X B c (tBM0 X.K "list" r (tVar j)) (dMut j f dNil) := ⟨pe, se_mut0 hd⟩
/-- xs[i] = e -/
def RS.kept : RS → Prop
  | .own _ _ => False
  | _ => True
def dSetI (j : Nat) (de di : DE) (d : DEnds) (γ : Env) : Prop := de γ fun s γ1 => s.kept ∧ isL (look γ1 j) ∧ di γ1 fun t γ2 => match look γ2 j, t.data with
  | .own p (.lst ds), .int i => ∃ k, ixN ds.length i = some k ∧ d.nx (put γ2 j (.own p (.lst (ds.set k s.data))))
  | _, _ => False
theorem ss_setI {K : PySem.W.Frag} {B : Bs} {te ti : TE} {de di : DE} {j : Nat} (he : SE K B te de) (hi : SE K B ti di) : SS K B (tAsg te (gSub (tVar j) ti rSetL)) (dSetI j de di) := fun F H σ γ E d R hq k => by
  refine he F H σ γ _ _ R hq fun v F1 H1 γ1 s R1 e1 o1 ⟨hk, h0, q⟩ => ?_
  obtain ⟨F2, R2, e2, o2⟩ := o1.fz R1
  have rv : Rp (B.kz K) F2 v s.data := by
    cases s with
    | val x => exact o2
    | new c => exact o2
    | own j c => exact hk.elim
  obtain ⟨p, ds, hl⟩ : ∃ p ds, look γ1 j = .own p (.lst ds) := by
    revert h0
    cases look γ1 j with
    | no => exact fun z => z.elim
    | val d => exact fun z => z.elim
    | own p c => cases c with
      | lst ds => exact fun _ => ⟨p, ds, rfl⟩
      | ins C fs => exact fun z => z.elim
      | dct kd => exact fun z => z.elim
  obtain ⟨a, hs, hg, fa, vs, ha, ra⟩ := R2.own hl
  refine ⟨_, hs, hi F2 H1 σ γ1 _ _ R2 q fun v3 F3 H3 γ3 t R3 e3 o3 q3 => ?_⟩
  split at q3
  · rename_i p1 ds1 i hl1 es
    obtain ⟨a1, hs1, hg1, fa1, vs1, ha1, ra1⟩ := R3.own hl1
    rw [hs] at hs1; cases hs1
    obtain ⟨m, hm, q4⟩ := q3
    have rt := o3.rs R3
    rw [es] at rt
    exact ⟨a, vs1, i, m, rfl, rt.int, ha1, by rw [ra1.length]; exact hm, k.nx F3 _ _ _ (R3.write hl1 hs ha1 (RpAll.of (P_set (Rp.mono e3 rv) m ra1.p))) ((e1.trans e2).trans e3) q4⟩
  · exact q3.elim
theorem s_setI (j : Nat) {ei : Expr} {te ti : TE} {de di : DE} {p3 : Pos} {o : Str} (he : XE X B e te de) (hi : XE X B ei ti di)
    (hN : X.N[j]? = some o := by rfl) (hv : Vis X.env.scope o := by first | exact Or.inl rfl | exact Or.inr (Or.inl rfl) | exact Or.inr (Or.inr rfl)) (hd : (o == ("__debug__" : Str)) = false := by decide) (hcd : (o == ("__classdict__" : Str)) = false := by decide)
    (ha : ∀ v, assign (.Subscript (.Name o apos) ei p3) X.env v = (do
      let ov ← holding [v] (eval (.Name o apos) X.env)
      let iv ← holding [v, ov] (eval ei X.env)
      standAt p3
      holding [v, ov, iv] (setItem ov iv v)
      release [v, ov, iv] []) := by intro _; rfl)
    (hs : swapsWithSole [.Subscript (.Name o apos) ei p3] e pos.line X.env = pure false := by rfl) (hw : swappedStores [.Subscript (.Name o apos) ei p3] e X.env = pure none := by rfl)
    (h1 : (assignEach [.Subscript (.Name o apos) ei p3] X.env).map (·.2) = [assign (.Subscript (.Name o apos) ei p3) X.env] := by rfl) :
    XS X B (.Assign [.Subscript (.Name o apos) ei p3] e pos) (tAsg te (gSub (tVar j) ti rSetL)) (dSetI j de di) :=
  ⟨ps_asg he.pe (pg_sub (pe_var hN hv hd hcd) hi.pe set_list ha) hs hw h1, ss_setI he.se hi.se⟩
end
end DL

set_option Elab.async false
set_option linter.all false
set_option maxRecDepth 100000
set_option maxHeartbeats 2000000
namespace DL
open PySem PySem.Spec PyProof.Rows L2
open Evl (Ex ex_l ex_t)

/-! ### while -/
def dWhile (dt : DT) (db : DS) (d : DEnds) (γ : Env) : Prop := ∃ I : Nat → Env → Prop, (∃ m, I m γ) ∧ ∀ m γ2, I m γ2 → dt γ2 fun b γ3 =>
  (b = true → db { nx := fun γ4 => ∃ m', m' < m ∧ I m' γ4, ct := fun γ4 => ∃ m', m' < m ∧ I m' γ4, bk := d.nx, rt := d.rt } γ3) ∧ (b = false → d.nx γ3)
theorem s_while {X : Cx} {B : Bs} {c : Expr} {body : List Stmt} {pos : Pos} {tc : TT} {dc : DT} {tb : TS} {db : DS} (hp : PassesOwn (model X.prog X.w) X.A X.env X.xe) (hc : XT X B c tc dc) (hb : XSs X B body tb db) : XS X B (.While c body [] pos) (tWhile tc tb) (dWhile dc db) := ⟨ps_while hp hc.pt hb.ps, fun F H σ γ E d R ⟨I, ⟨m0, i0⟩, hI⟩ k => by
  refine ⟨fun m σ' H' => ∃ F' γ', Rep X.K B F' H' σ' γ' ∧ Ex F F' ∧ I m γ', ⟨m0, F, γ, R, Evl.Ex.refl F, i0⟩, fun m σ' H' ⟨F1, γ1, R1, e1, i1⟩ => ?_⟩
  refine hc.st F1 H' σ' γ1 _ _ R1 (hI m γ1 i1) fun b F2 H2 γ2 R2 e2 q => ?_
  cases b with
  | true =>
    refine ⟨fun σ3 H3 => ∃ m', m' < m ∧ ∃ F' γ', Rep X.K B F' H3 σ3 γ' ∧ Ex F F' ∧ I m' γ', fun σ3 H3 h => h, ?_⟩
    refine hb.ss F2 H2 σ' γ2 _ _ R2 (q.1 rfl) ⟨fun F3 H3 σ3 γ3 R3 e3 ⟨m', hm, i3⟩ => ⟨m', hm, F3, γ3, R3, (e1.trans e2).trans e3, i3⟩, (k.mono (e1.trans e2)).rt, fun F3 H3 σ3 γ3 R3 e3 h => k.nx F3 H3 σ3 γ3 R3 ((e1.trans e2).trans e3) h,
      fun F3 H3 σ3 γ3 R3 e3 ⟨m', hm, i3⟩ => ⟨m', hm, F3, γ3, R3, (e1.trans e2).trans e3, i3⟩⟩
  | false => exact k.nx F2 H2 σ' γ2 R2 (e1.trans e2) (q.2 rfl)⟩

/-! ### what is walked -/
abbrev DI := Env → (Nat → (Nat → D → Prop) → Env → Prop) → Prop
theorem Rp.zz {K : PySem.W.Frag} {B : Bs} {z : Addr → Prop} {F : Hp} {v : V} {d : D} (hz : B.z = z) (h : Rp ⟨K, z⟩ F v d) : Rp (B.kz K) F v d := by
  unfold Bs.kz
  rw [hz]
  exact h
structure JOk (K : PySem.W.Frag) (z : Addr → Prop) (F0 : Hp) (J : It) (n : Nat) (y : Nat → D → Prop) : Prop where
  go : ∀ (B : Bs) (F H : Hp) (σ : L2.St) (γ : Env) (i : Nat), Rep K B F H σ γ → Ex F0 F → i < n → J.go i H
  yl : ∀ (B : Bs) (F H : Hp) (σ : L2.St) (γ : Env) (i : Nat) (x : V) (H' : Hp), Rep K B F H σ γ → Ex F0 F → i < n → J.yld i H x H' → B.z = z → ∃ F' d, Rep K B F' H' σ γ ∧ Ex F F' ∧ Rp (B.kz K) F' x d ∧ y i d
  st : ∀ (B : Bs) (F H : Hp) (σ : L2.St) (γ : Env) (i : Nat), Rep K B F H σ γ → Ex F0 F → n ≤ i → J.stop i H
def SI (K : PySem.W.Frag) (B : Bs) (wi : TI) (di : DI) : Prop := ∀ (F H : Hp) (σ : L2.St) (γ : Env) (R : It → Hp → Prop) (r : Nat → (Nat → D → Prop) → Env → Prop), Rep K B F H σ γ → di γ r →
  (∀ J F' H' γ' n y, Rep K B F' H' σ γ' → Ex F F' → JOk K B.z F' J n y → r n y γ' → R J H') → wi σ H R
structure XI (X : Cx) (B : Bs) (tg iter : Expr) (wi : TI) (di : DI) : Prop where
  pi : PI X tg iter wi
  si : SI X.K B wi di
/-- for: I, what holds between the turns -/
def dFor (di : DI) (dg : DG) (db : DS) (d : DEnds) (γ : Env) : Prop := di γ fun n y γ1 => ∃ I : Nat → Env → Prop, I 0 γ1 ∧
  (∀ i γ2, i < n → I i γ2 → ∀ x, y i x → dg x γ2 fun γ3 => db { nx := I (i + 1), ct := I (i + 1), bk := d.nx, rt := d.rt } γ3) ∧ ∀ γ2, I n γ2 → d.nx γ2
theorem s_for {X : Cx} {B : Bs} {tg iter : Expr} {body : List Stmt} {pos : Pos} {wi : TI} {di : DI} {g : TG} {dg : DG} {tb : TS} {db : DS} {ix : List Nat} (hp : PassesOwn (model X.prog X.w) X.A X.env X.xe) (hc : X.calm = true) (hi : XI X B tg iter wi di) (hg : XG X B tg g dg ix) (hb : XSs X B body tb db)
    (hs : ∀ x, foldedSetIterable iter X.env x = pure x := by intro _; rfl) : XS X B (.For tg iter body [] pos) (tFor wi g tb) (dFor di dg db) := ⟨ps_for hp hc hi.pi hg.pg hb.ps hs, fun F H σ γ E d R h k => by
  refine hi.si F H σ γ _ _ R h fun J F1 H1 γ1 n y R1 e1 jo ⟨I, i0, it, ie⟩ => ?_
  refine ⟨fun i m σ' H' => m = n - i ∧ i ≤ n ∧ ∃ F' γ', Rep X.K B F' H' σ' γ' ∧ Ex F1 F' ∧ I i γ', ⟨n, by omega, by omega, F1, γ1, R1, Evl.Ex.refl F1, i0⟩, fun i m σ' H' ⟨hm, hn, F2, γ2, R2, e2, i2⟩ => ?_⟩
  by_cases hlt : i < n
  · refine .inr ⟨jo.go B F2 H' σ' γ2 i R2 e2 hlt, fun σ3 H3 => ∃ F' γ', Rep X.K B F' H3 σ3 γ' ∧ Ex F1 F' ∧ I (i + 1) γ', fun σ3 H3 q => ⟨n - (i + 1), by omega, rfl, by omega, q⟩, fun x H3 hy => ?_⟩
    obtain ⟨F3, dd, R3, e3, rx, yx⟩ := jo.yl B F2 H' σ' γ2 i x H3 R2 e2 hlt hy rfl
    refine hg.sg F3 H3 σ' γ2 x dd _ _ R3 rx (it i γ2 hlt i2 dd yx) fun σ4 γ4 R4 _ h4 => ?_
    exact hb.ss F3 H3 σ4 γ4 _ _ R4 h4 ⟨fun F5 H5 σ5 γ5 R5 e5 i5 => ⟨F5, γ5, R5, (e2.trans e3).trans e5, i5⟩, (k.mono ((e1.trans e2).trans e3)).rt, fun F5 H5 σ5 γ5 R5 e5 q => k.nx F5 H5 σ5 γ5 R5 (((e1.trans e2).trans e3).trans e5) q,
      fun F5 H5 σ5 γ5 R5 e5 i5 => ⟨F5, γ5, R5, (e2.trans e3).trans e5, i5⟩⟩
  · obtain rfl : i = n := by omega
    exact .inl ⟨jo.st B F2 H' σ' γ2 i R2 e2 (Nat.le_refl _), k.nx F2 H' σ' γ2 R2 (e1.trans e2) (ie γ2 i2)⟩⟩

/-! ### lists, tuples, ranges, zip, enumerate, reversed -/
section
variable {K : PySem.W.Frag} {B : Bs}
theorem sq_inj_lst {F H : Hp} {a : Addr} {vs : List V} (e : Ex F H) (h : F a = some (.lst vs)) : SqL K H a vs := Evl.sq_of (e _ _ h)
def dIL (de : DE) (γ : Env) (r : Nat → (Nat → D → Prop) → Env → Prop) : Prop := de γ fun s γ1 => s.kept ∧ match s.data with
  | .lst ds => r ds.length (fun i d => ds[i]? = some d) γ1
  | .scr ns => r ns.length (fun i d => ∃ n, ns[i]? = some n ∧ d = .int n) γ1
  | _ => False
theorem RsOk.kp {B : Bs} {F H : Hp} {σ : L2.St} {γ : Env} {v : V} {s : RS} (h : RsOk K B F H σ γ v s.fz) (hk : s.kept) : Rp (B.kz K) F v s.data := by
  cases s with
  | val d => exact h
  | new c => exact h
  | own j c => exact hk.elim
theorem jo_list {F0 : Hp} {a : Addr} {vs : List V} {ds : List D} (h : SqL K F0 a vs) {z : Addr → Prop} (r : RpAll ⟨K, z⟩ F0 vs ds) : JOk K z F0 (Itl K a) ds.length (fun i d => ds[i]? = some d) where
  go := fun B F H σ γ i R e hi => by
    obtain ⟨x, hx⟩ : ∃ x, vs[i]? = some x := ⟨vs[i]'(by rw [r.length]; exact hi), List.getElem?_eq_getElem _⟩
    exact ⟨vs, x, ex_l (e.trans R.fh) h, hx⟩
  yl := fun B F H σ γ i x H' R e hi ⟨hH, hy⟩ hz => by
    subst hH
    have hv := hy vs (ex_l (e.trans R.fh) h)
    obtain ⟨d, hd, rd⟩ := P_getL r.p hv
    exact ⟨F, d, R, Evl.Ex.refl F, (rd.mono e).zz hz, hd⟩
  st := fun B F H σ γ i R e hi => ⟨vs, ex_l (e.trans R.fh) h, by rw [r.length]; exact hi⟩
theorem si_list {te : TE} {de : DE} (he : SE K B te de) : SI K B (iList K te) (dIL de) := fun F H σ γ W r R hq k => by
  refine he F H σ γ _ _ R hq fun x F1 H1 γ1 s R1 e1 o1 ⟨hk, h1⟩ => ?_
  obtain ⟨F2, R2, e2, o2⟩ := o1.fz R1
  have rp := o2.kp hk
  split at h1
  · rename_i ds es
    rw [es] at rp
    cases rp with
    | lst ha ra => exact ⟨_, rfl, ⟨_, Evl.sq_of (R2.fh _ _ ha)⟩, k _ F2 H1 γ1 _ _ R2 (e1.trans e2) (jo_list (Evl.sq_of ha) ra) h1⟩
  · rename_i ns es
    rw [es] at rp
    cases rp with
    | scr ha =>
      refine ⟨_, rfl, ⟨_, ex_l R2.fh ha⟩, k _ F2 H1 γ1 _ _ R2 (e1.trans e2) ?_ h1⟩
      have j := jo_list (z := B.z) ha (ints_rp ns)
      rw [List.length_map] at j
      refine ⟨j.go, fun B F H σ γ i x H' R e hi hy hz => ?_, j.st⟩
      obtain ⟨F', d, q1, q2, q3, q4⟩ := j.yl B F H σ γ i x H' R e hi hy hz
      rw [List.getElem?_map] at q4
      cases hn : ns[i]? with
      | none => rw [hn] at q4; cases q4
      | some n => rw [hn] at q4; exact ⟨F', d, q1, q2, q3, n, rfl, (Option.some.inj q4).symm⟩
  · exact h1.elim
def dIT (de : DE) (γ : Env) (r : Nat → (Nat → D → Prop) → Env → Prop) : Prop := de γ fun s γ1 => s.kept ∧ match s.data with
  | .tup ds => r ds.length (fun i d => ds[i]? = some d) γ1
  | _ => False
theorem jo_tup {F0 : Hp} {a : Addr} {vs : List V} {ds : List D} (h : SqT K F0 a vs) {z : Addr → Prop} (r : RpAll ⟨K, z⟩ F0 vs ds) : JOk K z F0 (Itt K a) ds.length (fun i d => ds[i]? = some d) where
  go := fun B F H σ γ i R e hi => by
    obtain ⟨x, hx⟩ : ∃ x, vs[i]? = some x := ⟨vs[i]'(by rw [r.length]; exact hi), List.getElem?_eq_getElem _⟩
    exact ⟨vs, x, ex_t (e.trans R.fh) h, hx⟩
  yl := fun B F H σ γ i x H' R e hi ⟨hH, hy⟩ hz => by
    subst hH
    have hv := hy vs (ex_t (e.trans R.fh) h)
    obtain ⟨d, hd, rd⟩ := P_getL r.p hv
    exact ⟨F, d, R, Evl.Ex.refl F, (rd.mono e).zz hz, hd⟩
  st := fun B F H σ γ i R e hi => ⟨vs, ex_t (e.trans R.fh) h, by rw [r.length]; exact hi⟩
theorem si_tup {te : TE} {de : DE} (he : SE K B te de) : SI K B (iTup K te) (dIT de) := fun F H σ γ W r R hq k => by
  refine he F H σ γ _ _ R hq fun x F1 H1 γ1 s R1 e1 o1 ⟨hk, h1⟩ => ?_
  obtain ⟨F2, R2, e2, o2⟩ := o1.fz R1
  have rp := o2.kp hk
  split at h1
  · rename_i ds es
    rw [es] at rp
    cases rp with
    | tup ha ra => exact ⟨_, rfl, ⟨_, ex_t R2.fh ha⟩, k _ F2 H1 γ1 _ _ R2 (e1.trans e2) (jo_tup ha ra) h1⟩
  · exact h1.elim
theorem jo_range {F0 : Hp} {lo : Int} {n : Nat} {z : Addr → Prop} : JOk K z F0 (Itr lo n) n (fun i d => d = .int (lo + i)) where
  go := fun B F H σ γ i R e hi => hi
  yl := fun B F H σ γ i x H' R e hi ⟨hH, hy⟩ hz => by
    subst hH; subst hy
    exact ⟨F, _, R, Evl.Ex.refl F, .int _, rfl⟩
  st := fun B F H σ γ i R e hi => hi
theorem ints1 {B : Bs} {F H : Hp} {σ : L2.St} {γ : Env} (R : Rep K B F H σ γ) {vs : List V} {rs : List RS} {a : Int} (o : Paired (RsOk K B F H σ γ) vs rs) (h : rs.map RS.data = [.int a]) : vs = [.int a] := by
  have q := rs_all R o
  rw [h] at q
  obtain ⟨x, rfl, r⟩ := one_rs q
  rw [r.int]
def dIR1 (da : DA) (γ : Env) (r : Nat → (Nat → D → Prop) → Env → Prop) : Prop := da γ fun rs γ1 => match rs.map RS.data with
  | [.int n] => -1000000000000 ≤ n ∧ n ≤ 1000000000000 ∧ r n.toNat (fun i d => d = .int i) γ1
  | _ => False
theorem si_range1 {ta : TA} {da : DA} (h : SA K B ta da) : SI K B (iRng1 ta) (dIR1 da) := fun F H σ γ W r R hq k => by
  refine h F H σ γ _ _ R hq fun vs F1 H1 γ1 rs R1 e1 o1 h1 => ?_
  split at h1
  · rename_i n es
    obtain ⟨h0, h2, h3⟩ := h1
    refine ⟨n, ints1 R1 o1 es, by omega, by omega, k _ F1 H1 γ1 _ _ R1 e1 ⟨(jo_range (z := B.z)).go, fun B F H σ γ i x H' R e hi hy hz => ?_, (jo_range (z := B.z)).st⟩ h3⟩
    obtain ⟨F', d, q1, q2, q3, q4⟩ := (jo_range (z := _)).yl B F H σ γ i x H' R e hi hy hz
    exact ⟨F', d, q1, q2, q3, by rw [q4, Int.zero_add]⟩
  · exact h1.elim
theorem ints2 {B : Bs} {F H : Hp} {σ : L2.St} {γ : Env} (R : Rep K B F H σ γ) {vs : List V} {rs : List RS} {a b : Int} (o : Paired (RsOk K B F H σ γ) vs rs) (h : rs.map RS.data = [.int a, .int b]) : vs = [.int a, .int b] := by
  have q := rs_all R o
  rw [h] at q
  obtain ⟨x, y, rfl, r, r'⟩ := two_rs q
  rw [r.int, r'.int]
def dIR2 (da : DA) (γ : Env) (r : Nat → (Nat → D → Prop) → Env → Prop) : Prop := da γ fun rs γ1 => match rs.map RS.data with
  | [.int m, .int n] => -1000000000000 ≤ m ∧ m ≤ 1000000000000 ∧ -1000000000000 ≤ n ∧ n ≤ 1000000000000 ∧ r (n - m).toNat (fun i d => d = .int (m + i)) γ1
  | _ => False
theorem si_range2 {ta : TA} {da : DA} (h : SA K B ta da) : SI K B (iRng2 ta) (dIR2 da) := fun F H σ γ W r R hq k => by
  refine h F H σ γ _ _ R hq fun vs F1 H1 γ1 rs R1 e1 o1 h1 => ?_
  split at h1
  · rename_i m n es
    obtain ⟨h0, h2, h3, h4, h5⟩ := h1
    exact ⟨m, n, ints2 R1 o1 es, ⟨by omega, by omega, by omega, by omega⟩, k _ F1 H1 γ1 _ _ R1 e1 jo_range h5⟩
  · exact h1.elim
/-- range(lo, hi, c), c a written step of 1 to 1000 -/
def dIR3 (da : DA) (γ : Env) (r : Nat → (Nat → D → Prop) → Env → Prop) : Prop := da γ fun rs γ1 => match rs.map RS.data with
  | [.int m, .int n, .int c] => -1000000000000 ≤ m ∧ m ≤ 1000000000000 ∧ -1000000000000 ≤ n ∧ n ≤ 1000000000000 ∧ ∃ t, RgC m n c t ∧ r t (fun i d => d = .int (m + i * c)) γ1
  | _ => False
theorem ints3 {B : Bs} {F H : Hp} {σ : L2.St} {γ : Env} (R : Rep K B F H σ γ) {vs : List V} {rs : List RS} {a b c : Int} (o : Paired (RsOk K B F H σ γ) vs rs) (h : rs.map RS.data = [.int a, .int b, .int c]) : vs = [.int a, .int b, .int c] := by
  have q := rs_all R o
  rw [h] at q
  cases q with
  | cons r t =>
    obtain ⟨x, y, rfl, r', r''⟩ := two_rs t
    rw [r.int, r'.int, r''.int]
theorem jo_rangeC {F0 : Hp} {lo c : Int} {n : Nat} {z : Addr → Prop} : JOk K z F0 (Itc lo c n) n (fun i d => d = .int (lo + i * c)) where
  go := fun B F H σ γ i R e hi => hi
  yl := fun B F H σ γ i x H' R e hi ⟨hH, hy⟩ hz => by
    subst hH; subst hy
    exact ⟨F, _, R, Evl.Ex.refl F, .int _, rfl⟩
  st := fun B F H σ γ i R e hi => hi
theorem si_range3 {ta : TA} {da : DA} (h : SA K B ta da) : SI K B (iRng3 ta) (dIR3 da) := fun F H σ γ W r R hq k => by
  refine h F H σ γ _ _ R hq fun vs F1 H1 γ1 rs R1 e1 o1 h1 => ?_
  split at h1
  · rename_i m n c es
    obtain ⟨_, _, _, _, t, h4, h5⟩ := h1
    exact ⟨m, n, c, t, ints3 R1 o1 es, h4, k _ F1 H1 γ1 _ _ R1 e1 jo_rangeC h5⟩
  · exact h1.elim
theorem lst_of {B : Bs} {F H : Hp} {σ : L2.St} {γ : Env} {v : V} {r : RS} (o : RsOk K B F H σ γ v r) (hv : allV [r]) {ds : List D} (h : r.data = .lst ds) : ∃ a vs, v = .ref a ∧ F a = some (.lst vs) ∧ RpAll (B.kz K) F vs ds := by
  cases r with
  | val d =>
    have o' : Rp (B.kz K) F v d := o
    have h' : d = .lst ds := h
    rw [h'] at o'
    cases o' with
    | lst ha ra => exact ⟨_, _, rfl, ha, ra⟩
  | own j c => exact hv.elim
  | new c => exact hv.elim
def dIZ (da : DA) (γ : Env) (r : Nat → (Nat → D → Prop) → Env → Prop) : Prop := da γ fun rs γ1 => allV rs ∧ match rs.map RS.data with
  | [.lst xs, .lst ys] => r (min xs.length ys.length) (fun i d => ∃ x y, xs[i]? = some x ∧ ys[i]? = some y ∧ d = .tup [x, y]) γ1
  | _ => False
theorem si_zip {ta : TA} {da : DA} (h : SA K B ta da) : SI K B (iZip K ta) (dIZ da) := fun F H σ γ W r R hq k => by
  refine h F H σ γ _ _ R hq fun vs F1 H1 γ1 rs R1 e1 o1 ⟨hv, h1⟩ => ?_
  split at h1
  · rename_i xs ys es
    have ra := allV_rp o1 hv
    rw [es] at ra
    cases ra with
    | cons r1 t => cases t with
      | cons r2 t => cases t with
        | nil =>
          cases r1 with
          | @lst a va _ ha ra => cases r2 with
            | @lst b vb _ hb rb =>
              refine ⟨_, _, _, _, rfl, Evl.sq_of (R1.fh _ _ ha), Evl.sq_of (R1.fh _ _ hb), k _ F1 H1 γ1 _ _ R1 e1 ⟨fun B F H σ γ i R e hi => ?_, fun B F H σ γ i x H' R e hi ⟨T, x1, x2, hx, hT, hH, f1, f2⟩ hz => ?_, fun B F H σ γ i R e hi => ?_⟩ h1⟩
              · have l1 : i < va.length := by rw [ra.length]; omega
                have l2 : i < vb.length := by rw [rb.length]; omega
                exact ⟨_, _, _, _, sq_inj_lst (e.trans R.fh) ha, sq_inj_lst (e.trans R.fh) hb, List.getElem?_eq_getElem l1, List.getElem?_eq_getElem l2⟩
              · subst hx; subst hH
                obtain ⟨d1, q1, s1⟩ := P_getL ra.p (f1 va (sq_inj_lst (e.trans R.fh) ha))
                obtain ⟨d2, q2, s2⟩ := P_getL rb.p (f2 vb (sq_inj_lst (e.trans R.fh) hb))
                obtain ⟨R', ex, rp⟩ := R.newT hT (.cons ((s1.mono e).zz hz) (.cons ((s2.mono e).zz hz) .nil))
                exact ⟨_, _, R', ex, rp, d1, d2, q1, q2, rfl⟩
              · refine ⟨_, _, sq_inj_lst (e.trans R.fh) ha, sq_inj_lst (e.trans R.fh) hb, ?_⟩
                rw [ra.length, rb.length]
                omega
  · exact h1.elim
def dIE (da : DA) (γ : Env) (r : Nat → (Nat → D → Prop) → Env → Prop) : Prop := da γ fun rs γ1 => allV rs ∧ match rs.map RS.data with
  | [.lst xs] => r xs.length (fun i d => ∃ x, xs[i]? = some x ∧ d = .tup [.int i, x]) γ1
  | _ => False
theorem si_enum {ta : TA} {da : DA} (h : SA K B ta da) : SI K B (iEnum K ta) (dIE da) := fun F H σ γ W r R hq k => by
  refine h F H σ γ _ _ R hq fun vs F1 H1 γ1 rs R1 e1 o1 ⟨hv, h1⟩ => ?_
  split at h1
  · rename_i xs es
    have ra := allV_rp o1 hv
    rw [es] at ra
    cases ra with
    | cons r1 t => cases t with
      | nil =>
        cases r1 with
        | @lst a va _ ha ra =>
          refine ⟨_, _, rfl, Evl.sq_of (R1.fh _ _ ha), k _ F1 H1 γ1 _ _ R1 e1 ⟨fun B F H σ γ i R e hi => ?_, fun B F H σ γ i x H' R e hi ⟨T, x1, hx, hT, hH, f1⟩ hz => ?_, fun B F H σ γ i R e hi => ?_⟩ h1⟩
          · have l1 : i < va.length := by rw [ra.length]; omega
            exact ⟨_, _, sq_inj_lst (e.trans R.fh) ha, List.getElem?_eq_getElem l1⟩
          · subst hx; subst hH
            obtain ⟨d1, q1, s1⟩ := P_getL ra.p (f1 va (sq_inj_lst (e.trans R.fh) ha))
            obtain ⟨R', ex, rp⟩ := R.newT hT (.cons (.int (i : Nat)) (.cons ((s1.mono e).zz hz) .nil))
            exact ⟨_, _, R', ex, rp, d1, q1, rfl⟩
          · exact ⟨_, sq_inj_lst (e.trans R.fh) ha, by rw [ra.length]; omega⟩
  · exact h1.elim
def dIV (da : DA) (γ : Env) (r : Nat → (Nat → D → Prop) → Env → Prop) : Prop := da γ fun rs γ1 => allV rs ∧ match rs.map RS.data with
  | [.lst xs] => r xs.length (fun i d => xs[xs.length - 1 - i]? = some d) γ1
  | _ => False
theorem si_rev {ta : TA} {da : DA} (h : SA K B ta da) : SI K B (iRev K ta) (dIV da) := fun F H σ γ W r R hq k => by
  refine h F H σ γ _ _ R hq fun vs F1 H1 γ1 rs R1 e1 o1 ⟨hv, h1⟩ => ?_
  split at h1
  · rename_i xs es
    have ra := allV_rp o1 hv
    rw [es] at ra
    cases ra with
    | cons r1 t => cases t with
      | nil =>
        cases r1 with
        | @lst a va _ ha ra =>
          have le := ra.length
          refine ⟨_, _, rfl, Evl.sq_of (R1.fh _ _ ha), k _ F1 H1 γ1 xs.length _ R1 e1 ⟨fun B F H σ γ i R e hi => ?_, fun B F H σ γ i x H' R e hi ⟨hH, f1⟩ hz => ?_, fun B F H σ γ i R e hi => ?_⟩ h1⟩
          · have l1 : va.length - 1 - i < va.length := by omega
            exact ⟨by omega, _, _, sq_inj_lst (e.trans R.fh) ha, List.getElem?_eq_getElem l1⟩
          · subst hH
            obtain ⟨d1, q1, s1⟩ := P_getL ra.p (f1 va (sq_inj_lst (e.trans R.fh) ha))
            rw [le] at q1
            exact ⟨F, d1, R, Evl.Ex.refl F, (s1.mono e).zz hz, q1⟩
          · show va.length ≤ i
            omega
  · exact h1.elim
end
section
variable {X : Cx} {B : Bs} {tg : Expr} {a b c e : Expr} {te : TE} {de : DE} {ta : TA} {da : DA} {p pos : Pos}
theorem i_list (h : XE X B e te de) : XI X B tg e (iList X.K te) (dIL de) := ⟨pi_list h.pe, si_list h.se⟩
theorem i_tup (h : XE X B e te de) : XI X B tg e (iTup X.K te) (dIT de) := ⟨pi_tup h.pe, si_tup h.se⟩
theorem i_r1 (hm : X.mg "range" = none) (h : XA X B [a] ta da) (hg : Gl X "range" := by rfl) (hs : starEach [a] X.env = [(false, eval a X.env)] := by rfl) : XI X B tg (.Call (.Name "range" p) [a] [] pos) (iRng1 ta) (dIR1 da) := ⟨pi_range1 hg hm h.pa hs, si_range1 h.sa⟩
theorem i_r2 (hm : X.mg "range" = none) (h : XA X B [a, b] ta da) (hg : Gl X "range" := by rfl) (hs : starEach [a, b] X.env = [(false, eval a X.env), (false, eval b X.env)] := by rfl) (hs2 : starEach [b] X.env = [(false, eval b X.env)] := by rfl) : XI X B tg (.Call (.Name "range" p) [a, b] [] pos) (iRng2 ta) (dIR2 da) := ⟨pi_range2 hg hm h.pa hs hs2, si_range2 h.sa⟩
theorem i_r3 (hm : X.mg "range" = none) (h : XA X B [a, b, c] ta da) (hg : Gl X "range" := by rfl) (hs : starEach [a, b, c] X.env = (false, eval a X.env) :: starEach [b, c] X.env := by rfl) (hpl : (backTo pos (starEach [b, c] X.env)).any (·.1) = false := by rfl) : XI X B tg (.Call (.Name "range" p) [a, b, c] [] pos) (iRng3 ta) (dIR3 da) := ⟨pi_range3 hg hm h.pa hs hpl, si_range3 h.sa⟩
theorem i_zip {elts : List Expr} {kk : Nat} {tpos : Pos} (hm : X.mg "zip" = none) (h : XA X B [a, b] ta da) (hg : Gl X "zip" := by rfl) (hs : starEach [a, b] X.env = (false, eval a X.env) :: starEach [b] X.env := by rfl) (hpl : (backTo pos (starEach [b] X.env)).any (·.1) = false := by rfl) : XI X B (.Tuple elts kk tpos) (.Call (.Name "zip" p) [a, b] [] pos) (iZip X.K ta) (dIZ da) := ⟨pi_zip hg hm h.pa hs hpl, si_zip h.sa⟩
theorem i_enum {elts : List Expr} {kk : Nat} {tpos : Pos} (hm : X.mg "enumerate" = none) (h : XA X B [a] ta da) (hg : Gl X "enumerate" := by rfl) (hs : starEach [a] X.env = [(false, eval a X.env)] := by rfl) : XI X B (.Tuple elts kk tpos) (.Call (.Name "enumerate" p) [a] [] pos) (iEnum X.K ta) (dIE da) := ⟨pi_enum hg hm h.pa hs, si_enum h.sa⟩
theorem i_rev (hm : X.mg "reversed" = none) (h : XA X B [a] ta da) (hg : Gl X "reversed" := by rfl) (hs : starEach [a] X.env = [(false, eval a X.env)] := by rfl) : XI X B tg (.Call (.Name "reversed" p) [a] [] pos) (iRev X.K ta) (dIV da) := ⟨pi_reversed hg hm h.pa hs, si_rev h.sa⟩
end
end DL

set_option Elab.async false
set_option linter.all false
set_option maxRecDepth 100000
set_option maxHeartbeats 2000000
namespace DL
open PySem PySem.Spec PyProof.Rows L2
open Evl (Ex ex_l ex_t)

/-! ### another base -/
def ownsOf (σ : L2.St) (γ : Env) (H : Hp) : List Addr := (List.range σ.length).flatMap fun (i : Nat) => match (σ[i]? : Option (Option V)), (γ[i]? : Option Sx) with
  | some (some (V.ref a)), some (Sx.own _ _) => a :: (match H a with | some (.ins _ dx _) => [dx] | _ => [])
  | _, _ => []
theorem mem_owns {σ : L2.St} {γ : Env} {H : Hp} {b : Addr} : b ∈ ownsOf σ γ H ↔ ∃ (i : Nat) (a : Addr) (p : Option Nat) (c : OC), σ[i]? = some (some (.ref a)) ∧ γ[i]? = some (.own p c) ∧ (b = a ∨ ∃ C fs, H a = some (.ins C b fs)) := by
  unfold ownsOf
  rw [List.mem_flatMap]
  constructor
  · rintro ⟨i, hi, h⟩
    split at h
    · rename_i a p c hs hg
      rcases List.mem_cons.mp h with e | h
      · exact ⟨i, a, p, c, hs, hg, .inl e⟩
      · split at h
        · rename_i C dx fs hh
          have e : b = dx := List.mem_singleton.mp h
          subst e
          exact ⟨i, a, p, c, hs, hg, .inr ⟨C, fs, hh⟩⟩
        · cases h
    · cases h
  · rintro ⟨i, a, p, c, hs, hg, h⟩
    refine ⟨i, List.mem_range.mpr (List.getElem?_eq_some_iff.mp hs).1, ?_⟩
    rw [hs, hg]
    rcases h with rfl | ⟨C, fs, hh⟩
    · exact List.mem_cons_self
    · refine List.mem_cons_of_mem _ ?_
      rw [hh]
      exact List.mem_singleton.mpr rfl
def Bs.re (B : Bs) (F H : Hp) (σ : L2.St) (γ : Env) : Bs := { B with F := F, H := H, m := ownsOf σ γ H }
section
variable {K : PySem.W.Frag} {B : Bs} {F F' H H' : Hp} {σ σ' : L2.St} {γ γ' : Env}
theorem Rep.re (R : Rep K B F H σ γ) : Rep K (B.re F H σ γ) F H σ γ := by
  refine ⟨R.fh, R.len, fun i s t hs hg => ?_, R.nd, fun b o e => ⟨fun _ => e, o, e⟩, Evl.Ex.refl F, fun b o _ _ => rfl, R.b4, fun i a p c hg hs => .inl ((mem_owns (σ := σ) (γ := γ) (H := H)).mpr ⟨i, a, p, c, hs, hg, .inl rfl⟩), R.bN, fun a o e => ⟨o, e, .refl o⟩⟩
  have q := R.sl i s t hs hg
  cases t with
  | no => trivial
  | val d => exact q
  | own p c =>
    obtain ⟨a, e, f, ok⟩ := q
    subst e
    refine ⟨a, rfl, f, ?_⟩
    cases c with
    | lst ds => exact ok
    | dct kd => exact ok
    | ins C fs =>
      obtain ⟨dx, fv, h1, h2, h3, h4, h5, h6⟩ := ok
      exact ⟨dx, fv, h1, h2, h3, h4, .inl (mem_owns.mpr ⟨i, a, p, _, hs, hg, .inr ⟨_, fv, h1⟩⟩), h6⟩
/-- what is owned may change, or is new -/
theorem Rep.owns (R : Rep K B F H σ γ) {b : Addr} (h : b ∈ ownsOf σ γ H) : b ∈ B.m ∨ B.H b = none := by
  obtain ⟨i, a, p, c, hs, hg, h⟩ := mem_owns.mp h
  rcases h with rfl | ⟨C, fs, hh⟩
  · exact R.b5 i b p c hg hs
  · obtain ⟨_, ok⟩ := R.ownObj hg hs
    cases c with
    | lst ds => obtain ⟨vs, h1, _⟩ := ok; rw [hh] at h1; cases h1
    | dct ds => obtain ⟨vs, h1, _⟩ := ok; rw [hh] at h1; cases h1
    | ins C fs =>
      obtain ⟨dx, fv, h1, h2, h3, h4, h5, h6⟩ := ok
      rw [hh] at h1
      injection h1 with h1
      injection h1 with _ e _
      rw [e]; exact h5
/-- from a base taken at (F, H): m1 what may have changed since, all of it changeable here or new -/
theorem Rep.comp (R : Rep K B F H σ γ) {B1 : Bs} (hF : B1.F = F) (hH : B1.H = H) (hN : B1.N = B.N) (hz : B1.z = B.z) (hm : ∀ b ∈ B1.m, b ∈ B.m ∨ B.H b = none) (R' : Rep K B1 F' H' σ' γ')
    (h4 : ∀ (i : Nat) a p c, γ'[i]? = some (.own p c) → σ'[i]? = some (some (.ref a)) → (∀ k, p = some k → B.pa k = some a) ∧ (p = none → B.N a = none)) : Rep K B F' H' σ' γ' := by
  have out : ∀ b o, B.H b = some o → b ∉ B.m → b ∉ B1.m := fun b o e n z => by
    rcases hm b z with q | q
    · exact n q
    · rw [e] at q; cases q
  have new : ∀ b, B1.H b = none → B.H b = none := fun b e => by
    cases q : B.H b with
    | none => rfl
    | some o => obtain ⟨_, o', e'⟩ := R.b1 b o q; rw [hH, e'] at e; cases e
  have up : ∀ b, b ∈ B1.m ∨ B1.H b = none → b ∈ B.m ∨ B.H b = none := fun b h => h.elim (hm b) fun e => .inr (new b e)
  refine ⟨R'.fh, R'.len, fun i s t hs hg => ?_, R'.nd, fun b o e => ?_, ?_, fun b o e n => ?_, h4, fun i a p c hg hs => up a (R'.b5 i a p c hg hs), fun b o e => R'.bN b o (by rw [hN]; exact e), fun a o e => let ⟨o1, h1, k1⟩ := R.bd a o e; let ⟨o2, h2, k2⟩ := R'.bd a o1 (by rw [hH]; exact h1); ⟨o2, h2, k1.trans k2⟩⟩
  · have q := R'.sl i s t hs hg
    cases t with
    | no => trivial
    | val d => obtain ⟨v, e, r⟩ := q; exact ⟨v, e, Rp.zz hz.symm r⟩
    | own p c => obtain ⟨a, e, f, ok⟩ := q; exact ⟨a, e, f, ok.base hN.symm hz.symm fun dx _ h => up dx h⟩
  · obtain ⟨x1, o1, x2⟩ := R.b1 b o e
    refine ⟨fun n => ?_, ?_⟩
    · exact (R'.b1 b o (by rw [hH]; exact x1 n)).1 (out b o e n)
    · exact (R'.b1 b o1 (by rw [hH]; exact x2)).2
  · exact R.b2.trans (by have := R'.b2; rw [hF] at this; exact this)
  · have x1 := (R.b1 b o e).1 n
    have x2 := R'.b3 b o (by rw [hH]; exact x1) (out b o e n)
    rw [x2, hF]
    exact R.b3 b o e n
theorem Rep.back (R : Rep K B F H σ γ) (R' : Rep K (B.re F H σ γ) F' H' σ' γ') : Rep K B F' H' σ' γ' := R.comp (B1 := B.re F H σ γ) rfl rfl rfl rfl (fun b h => R.owns h) R' R'.b4
/-- a list that nobody here owns is written -/
theorem Rep.poke (R : Rep K B F H σ γ) {a : Addr} {o o' : HO} (ha : H a = some o) (ho : ∀ x, o ≠ .own x) (fa : F a = none) (bm : a ∈ B.m ∨ B.H a = none) (na : ∀ (i : Nat) p c, γ[i]? = some (.own p c) → σ[i]? ≠ some (some (.ref a))) (hi : Kin o o') : Rep K B F (upd H a o') σ γ := by
  refine ⟨fun b x e => ?_, R.len, fun i s t hs hg => ?_, R.nd, fun b x e => ?_, R.b2, R.b3, R.b4, R.b5, fun b x e => ?_, fun b x e => ?_⟩
  · have n : b ≠ a := fun z => by subst z; rw [fa] at e; cases e
    rw [upd_ne n]; exact R.fh b x e
  · have q := R.sl i s t hs hg
    cases t with
    | no => trivial
    | val d => exact q
    | own q' c =>
      obtain ⟨b, e', f, ok'⟩ := q
      subst e'
      have nb : b ≠ a := fun z => by subst z; exact na i q' c hg hs
      exact ⟨b, rfl, f, ok'.heap (upd_ne nb) fun dx hd => upd_ne fun z => by subst z; rw [ha] at hd; exact ho b (Option.some.inj hd)⟩
  · obtain ⟨x1, o1, x2⟩ := R.b1 b x e
    by_cases hb : b = a
    · subst hb
      rw [upd_same]
      refine ⟨fun n => ?_, _, rfl⟩
      rcases bm with z | z
      · exact absurd z n
      · rw [e] at z; cases z
    · rw [upd_ne hb]; exact ⟨x1, o1, x2⟩
  · obtain ⟨o1, x2⟩ := R.bN b x e
    by_cases hb : b = a
    · subst hb; exact ⟨_, upd_same⟩
    · rw [upd_ne hb]; exact ⟨o1, x2⟩
  · obtain ⟨o1, x2, kn⟩ := R.bd b x e
    by_cases hb : b = a
    · subst hb
      rw [ha] at x2
      cases x2
      exact ⟨_, upd_same, kn.trans hi⟩
    · rw [upd_ne hb]; exact ⟨o1, x2, kn⟩
end

/-! ### comprehensions -/
def wipeG (γ : Env) : List Nat → Env
  | [] => γ
  | v :: vs => put (wipeG γ vs) v .no
def keepV : Sx → Sx
  | .val d => .val d
  | _ => .no
def restore (γ1 γ : Env) : List Nat → Env
  | [] => γ
  | v :: vs => put (restore γ1 γ vs) v (keepV (look γ1 v))
theorem wipe_get (σ : L2.St) (j : Nat) : ∀ vs : List Nat, (wipe σ vs)[j]? = if j ∈ vs ∧ j < σ.length then some none else σ[j]?
  | [] => by simp [wipe]
  | v :: vs => by
    unfold wipe
    by_cases e : v = j
    · subst e
      by_cases hl : v < σ.length
      · rw [List.getElem?_set_self (by rw [wipe_length]; exact hl), if_pos ⟨List.mem_cons_self, hl⟩]
      · rw [List.getElem?_eq_none (by rw [List.length_set, wipe_length]; omega), if_neg fun z => hl z.2, List.getElem?_eq_none (by omega)]
    · rw [List.getElem?_set_ne e, wipe_get σ j vs]
      have : (j ∈ v :: vs) ↔ j ∈ vs := by
        constructor
        · intro h
          rcases List.mem_cons.mp h with z | z
          · exact absurd z.symm e
          · exact z
        · exact List.mem_cons_of_mem _
      simp only [this]
theorem wipe_off {σ σ' : L2.St} {ix vs : List Nat} (h : Off ix (wipe σ vs) σ') (hs : ∀ i ∈ ix, i ∈ vs) : wipe σ' vs = wipe σ vs := by
  refine List.ext_getElem? fun j => ?_
  have hl : σ'.length = σ.length := h.1.trans (wipe_length σ vs)
  rw [wipe_get, wipe_get, hl]
  by_cases hj : j ∈ vs
  · by_cases h2 : j < σ.length
    · rw [if_pos ⟨hj, h2⟩, if_pos ⟨hj, h2⟩]
    · rw [if_neg fun z => h2 z.2, if_neg fun z => h2 z.2, List.getElem?_eq_none (by omega), List.getElem?_eq_none (by omega)]
  · rw [if_neg fun z => hj z.1, if_neg fun z => hj z.1, h.2 j fun z => hj (hs j z), wipe_get, if_neg fun z => hj z.1]
section
variable {K : PySem.W.Frag} {B : Bs} {F F1 H : Hp} {σ : L2.St} {γ γ1 : Env}
theorem Rep.wipe (R : Rep K B F H σ γ) : ∀ vs : List Nat, Rep K B F H (L2.wipe σ vs) (wipeG γ vs)
  | [] => R
  | v :: vs => by
    have R1 := R.wipe vs
    have R2 : Rep K B F H (L2.wipe σ vs) (put (wipeG γ vs) v .no) := R1.told (fun _ _ => trivial) (fun _ _ z => by cases z)
    have key : ∀ {j : Nat} {p : Option Nat} {c : OC} {s : Option V}, (put (wipeG γ vs) v .no)[j]? = some (.own p c) → ((L2.wipe σ vs).set v none)[j]? = some s → (L2.wipe σ vs)[j]? = some s := fun h1 h2 => by
      rcases get_put h1 with ⟨_, e⟩ | ⟨n, _⟩
      · cases e
      · rw [List.getElem?_set_ne (fun z => n z.symm)] at h2; exact h2
    unfold L2.wipe wipeG
    refine ⟨R2.fh, by rw [List.length_set]; exact R2.len, fun j s t hs hg => ?_, fun i j a p c q c' h1 h2 h3 h4 => R2.nd i j a p c q c' h1 h2 (key h1 h3) (key h2 h4), R2.b1, R2.b2, R2.b3, fun j a p c h1 h2 => R2.b4 j a p c h1 (key h1 h2), fun j a p c h1 h2 => R2.b5 j a p c h1 (key h1 h2), R2.bN, R2.bd⟩
    by_cases e : v = j
    · subst e
      rcases get_put hg with ⟨_, e⟩ | ⟨n, _⟩
      · rw [e]; trivial
      · exact absurd rfl n
    · rw [List.getElem?_set_ne e] at hs
      exact R2.sl j s t hs hg
theorem restore_get {γ1 γ : Env} {j : Nat} {s : Sx} : ∀ {vs : List Nat}, (restore γ1 γ vs)[j]? = some s → (j ∈ vs ∧ s = keepV (look γ1 j)) ∨ (j ∉ vs ∧ γ[j]? = some s)
  | [], h => .inr ⟨(fun z => by cases z), h⟩
  | v :: vs, h => by
    unfold restore at h
    rcases get_put h with ⟨rfl, e⟩ | ⟨n, e⟩
    · exact .inl ⟨List.mem_cons_self, e⟩
    · rcases restore_get e with ⟨a, b⟩ | ⟨a, b⟩
      · exact .inl ⟨List.mem_cons_of_mem _ a, b⟩
      · exact .inr ⟨fun z => (List.mem_cons.mp z).elim n a, b⟩
theorem restore_len {γ1 γ : Env} : ∀ vs : List Nat, (restore γ1 γ vs).length = γ.length
  | [] => rfl
  | v :: vs => by unfold restore; rw [put_len, restore_len vs]
theorem Rep.rest {H0 : Hp} {B0 : Bs} (R0 : Rep K B0 F1 H0 σ γ1) {vs : List Nat} (R : Rep K B F H (L2.wipe σ vs) γ) (e : Ex F1 F) (hz : B.z = B0.z) : Rep K B F H σ (restore γ1 γ vs) := by
  have key : ∀ {j : Nat} {p : Option Nat} {c : OC} {s : Option V}, (restore γ1 γ vs)[j]? = some (.own p c) → σ[j]? = some s → γ[j]? = some (.own p c) ∧ (L2.wipe σ vs)[j]? = some s := fun {j p c s} h1 h2 => by
    rcases restore_get h1 with ⟨_, z⟩ | ⟨n, z⟩
    · unfold keepV at z
      split at z <;> cases z
    · exact ⟨z, by rw [wipe_get, if_neg fun q => n q.1]; exact h2⟩
  refine ⟨R.fh, by rw [restore_len, ← R.len, wipe_length], fun j s t hs hg => ?_, fun i j a p c q c' h1 h2 h3 h4 => R.nd i j a p c q c' (key h1 h3).1 (key h2 h4).1 (key h1 h3).2 (key h2 h4).2, R.b1, R.b2, R.b3, fun j a p c h1 h2 => R.b4 j a p c (key h1 h2).1 (key h1 h2).2, fun j a p c h1 h2 => R.b5 j a p c (key h1 h2).1 (key h1 h2).2, R.bN, R.bd⟩
  rcases restore_get hg with ⟨_, z⟩ | ⟨n, z⟩
  · unfold keepV at z
    split at z
    · rename_i d hl
      subst z
      obtain ⟨v, h1, r⟩ := R0.val hl
      rw [hs] at h1
      cases h1
      exact ⟨v, rfl, (r.mono e).zz hz⟩
    · subst z; trivial
  · exact R.sl j s t (by rw [wipe_get, if_neg fun q => n q.1]; exact hs) z
end
/-- [elt for target in iter if ..]: I by the turn, what is made so far and the names -/
def dLc (di : DI) (dg : DG) (dt : DT) (de : DE) (vs : List Nat) (γ : Env) (q : RS → Env → Prop) : Prop := di γ fun n y γ1 => n ≤ 1000000 ∧ ∃ I : Nat → List D → Env → Prop, I 0 [] (wipeG γ1 vs) ∧
  (∀ i acc γ2, i < n → I i acc γ2 → ∀ x, y i x → dg x γ2 fun γ3 => dt γ3 fun b γ4 => (b = true → de γ4 fun s γ5 => s.kept ∧ I (i + 1) (acc ++ [s.data]) (wipeG γ5 vs)) ∧ (b = false → I (i + 1) acc (wipeG γ4 vs))) ∧
  ∀ acc γ2, I n acc γ2 → q (.new (.lst acc)) (restore γ1 γ2 vs)
theorem se_lc {K : PySem.W.Frag} {B : Bs} {wi : TI} {di : DI} {g : TG} {dg : DG} {tt : TT} {dt : DT} {te : TE} {de : DE} {vs ix : List Nat} (hi : SI K B wi di) (hg : ∀ B, SG K B g dg ix) (ht : ∀ B, ST K B tt dt) (he : ∀ B, SE K B te de) (hs : ∀ i ∈ ix, i ∈ vs) : SE K B (tLc wi g tt te vs) (dLc di dg dt de vs) := fun F H σ γ Q q R hq k => by
  refine hi F H σ γ _ _ R hq fun J F1 H1 γ1 n y R1 e1 jo ⟨hn, I, i0, it, ie⟩ => ?_
  intro L hL
  obtain ⟨f1, f2, f3, f4⟩ := R1.fresh hL
  -- the state between two turns
  refine ⟨fun i m H' => m = n - i ∧ i ≤ n ∧ ∃ F' γ' acc va, Rep K B F' H' (wipe σ vs) γ' ∧ Ex F1 F' ∧ H' L = some (.lst va) ∧ F' L = none ∧ RpAll (B.kz K) F' va acc ∧ acc.length ≤ i ∧ (∀ (j : Nat) p c, γ'[j]? = some (.own p c) → (wipe σ vs)[j]? ≠ some (some (.ref L))) ∧ I i acc γ',
    ⟨n, by omega, by omega, F1, _, [], [], (R1.alloc _ hL).wipe vs, Evl.Ex.refl F1, upd_same, f1, .nil, Nat.le_refl _, fun j p c hg hs => ?_, i0⟩, fun i m H' ⟨hm, hin, F2, γ2, acc, va, R2, e2, hL2, fL2, ra, la, na, i2⟩ => ?_⟩
  · obtain ⟨fa, ok⟩ := ((R1.alloc (.lst []) hL).wipe vs).ownObj hg hs
    have R1w := R1.wipe vs
    obtain ⟨_, ok'⟩ := R1w.ownObj hg hs
    obtain ⟨o, ho, _⟩ := ok'.obj
    rw [hL] at ho; cases ho
  · by_cases hlt : i < n
    · refine .inr ⟨jo.go B F2 H' _ γ2 i R2 e2 hlt, fun H3 => ∃ F' γ' acc va, Rep K B F' H3 (wipe σ vs) γ' ∧ Ex F1 F' ∧ H3 L = some (.lst va) ∧ F' L = none ∧ RpAll (B.kz K) F' va acc ∧ acc.length ≤ i + 1 ∧ (∀ (j : Nat) p c, γ'[j]? = some (.own p c) → (wipe σ vs)[j]? ≠ some (some (.ref L))) ∧ I (i + 1) acc γ',
        fun H3 h => ⟨n - (i + 1), by omega, rfl, by omega, h⟩, fun x H3 hy => ?_⟩
      -- the iterator's turn keeps L: it is taken over a base at this state
      have R2r := R2.re
      have nL : L ∉ ownsOf (wipe σ vs) γ2 H' := fun z => by
        obtain ⟨j, a, p, c, h1, h2, h3⟩ := mem_owns.mp z
        rcases h3 with rfl | ⟨C, fs, h3⟩
        · exact na j p c h2 h1
        · obtain ⟨_, ok⟩ := R2.ownObj h2 h1
          cases c with
          | lst ds => obtain ⟨_, q1, _⟩ := ok; rw [h3] at q1; cases q1
          | dct ds => obtain ⟨_, q1, _⟩ := ok; rw [h3] at q1; cases q1
          | ins C' fs' =>
            obtain ⟨dx, fv, q1, q2, _⟩ := ok
            rw [h3] at q1
            injection q1 with q1
            injection q1 with _ q1 _
            rw [← q1, hL2] at q2; cases q2
      have keepL : ∀ {F' H' σ' γ'}, Rep K (B.re F2 H' (wipe σ vs) γ2) F' H' σ' γ' → True := fun _ => trivial
      obtain ⟨F3, dd, R3, e3, rx, yx⟩ := jo.yl _ F2 H' _ γ2 i x H3 R2r e2 hlt hy rfl
      refine hg _ F3 H3 _ γ2 x dd _ _ R3 rx (it i acc γ2 hlt i2 dd yx) fun σ4 γ4 R4 o4 h4 => ?_
      have w4 : wipe σ4 vs = wipe σ vs := wipe_off o4 hs
      refine ⟨w4, ht _ F3 H3 σ4 γ4 _ _ R4 h4 fun b F5 H5 γ5 R5 e5 h5 => ?_⟩
      have atL : ∀ {F' H'' σ' γ'}, Rep K (B.re F2 H' (wipe σ vs) γ2) F' H'' σ' γ' → H'' L = some (.lst va) ∧ F' L = none ∧ ∀ (j : Nat) p c, γ'[j]? = some (.own p c) → σ'[j]? ≠ some (some (.ref L)) := fun R' => by
        refine ⟨(R'.b1 L _ hL2).1 nL, (R'.b3 L _ hL2 nL).trans fL2, fun j p c h1 h2 => ?_⟩
        rcases R'.b5 j L p c h1 h2 with z | z
        · exact nL z
        · have z' : H' L = none := z
          rw [hL2] at z'; cases z'
      have fin : ∀ {F' H'' γ' acc' va'}, Rep K B F' H'' σ4 γ' → Ex F1 F' → H'' L = some (.lst va') → F' L = none → RpAll (B.kz K) F' va' acc' → acc'.length ≤ i + 1 → (∀ (j : Nat) p c, γ'[j]? = some (.own p c) → σ4[j]? ≠ some (some (.ref L))) → I (i + 1) acc' (wipeG γ' vs) →
          ∃ F' γ' acc va, Rep K B F' H'' (wipe σ vs) γ' ∧ Ex F1 F' ∧ H'' L = some (.lst va) ∧ F' L = none ∧ RpAll (B.kz K) F' va acc ∧ acc.length ≤ i + 1 ∧ (∀ (j : Nat) p c, γ'[j]? = some (.own p c) → (wipe σ vs)[j]? ≠ some (some (.ref L))) ∧ I (i + 1) acc γ' := fun {F' H'' γ' acc' va'} a1 a2 a3 a4 a5 a6 a7 a8 => by
        refine ⟨F', wipeG γ' vs, acc', va', by rw [← w4]; exact a1.wipe vs, a2, a3, a4, a5, a6, fun j p c h1 h2 => ?_, a8⟩
        rw [← w4, wipe_get] at h2
        have h1' : γ'[j]? = some (.own p c) := by
          have go : ∀ vs : List Nat, (wipeG γ' vs)[j]? = some (.own p c) → γ'[j]? = some (.own p c) := fun vs => by
            induction vs with
            | nil => exact fun h => h
            | cons v vs ih =>
              intro h
              unfold wipeG at h
              rcases get_put h with ⟨_, e⟩ | ⟨_, e⟩
              · cases e
              · exact ih e
          exact go vs h1
        split at h2
        · cases h2
        · exact a7 j p c h1' h2
      cases b with
      | true =>
        show te σ4 H5 _
        refine he _ F5 H5 σ4 γ5 _ _ R5 (h5.1 rfl) fun v F6 H6 γ6 s R6 e6 o6 ⟨hk, h7⟩ => ?_
        obtain ⟨F7, R7, e7, o7⟩ := o6.fz R6
        have rv := o7.kp hk
        obtain ⟨g1, g2, g3⟩ := atL R7
        have ex : Ex F2 F7 := ((e3.trans e5).trans e6).trans e7
        refine ⟨va, g1, Nat.lt_of_lt_of_le (show va.length < 1000001 by rw [ra.length]; omega) (by decide), ?_⟩
        have R8 : Rep K B F7 H6 σ4 γ6 := R2.back R7
        exact fin (R8.poke (o' := .lst (va ++ [v])) g1 (fun x z => by cases z) g2 (.inr f2) g3 ⟨_, rfl⟩) (e2.trans ex) upd_same g2 (RpAll.of (P_app (ra.mono ex).p (.cons rv .nil))) (by rw [List.length_append, List.length_singleton]; omega) g3 h7
      | false =>
        obtain ⟨g1, g2, g3⟩ := atL R5
        have ex : Ex F2 F5 := e3.trans e5
        exact fin (R2.back R5) (e2.trans ex) g1 g2 (ra.mono ex) (by omega) g3 (h5.2 rfl)
    · obtain rfl : i = n := by omega
      refine .inl ⟨jo.st B F2 H' _ γ2 i R2 e2 (Nat.le_refl _), ?_⟩
      have R3 : Rep K B F2 H' σ (restore γ1 γ2 vs) := Rep.rest R1 R2 e2 rfl
      refine k _ F2 H' _ (.new (.lst acc)) R3 (e1.trans e2) ⟨L, rfl, fL2, ⟨va, hL2, ra⟩, f3, .inr f2, fun j p c h1 h2 => ?_⟩ (ie acc γ2 i2)
      rcases restore_get h1 with ⟨_, z⟩ | ⟨nj, z⟩
      · unfold keepV at z
        split at z <;> cases z
      · exact na j p c z (by rw [wipe_get, if_neg fun q => nj q.1]; exact h2)
structure XTs (X : Cx) (B : Bs) (ifs : List Expr) (tt : TT) (dt : DT) : Prop where
  pt : PTs X ifs tt
  st : ST X.K B tt dt
def dYes (γ : Env) (q : Bool → Env → Prop) : Prop := q true γ
theorem ts_nil {X : Cx} {B : Bs} : XTs X B [] tYes dYes := ⟨pts_nil, fun F H σ γ Q q R hq k => k true F H γ R (Evl.Ex.refl F) hq⟩
theorem ts_one {X : Cx} {B : Bs} {c : Expr} {tt : TT} {dt : DT} (h : XT X B c tt dt) : XTs X B [c] tt dt := ⟨pts_one h.pt, h.st⟩
section
variable {X : Cx} {B : Bs} {elt tg iter : Expr} {ifs : List Expr} {scope : Scope} {pos : Pos} {wi : TI} {di : DI} {g : TG} {dg : DG} {tt : TT} {dt : DT} {te : TE} {de : DE} {ix : List Nat}
theorem x_lc (own : List (Str × Nat)) (hc : X.calm = true) (hN : X.N.Nodup) (hi : XI X B tg iter wi di) (ok : BlkOk X.N X.env.scope scope own)
    (hg : ∀ (B : Bs) (s : Shared) (H : Hp) (C : Addr) (cl : List (Str × Addr)) (fp : List Addr), XG (X.blk s H scope (compEnvC scope cl C X.env) fp) B tg g dg ix) (ht : ∀ (B : Bs) (s : Shared) (H : Hp) (C : Addr) (cl : List (Str × Addr)) (fp : List Addr), XTs (X.blk s H scope (compEnvC scope cl C X.env) fp) B ifs tt dt)
    (he : ∀ (B : Bs) (s : Shared) (H : Hp) (C : Addr) (cl : List (Str × Addr)) (fp : List Addr), XE (X.blk s H scope (compEnvC scope cl C X.env) fp) B elt te de) (hix : ∀ i ∈ ix, i ∈ own.map (·.2)) (hs : ∀ x, foldedSetIterable iter X.env x = pure x := by intro _; rfl) :
    XE X B (.ListComp elt [⟨tg, iter, ifs, 0⟩] scope pos) (tLc wi g tt te (own.map (·.2))) (dLc di dg dt de (own.map (·.2))) :=
  ⟨pe_lc hc hN hi.pi ok (fun s H C cl fp => (hg B s H C cl fp).pg) (fun s H C cl fp => (ht B s H C cl fp).pt) (fun s H C cl fp => (he B s H C cl fp).pe) hs,
    se_lc hi.si (fun B => (hg B X.s_0 X.H_0 0 [] []).sg) (fun B => (ht B X.s_0 X.H_0 0 [] []).st) (fun B => (he B X.s_0 X.H_0 0 [] []).se) hix⟩
end
end DL

set_option Elab.async false
set_option linter.all false
set_option maxRecDepth 100000
set_option maxHeartbeats 2000000
namespace DL
open PySem PySem.Spec PyProof.Rows L2
open Evl (Ex ex_l ex_t)
section
variable {X : Cx} {B : Bs} {elt tg iter : Expr} {ifs : List Expr} {scope : Scope} {pos spos : Pos} {wi : TI} {di : DI} {g : TG} {dg : DG} {tt : TT} {dt : DT} {te : TE} {de : DE} {ix : List Nat}
/-- name = [..] on one line -/
theorem s_setLc (i : Nat) (own : List (Str × Nat)) {y : Str} {py : Pos} (hc : X.calm = true) (hN : X.N.Nodup) (hi : XI X B tg iter wi di) (ok : BlkOk X.N X.env.scope scope own)
    (hg : ∀ (B : Bs) (s : Shared) (H : Hp) (C : Addr) (cl : List (Str × Addr)) (fp : List Addr), XG (X.blk s H scope (compEnvC scope cl C X.env) fp) B tg g dg ix) (ht : ∀ (B : Bs) (s : Shared) (H : Hp) (C : Addr) (cl : List (Str × Addr)) (fp : List Addr), XTs (X.blk s H scope (compEnvC scope cl C X.env) fp) B ifs tt dt)
    (he : ∀ (B : Bs) (s : Shared) (H : Hp) (C : Addr) (cl : List (Str × Addr)) (fp : List Addr), XE (X.blk s H scope (compEnvC scope cl C X.env) fp) B elt te de) (hix : ∀ i ∈ ix, i ∈ own.map (·.2)) (hsw : swapsWith (.ListComp elt [⟨tg, iter, ifs, 0⟩] scope pos) (some (.Name y py)) spos.line X.env = pure true)
    (hy : X.N[i]? = some y := by rfl) (hyl : X.env.scope.names.lookup y = some .local := by rfl) (hs : ∀ x, foldedSetIterable iter X.env x = pure x := by intro _; rfl) :
    XS X B (.Assign [.Name y py] (.ListComp elt [⟨tg, iter, ifs, 0⟩] scope pos) spos) (tAsg (tLc wi g tt te (own.map (·.2))) (gName i)) (dAsg i (dLc di dg dt de (own.map (·.2)))) :=
  ⟨ps_setLc hc hN hy hyl hsw hi.pi ok (fun s H C cl fp => (hg B s H C cl fp).pg) (fun s H C cl fp => (ht B s H C cl fp).pt) (fun s H C cl fp => (he B s H C cl fp).pe) hs,
    sa_name (se_lc hi.si (fun B => (hg B X.s_0 X.H_0 0 [] []).sg) (fun B => (ht B X.s_0 X.H_0 0 [] []).st) (fun B => (he B X.s_0 X.H_0 0 [] []).se) hix)⟩
end

/-! ### promises in data -/
abbrev FS := List Sx → (RS → List Sx → Prop) → Prop
abbrev ZN (H : Hp) := {z : Addr → Prop // ∀ a, z a → ∃ o, H a = some o}
theorem Rep.znp {K : PySem.W.Frag} {B : Bs} {F H : Hp} {σ : L2.St} {γ : Env} (R : Rep K B F H σ γ) : ∀ a, B.z a → ∃ o, H a = some o := fun a h => let ⟨o, e⟩ := B.zn a h; R.bN a o e
abbrev Rep.zn {K : PySem.W.Frag} {B : Bs} {F H : Hp} {σ : L2.St} {γ : Env} (R : Rep K B F H σ γ) : ZN H := ⟨B.z, R.znp⟩
def entry (F H : Hp) (m : List Addr) (z : ZN H) (vs : List V) : Bs := ⟨H, fun k => match (vs[k]? : Option V) with | some (.ref a) => some a | _ => none, F, H, m, z.1, z.2⟩
def spOf (K : PySem.W.Frag) (n : Nat) (fs : FS) : Sp := fun vs H Q _ => vs.length = n ∧ ∃ F m, ∃ z : ZN H, ∃ as p, Rep K (entry F H m z vs) F H (vs.map some) as ∧ fs as p ∧
  ∀ r as' v F' H', p r as' → Rep K (entry F H m z vs) F' H' (vs.map some) as' → RsOk K (entry F H m z vs) F' H' (vs.map some) as' v r → r.kept → Q v H'
/-- what the parameters' things are at the end -/
def Outs : List Sx → Env → List Sx → Prop
  | [], _, zs => zs = []
  | .own p _ :: as, s :: γ, zs => ∃ c' r, s = .own p c' ∧ zs = .own p c' :: r ∧ Outs as γ r
  | t :: as, _ :: γ, zs => ∃ r, zs = t :: r ∧ Outs as γ r
  | _ :: _, [], _ => False
/-- the same, with what follows -/
def OutP : List Sx → Env → (List Sx → Prop) → Prop
  | [], _, k => k []
  | .own p _ :: as, .own p' c' :: γ, k => p' = p ∧ OutP as γ fun r => k (.own p c' :: r)
  | .val d :: as, _ :: γ, k => OutP as γ fun r => k (.val d :: r)
  | .no :: as, _ :: γ, k => OutP as γ fun r => k (.no :: r)
  | _, _, _ => False
theorem outP : ∀ {as : List Sx} {γ : Env} {k : List Sx → Prop}, OutP as γ k → ∃ as', Outs as γ as' ∧ k as'
  | [], _, _, h => ⟨[], rfl, h⟩
  | .own p _ :: as, .own p' c' :: γ, k, h => by
    obtain ⟨rfl, h⟩ := h
    obtain ⟨r, h1, h2⟩ := outP h
    exact ⟨_, ⟨c', r, rfl, rfl, h1⟩, h2⟩
  | .val d :: as, s :: γ, k, h => by
    obtain ⟨r, h1, h2⟩ := outP (as := as) (γ := γ) (k := fun r => k (.val d :: r)) (by unfold OutP at h; exact h)
    exact ⟨_, ⟨r, rfl, h1⟩, h2⟩
  | .no :: as, s :: γ, k, h => by
    obtain ⟨r, h1, h2⟩ := outP (as := as) (γ := γ) (k := fun r => k (.no :: r)) (by unfold OutP at h; exact h)
    exact ⟨_, ⟨r, rfl, h1⟩, h2⟩
def startG (n : Nat) (as : List Sx) : Env := as ++ List.replicate (n - as.length) .no
def endsOf (as : List Sx) (p : RS → List Sx → Prop) : DEnds := { nx := fun γ => OutP as γ fun zs => p (.val .non) zs, rt := fun r γ => r.kept ∧ OutP as γ fun zs => p r zs }
theorem endsOf_nx {as : List Sx} {p : RS → List Sx → Prop} {γ : Env} : (endsOf as p).nx γ = OutP as γ fun zs => p (.val .non) zs := rfl
theorem endsOf_rt {as : List Sx} {p : RS → List Sx → Prop} {r : RS} {γ : Env} : (endsOf as p).rt r γ = (r.kept ∧ OutP as γ fun zs => p r zs) := rfl
theorem endsOf_bk {as : List Sx} {p : RS → List Sx → Prop} {γ : Env} : (endsOf as p).bk γ = False := rfl
theorem outs_get : ∀ {as : List Sx} {γ : Env} {zs : List Sx}, Outs as γ zs → zs.length = as.length ∧ ∀ (i : Nat) z, zs[i]? = some z → (∃ p c c', as[i]? = some (.own p c) ∧ γ[i]? = some (.own p c') ∧ z = .own p c') ∨ (as[i]? = some z ∧ ∀ p c, z ≠ .own p c)
  | [], γ, zs, h => by
    have h' : zs = [] := h
    subst h'
    exact ⟨rfl, fun i z e => by simp at e⟩
  | .own p c :: as, s :: γ, zs, h => by
    obtain ⟨c', r, rfl, rfl, h⟩ := h
    obtain ⟨l, g⟩ := outs_get h
    refine ⟨by rw [List.length_cons, List.length_cons, l], fun i z e => ?_⟩
    cases i with
    | zero => simp at e; subst e; exact .inl ⟨p, c, c', rfl, rfl, rfl⟩
    | succ i => simpa using g i z (by simpa using e)
  | .val d :: as, s :: γ, zs, h => by
    obtain ⟨r, rfl, h⟩ := h
    obtain ⟨l, g⟩ := outs_get h
    refine ⟨by rw [List.length_cons, List.length_cons, l], fun i z e => ?_⟩
    cases i with
    | zero => simp at e; subst e; exact .inr ⟨rfl, fun p c z => by cases z⟩
    | succ i => simpa using g i z (by simpa using e)
  | .no :: as, s :: γ, zs, h => by
    obtain ⟨r, rfl, h⟩ := h
    obtain ⟨l, g⟩ := outs_get h
    refine ⟨by rw [List.length_cons, List.length_cons, l], fun i z e => ?_⟩
    cases i with
    | zero => simp at e; subst e; exact .inr ⟨rfl, fun p c z => by cases z⟩
    | succ i => simpa using g i z (by simpa using e)
section
variable {K : PySem.W.Frag} {B : Bs} {F F' H H' : Hp} {m : List Addr} {z : ZN H} {vs : List V} {as zs : List Sx} {σ' : L2.St} {γ' : Env}
theorem start_get {N : List Str} {i : Nat} {s : Option V} {t : Sx} {n : Nat} (h1 : (start N vs)[i]? = some s) (h2 : (startG n as)[i]? = some t) (hl : vs.length = as.length) : ((vs.map some)[i]? = some s ∧ as[i]? = some t) ∨ t = .no := by
  unfold L2.start at h1
  unfold startG at h2
  by_cases hi : i < as.length
  · rw [List.getElem?_append_left (by rw [List.length_map]; omega)] at h1
    rw [List.getElem?_append_left hi] at h2
    exact .inl ⟨h1, h2⟩
  · rw [List.getElem?_append_right (by omega)] at h2
    exact .inr (List.eq_of_mem_replicate (List.mem_of_getElem? h2))
/-- at a def's start -/
theorem Rep.start {B : Bs} {N : List Str} (R : Rep K B F H (vs.map some) as) (hN : vs.length ≤ N.length) : Rep K B F H (start N vs) (startG N.length as) := by
  have hl : vs.length = as.length := by have := R.len; rw [List.length_map] at this; exact this
  have key : ∀ {i : Nat} {p : Option Nat} {c : OC} {s : Option V}, (startG N.length as)[i]? = some (.own p c) → (L2.start N vs)[i]? = some s → as[i]? = some (.own p c) ∧ (vs.map some)[i]? = some s := fun h1 h2 => by
    rcases start_get h2 h1 hl with ⟨a, b⟩ | z
    · exact ⟨b, a⟩
    · cases z
  refine ⟨R.fh, ?_, fun i s t hs hg => ?_, fun i j a p c q c' h1 h2 h3 h4 => R.nd i j a p c q c' (key h1 h3).1 (key h2 h4).1 (key h1 h3).2 (key h2 h4).2, R.b1, R.b2, R.b3, fun j a p c h1 h2 => R.b4 j a p c (key h1 h2).1 (key h1 h2).2, fun j a p c h1 h2 => R.b5 j a p c (key h1 h2).1 (key h1 h2).2, R.bN, R.bd⟩
  · unfold L2.start startG
    rw [List.length_append, List.length_append, List.length_map, List.length_replicate, List.length_replicate, hl]
  · rcases start_get hs hg hl with ⟨a, b⟩ | z
    · exact R.sl i s t a b
    · subst z; trivial
/-- at its end -/
theorem Rep.outs (R0 : Rep K (entry F H m z vs) F H (vs.map some) as) (R : Rep K (entry F H m z vs) F' H' σ' γ') (h : Outs as γ' zs) : Rep K (entry F H m z vs) F' H' (vs.map some) zs := by
  obtain ⟨hl, hz⟩ := outs_get h
  have own : ∀ {i : Nat} {p : Option Nat} {c : OC} {a : Addr}, zs[i]? = some (.own p c) → (vs.map some)[i]? = some (some (.ref a)) → ∃ c0, as[i]? = some (.own p c0) ∧ γ'[i]? = some (.own p c) ∧ σ'[i]? = some (some (.ref a)) := fun {i p c a} h1 h2 => by
    rcases hz i _ h1 with ⟨p', c0, c', e1, e2, e3⟩ | ⟨_, n⟩
    · injection e3 with e3 e4
      subst e3; subst e4
      obtain ⟨b, e5, _⟩ : ∃ b, σ'[i]? = some (some (.ref b)) ∧ True := by
        obtain ⟨l1, _⟩ := List.getElem?_eq_some_iff.mp e2
        have l2 : i < σ'.length := by rw [R.len]; exact l1
        obtain ⟨b, e, _⟩ := R.sl i _ _ (List.getElem?_eq_getElem l2) e2
        exact ⟨b, by rw [List.getElem?_eq_getElem l2, e], trivial⟩
      obtain ⟨q1, q2⟩ := R.b4 i b p c e2 e5
      obtain ⟨q3, q4⟩ := R0.b4 i a p c0 e1 h2
      refine ⟨c0, e1, e2, ?_⟩
      cases p with
      | none =>
        obtain ⟨_, ok⟩ := R0.ownObj e1 h2
        obtain ⟨o, ho, _⟩ := ok.obj
        have z : H a = none := q4 rfl
        rw [z] at ho; cases ho
      | some k =>
        have z1 := q1 k rfl
        have z2 := q3 k rfl
        rw [z2] at z1
        cases z1
        exact e5
    · exact absurd rfl (n p c)
  refine ⟨R.fh, by rw [hl]; exact R0.len, fun i s t hs hg => ?_, fun i j a p c q c' h1 h2 h3 h4 => ?_, R.b1, R.b2, R.b3, fun i a p c h1 h2 => ?_, fun i a p c h1 h2 => ?_, R.bN, R.bd⟩
  · cases t with
    | no => trivial
    | val d =>
      rcases hz i _ hg with ⟨_, _, _, _, _, z⟩ | ⟨e, _⟩
      · cases z
      · obtain ⟨v, e1, r⟩ := R0.sl i s _ hs e
        exact ⟨v, e1, r.mono R.b2⟩
    | own p c =>
      obtain ⟨v, hv, e0⟩ : ∃ v, vs[i]? = some v ∧ s = some v := by
        rw [List.getElem?_map] at hs
        cases q : vs[i]? with
        | none => rw [q] at hs; cases hs
        | some v => rw [q] at hs; exact ⟨v, rfl, (Option.some.inj hs).symm⟩
      subst e0
      rcases hz i _ hg with ⟨p', c0, c', e1, e2, e3⟩ | ⟨_, n⟩
      · injection e3 with e3 e4
        subst e3; subst e4
        obtain ⟨a, ea, _⟩ := R0.sl i _ _ hs e1
        cases ea
        obtain ⟨_, _, q2, q3⟩ := own hg hs
        obtain ⟨a', ea', f, ok⟩ := R.sl i _ _ q3 q2
        cases ea'
        exact ⟨a, rfl, f, ok⟩
      · exact absurd rfl (n p c)
  · obtain ⟨_, q1, q2, q3⟩ := own h1 h3
    obtain ⟨_, q4, q5, q6⟩ := own h2 h4
    exact R0.nd i j a p _ q _ q1 q4 h3 h4
  · obtain ⟨_, q1, q2, q3⟩ := own h1 h2
    exact R.b4 i a p c q2 q3
  · obtain ⟨_, q1, q2, q3⟩ := own h1 h2
    exact R.b5 i a p c q2 q3
end
section
variable {P : Program} {w : World} {K : PySem.W.Frag} {B : Bs} {mg : Str → Option Value} {base : Heap}
/-- THE RULE for a def: its body as a term of rules, and what it does on data -/
theorem fn_ok {x qual : Str} {st : Stmt} {f : Addr} {fd : FuncData} {N ps : List Str} {k n : Nat} {fs : FS} {ds : DS} (F : Fun K x qual st f fd) (S : FnScope N ps (defScope st)) (hn : ps.length = n) (hN : n ≤ N.length)
    (body : ∀ (B : Bs) (cdv : Value) (A : Around) (outer : List PySem.Env) (s : Shared) (H : Hp) (E : XK), Room k (A.deeper (envOfC qual (defScope st) s.heap.objs.size f cdv)) → ∃ ts, XSs (cxOf CX0 P w K mg base N qual (defScope st) f cdv A outer s H E).nox B (defBody st) ts ds)
    (h : ∀ as p, as.length = n → fs as p → ds (endsOf as p) (startG N.length as)) : FnOk P w K mg base CX0 (k + 1) f fd ps (spOf K n fs) := by
  refine F.ok S (fun vs H Q E h => h.1.trans hn.symm) fun cdv A outer s H vs Q E hr hsp => ?_
  obtain ⟨hl, F0, m, z, as, p, R0, hf, hq⟩ := hsp
  obtain ⟨ts, b⟩ := body (entry F0 H m z vs) cdv A outer s H E hr
  refine ⟨ts, b.ps, ?_⟩
  have ha : as.length = n := by have := R0.len; rw [List.length_map] at this; omega
  refine b.ss F0 H _ _ _ (endsOf as p) (R0.start (by rw [hl]; exact hN)) (h as p ha hf) ⟨fun F' H' σ' γ' R' _ h1 => ?_, fun F' H' σ' γ' v r R' _ o ⟨hk, h1⟩ => ?_, fun _ _ _ _ _ _ z => z, fun _ _ _ _ _ _ z => z⟩
  · obtain ⟨zs, ho, hp⟩ := outP h1
    exact hq (.val .non) zs .non F' H' hp (R0.outs R' ho) .non trivial
  · obtain ⟨zs, ho, hp⟩ := outP h1
    have R2 := R0.outs R' ho
    refine hq r zs v F' H' hp R2 ?_ hk
    cases r with
    | val d => exact o
    | own j c => exact hk.elim
    | new c =>
      obtain ⟨a, rfl, N⟩ := o
      refine ⟨a, rfl, N.fa, N.ok, N.bn, N.bm, fun i p' c' h1 h2 => ?_⟩
      obtain ⟨_, ok⟩ := R2.ownObj h1 h2
      have e1 : H a = none := N.bn
      obtain ⟨_, h3⟩ := outs_get ho
      rcases h3 i _ h1 with ⟨p2, c0, c2, e2, _, _⟩ | ⟨_, n2⟩
      · obtain ⟨_, ok2⟩ := R0.ownObj e2 h2
        obtain ⟨o, ho, _⟩ := ok2.obj
        rw [e1] at ho; cases ho
      · exact n2 p' c' rfl
end

/-! ### calls -/
def noNew : List RS → Prop
  | [] => True
  | .new _ :: _ => False
  | _ :: r => noNew r
def ownIx : List RS → List Nat
  | [] => []
  | .own j _ :: r => j :: ownIx r
  | _ :: r => ownIx r
def argsOf : Nat → List RS → List Sx
  | _, [] => []
  | k, .val d :: r => .val d :: argsOf (k + 1) r
  | k, .own _ c :: r => .own (some k) c :: argsOf (k + 1) r
  | k, .new _ :: r => .no :: argsOf (k + 1) r
def putC (γ : Env) (j : Nat) (t : Sx) : Env := match look γ j, t with
  | .own p _, .own _ c => put γ j (.own p c)
  | _, _ => put γ j .no
def upds : Env → List RS → List Sx → Env
  | γ, .own j _ :: r, t :: as => upds (putC γ j t) r as
  | γ, .own j _ :: r, [] => upds (put γ j .no) r []
  | γ, _ :: r, _ :: as => upds γ r as
  | γ, _ :: r, [] => upds γ r []
  | γ, [], _ => γ
theorem putC_len {γ : Env} {j : Nat} {t : Sx} : (putC γ j t).length = γ.length := by
  unfold putC
  split <;> rw [put_len]
theorem put_ne {γ : Env} {i j : Nat} {t : Sx} (h : i ≠ j) : (put γ j t)[i]? = γ[i]? := by rw [put_set, List.getElem?_set_ne (Ne.symm h)]
theorem putC_ne {γ : Env} {i j : Nat} {t : Sx} (h : i ≠ j) : (putC γ j t)[i]? = γ[i]? := by
  unfold putC
  split <;> rw [put_ne h]
theorem upds_len : ∀ {rs : List RS} {as : List Sx} {γ : Env}, (upds γ rs as).length = γ.length
  | [], _, _ => rfl
  | .own j _ :: r, t :: as, γ => by unfold upds; rw [upds_len, putC_len]
  | .own j _ :: r, [], γ => by unfold upds; rw [upds_len, put_len]
  | .val d :: r, _ :: as, γ => by unfold upds; exact upds_len
  | .val d :: r, [], γ => by unfold upds; exact upds_len
  | .new d :: r, _ :: as, γ => by unfold upds; exact upds_len
  | .new d :: r, [], γ => by unfold upds; exact upds_len
theorem upds_off : ∀ {rs : List RS} {as : List Sx} {γ : Env} {i : Nat}, i ∉ ownIx rs → (upds γ rs as)[i]? = γ[i]?
  | [], _, _, _, _ => rfl
  | .own j _ :: r, t :: as, γ, i, h => by
    unfold upds
    rw [upds_off (fun z => h (List.mem_cons_of_mem _ z)), putC_ne fun z => h (by rw [z]; exact List.mem_cons_self)]
  | .own j _ :: r, [], γ, i, h => by
    unfold upds
    rw [upds_off (fun z => h (List.mem_cons_of_mem _ z)), put_ne fun z => h (by rw [z]; exact List.mem_cons_self)]
  | .val d :: r, _ :: as, γ, i, h => by unfold upds; exact upds_off h
  | .val d :: r, [], γ, i, h => by unfold upds; exact upds_off h
  | .new d :: r, _ :: as, γ, i, h => by unfold upds; exact upds_off h
  | .new d :: r, [], γ, i, h => by unfold upds; exact upds_off h
theorem mem_ownIx : ∀ {rs : List RS} {k : Nat} {j : Nat} {c : OC}, rs[k]? = some (.own j c) → j ∈ ownIx rs
  | [], _, _, _, h => by simp at h
  | .own j' _ :: r, 0, j, c, h => by simp at h; rw [h.1]; exact List.mem_cons_self
  | .own j' _ :: r, k + 1, j, c, h => List.mem_cons_of_mem _ (mem_ownIx (k := k) (by simpa using h))
  | .val d :: r, 0, j, c, h => by simp at h
  | .val d :: r, k + 1, j, c, h => by
    show j ∈ ownIx r
    exact mem_ownIx (k := k) (by simpa using h)
  | .new d :: r, 0, j, c, h => by simp at h
  | .new d :: r, k + 1, j, c, h => by
    show j ∈ ownIx r
    exact mem_ownIx (k := k) (by simpa using h)
theorem ownIx_mem : ∀ {rs : List RS} {j : Nat}, j ∈ ownIx rs → ∃ (k : Nat) (c : OC), rs[k]? = some (RS.own j c)
  | [], _, h => by cases h
  | .own j' c :: r, j, h => by
    rcases List.mem_cons.mp h with e | h
    · exact ⟨0, c, by rw [e]; rfl⟩
    · obtain ⟨k, c', e⟩ := ownIx_mem h
      exact ⟨k + 1, c', by simpa using e⟩
  | .val d :: r, j, h => by
    obtain ⟨k, c', e⟩ := ownIx_mem (rs := r) h
    exact ⟨k + 1, c', by simpa using e⟩
  | .new d :: r, j, h => by
    obtain ⟨k, c', e⟩ := ownIx_mem (rs := r) h
    exact ⟨k + 1, c', by simpa using e⟩
theorem upds_at : ∀ {rs : List RS} {as : List Sx} {γ : Env} {k j : Nat} {c0 c1 : OC} {p : Option Nat}, (ownIx rs).Nodup → rs[k]? = some (.own j c0) → γ[j]? = some (.own p c1) →
    (upds γ rs as)[j]? = some .no ∨ ∃ p' c, as[k]? = some (.own p' c) ∧ (upds γ rs as)[j]? = some (.own p c)
  | [], _, _, _, _, _, _, _, _, h, _ => by simp at h
  | .own j' c' :: r, t :: as, γ, 0, j, c0, c1, p, nd, h, hg => by
    obtain ⟨rfl, rfl⟩ : j' = j ∧ c' = c0 := by simpa using h
    have nj : j' ∉ ownIx r := (List.nodup_cons.mp nd).1
    have lt : j' < γ.length := (List.getElem?_eq_some_iff.mp hg).1
    unfold upds
    rw [upds_off nj]
    unfold putC
    rw [look_of hg]
    cases t with
    | own p' c => exact .inr ⟨p', c, rfl, (show (put γ j' (.own p c))[j']? = some (.own p c) by rw [put_set]; exact List.getElem?_set_self lt)⟩
    | no => exact .inl (show (put γ j' .no)[j']? = some .no by rw [put_set]; exact List.getElem?_set_self lt)
    | val d => exact .inl (show (put γ j' .no)[j']? = some .no by rw [put_set]; exact List.getElem?_set_self lt)
  | .own j' c' :: r, [], γ, 0, j, c0, c1, p, nd, h, hg => by
    obtain ⟨rfl, rfl⟩ : j' = j ∧ c' = c0 := by simpa using h
    have nj : j' ∉ ownIx r := (List.nodup_cons.mp nd).1
    have lt : j' < γ.length := (List.getElem?_eq_some_iff.mp hg).1
    unfold upds
    rw [upds_off nj]
    exact .inl (by rw [put_set]; exact List.getElem?_set_self lt)
  | .own j' c' :: r, t :: as, γ, k + 1, j, c0, c1, p, nd, h, hg => by
    have hr : r[k]? = some (.own j c0) := by simpa using h
    have ne : j ≠ j' := fun e => (List.nodup_cons.mp nd).1 (by rw [← e]; exact mem_ownIx hr)
    unfold upds
    simpa using upds_at (List.nodup_cons.mp nd).2 hr (by rw [putC_ne ne]; exact hg)
  | .own j' c' :: r, [], γ, k + 1, j, c0, c1, p, nd, h, hg => by
    have hr : r[k]? = some (.own j c0) := by simpa using h
    have ne : j ≠ j' := fun e => (List.nodup_cons.mp nd).1 (by rw [← e]; exact mem_ownIx hr)
    unfold upds
    simpa using upds_at (as := []) (List.nodup_cons.mp nd).2 hr (by rw [put_ne ne]; exact hg)
  | .val d :: r, _, _, 0, _, _, _, _, _, h, _ => by simp at h
  | .new d :: r, _, _, 0, _, _, _, _, _, h, _ => by simp at h
  | .val d :: r, t :: as, γ, k + 1, j, c0, c1, p, nd, h, hg => by
    have hr : r[k]? = some (.own j c0) := by simpa using h
    unfold upds; simpa using upds_at (rs := r) (as := as) (k := k) (show (ownIx r).Nodup from nd) hr hg
  | .val d :: r, [], γ, k + 1, j, c0, c1, p, nd, h, hg => by
    have hr : r[k]? = some (.own j c0) := by simpa using h
    unfold upds; simpa using upds_at (rs := r) (as := []) (k := k) (show (ownIx r).Nodup from nd) hr hg
  | .new d :: r, t :: as, γ, k + 1, j, c0, c1, p, nd, h, hg => by
    have hr : r[k]? = some (.own j c0) := by simpa using h
    unfold upds; simpa using upds_at (rs := r) (as := as) (k := k) (show (ownIx r).Nodup from nd) hr hg
  | .new d :: r, [], γ, k + 1, j, c0, c1, p, nd, h, hg => by
    have hr : r[k]? = some (.own j c0) := by simpa using h
    unfold upds; simpa using upds_at (rs := r) (as := []) (k := k) (show (ownIx r).Nodup from nd) hr hg
theorem args_get : ∀ {rs : List RS} {b i : Nat} {t : Sx}, (argsOf b rs)[i]? = some t → (∃ d, rs[i]? = some (.val d) ∧ t = .val d) ∨ (∃ j c, rs[i]? = some (.own j c) ∧ t = .own (some (b + i)) c) ∨ t = .no
  | [], _, _, _, h => by simp [argsOf] at h
  | .val d :: r, b, 0, t, h => by simp [argsOf] at h; exact .inl ⟨d, rfl, h.symm⟩
  | .own j c :: r, b, 0, t, h => by simp [argsOf] at h; exact .inr (.inl ⟨j, c, rfl, h.symm⟩)
  | .new c :: r, b, 0, t, h => by simp [argsOf] at h; exact .inr (.inr h.symm)
  | .val d :: r, b, i + 1, t, h => by
    have := args_get (rs := r) (b := b + 1) (i := i) (t := t) (by simpa [argsOf] using h)
    rw [show b + 1 + i = b + (i + 1) by omega] at this
    simpa using this
  | .own j c :: r, b, i + 1, t, h => by
    have := args_get (rs := r) (b := b + 1) (i := i) (t := t) (by simpa [argsOf] using h)
    rw [show b + 1 + i = b + (i + 1) by omega] at this
    simpa using this
  | .new c :: r, b, i + 1, t, h => by
    have := args_get (rs := r) (b := b + 1) (i := i) (t := t) (by simpa [argsOf] using h)
    rw [show b + 1 + i = b + (i + 1) by omega] at this
    simpa using this
theorem args_len : ∀ {rs : List RS} {b : Nat}, (argsOf b rs).length = rs.length
  | [], _ => rfl
  | .val d :: r, b => by simp [argsOf, args_len]
  | .own j c :: r, b => by simp [argsOf, args_len]
  | .new c :: r, b => by simp [argsOf, args_len]
end DL

set_option Elab.async false
set_option linter.all false
set_option maxRecDepth 100000
set_option maxHeartbeats 2000000
namespace DL
open PySem PySem.Spec PyProof.Rows L2
open Evl (Ex ex_l ex_t)
section
variable {K : PySem.W.Frag} {B : Bs} {F F' H H' : Hp} {σ : L2.St} {γ : Env}
/-- a callee's arguments, as its parameters find them -/
theorem Rep.args (R : Rep K B F H σ γ) {vs dvs : List V} {rs : List RS} {dds : List D} (o : Paired (RsOk K B F H σ γ) vs rs) (od : Paired (fun v d => ∀ z F, Rp ⟨K, z⟩ F v d) dvs dds) (nd : (ownIx rs).Nodup) :
    ∃ m, (∀ b, b ∈ m → ∃ (i : Nat) (j : Nat) (c : OC) (a : Addr), rs[i]? = some (.own j c) ∧ σ[j]? = some (some (.ref a)) ∧ (b = a ∨ ∃ C fs, H a = some (.ins C b fs))) ∧
      Rep K (entry F H m R.zn (vs ++ dvs)) F H ((vs ++ dvs).map some) (argsOf 0 rs ++ dds.map Sx.val) := by
  have hlen : ((vs ++ dvs).map some).length = (argsOf 0 rs ++ dds.map Sx.val).length := by
    rw [List.length_map, List.length_append, List.length_append, args_len, List.length_map, P_len o, P_len od]
  -- an owned argument
  have own : ∀ {i : Nat} {p : Option Nat} {c : OC} {a : Addr}, (argsOf 0 rs ++ dds.map Sx.val)[i]? = some (.own p c) → ((vs ++ dvs).map some)[i]? = some (some (.ref a)) → ∃ j, rs[i]? = some (.own j c) ∧ p = some i ∧ σ[j]? = some (some (.ref a)) ∧ (∃ q, γ[j]? = some (.own q c)) ∧ (vs ++ dvs)[i]? = some (.ref a) := fun {i p c a} h1 h2 => by
    by_cases hi : i < (argsOf 0 rs).length
    · rw [List.getElem?_append_left hi] at h1
      rcases args_get h1 with ⟨d, _, z⟩ | ⟨j, c', e, z⟩ | z
      · cases z
      · injection z with z1 z2
        subst z2
        rw [Nat.zero_add] at z1
        obtain ⟨v, hv, q1, q2⟩ := P_get o e
        have h3 : (vs ++ dvs)[i]? = some v := by rw [List.getElem?_append_left (List.getElem?_eq_some_iff.mp hv).1]; exact hv
        rw [List.getElem?_map, h3] at h2
        have e2 : v = .ref a := by simpa using h2
        subst e2
        exact ⟨j, e, z1, q1, q2, h3⟩
      · cases z
    · rw [List.getElem?_append_right (by omega), List.getElem?_map] at h1
      cases q : dds[i - (argsOf 0 rs).length]? with
      | none => rw [q] at h1; cases h1
      | some d => rw [q] at h1; cases h1
  refine ⟨ownsOf ((vs ++ dvs).map some) (argsOf 0 rs ++ dds.map Sx.val) H, fun b hb => ?_, R.fh, hlen, fun i s t hs hg => ?_, fun i j a p c q c' h1 h2 h3 h4 => ?_, fun b o e => ⟨fun _ => e, o, e⟩, Evl.Ex.refl F, fun b o _ _ => rfl, fun i a p c h1 h2 => ?_, fun i a p c h1 h2 => ?_, fun b o e => ⟨o, e⟩, fun a o e => ⟨o, e, .refl o⟩⟩
  · obtain ⟨i, a, p, c, h1, h2, h3⟩ := mem_owns.mp hb
    obtain ⟨j, e1, _, e3, _, _⟩ := own h2 h1
    exact ⟨i, j, c, a, e1, e3, h3⟩
  · cases t with
    | no => trivial
    | val d =>
      rw [List.getElem?_map] at hs
      by_cases hi : i < (argsOf 0 rs).length
      · rw [List.getElem?_append_left hi] at hg
        rcases args_get hg with ⟨d', e, z⟩ | ⟨j, c', e, z⟩ | z
        · cases z
          obtain ⟨v, hv, q1⟩ := P_get o e
          rw [List.getElem?_append_left (List.getElem?_eq_some_iff.mp hv).1, hv] at hs
          exact ⟨v, (Option.some.inj hs).symm, q1⟩
        · cases z
        · cases z
      · rw [List.getElem?_append_right (by omega), List.getElem?_map] at hg
        cases q : dds[i - (argsOf 0 rs).length]? with
        | none => rw [q] at hg; cases hg
        | some d' =>
          rw [q] at hg
          cases hg
          obtain ⟨v, hv, q1⟩ := P_get od q
          have e1 : i - (argsOf 0 rs).length = i - vs.length := by rw [args_len, P_len o]
          rw [List.getElem?_append_right (by rw [P_len o, ← args_len (rs := rs) (b := 0)]; omega), ← e1, hv] at hs
          exact ⟨v, (Option.some.inj hs).symm, q1 _ F⟩
    | own p c =>
      obtain ⟨v, e0⟩ : ∃ v, s = some v := by
        rw [List.getElem?_map] at hs
        cases q : (vs ++ dvs)[i]? with
        | none => rw [q] at hs; cases hs
        | some v => rw [q] at hs; exact ⟨v, (Option.some.inj hs).symm⟩
      subst e0
      by_cases hi : i < (argsOf 0 rs).length
      · have hg' := hg
        rw [List.getElem?_append_left hi] at hg
        rcases args_get hg with ⟨d, _, z⟩ | ⟨j, c', e, z⟩ | z
        · cases z
        · injection z with z1 z2
          subst z2
          obtain ⟨v', hv, q1, q, q2⟩ := P_get o e
          obtain ⟨a, e5, f, ok⟩ := R.sl j _ _ q1 q2
          cases e5
          rw [List.getElem?_map, List.getElem?_append_left (List.getElem?_eq_some_iff.mp hv).1, hv] at hs
          have e6 : v = .ref a := by simpa using hs.symm
          subst e6
          refine ⟨a, rfl, f, ?_⟩
          cases c with
          | lst ds => exact ok
          | dct kd => exact ok
          | ins C fs =>
            obtain ⟨dx, fv, h1, h2, h3, h4, h5, h6⟩ := ok
            refine ⟨dx, fv, h1, h2, h3, fun z => ?_, .inl (mem_owns.mpr ⟨i, a, p, _, ?_, hg', .inr ⟨_, fv, h1⟩⟩), h6⟩
            · have z' : H a = none := z
              rw [h1] at z'; cases z'
            · rw [List.getElem?_map, List.getElem?_append_left (List.getElem?_eq_some_iff.mp hv).1, hv]; rfl
        · cases z
      · rw [List.getElem?_append_right (by omega), List.getElem?_map] at hg
        cases q : dds[i - (argsOf 0 rs).length]? with
        | none => rw [q] at hg; cases hg
        | some d => rw [q] at hg; cases hg
  · obtain ⟨j1, e1, _, e2, ⟨q1, e3⟩, _⟩ := own h1 h3
    obtain ⟨j2, e4, _, e5, ⟨q2, e6⟩, _⟩ := own h2 h4
    have ej := R.nd j1 j2 a q1 c q2 c' e3 e6 e2 e5
    subst ej
    -- one index of rs for each slot
    have go : ∀ (rs : List RS) (i j : Nat) c c', (ownIx rs).Nodup → rs[i]? = some (.own j1 c) → rs[j]? = some (.own j1 c') → i = j := fun rs => by
      induction rs with
      | nil => intro i j c c' _ h; simp at h
      | cons r rs ih =>
        intro i j c c' hn h1 h2
        cases i with
        | zero =>
          cases j with
          | zero => rfl
          | succ j =>
            have e : r = .own j1 c := by simpa using h1
            subst e
            exact absurd (mem_ownIx (rs := rs) (k := j) (by simpa using h2)) (List.nodup_cons.mp hn).1
        | succ i =>
          cases j with
          | zero =>
            have e : r = .own j1 c' := by simpa using h2
            subst e
            exact absurd (mem_ownIx (rs := rs) (k := i) (by simpa using h1)) (List.nodup_cons.mp hn).1
          | succ j =>
            have hn' : (ownIx rs).Nodup := by
              cases r with
              | own j c => exact (List.nodup_cons.mp hn).2
              | val d => exact hn
              | new d => exact hn
            rw [ih i j c c' hn' (by simpa using h1) (by simpa using h2)]
    exact go rs i j c c' nd e1 e4
  · obtain ⟨j1, e1, e0, e2, _, e3⟩ := own h1 h2
    refine ⟨fun k z => ?_, fun z => ?_⟩
    · rw [e0] at z
      cases z
      show (match ((vs ++ dvs)[i]? : Option V) with | some (.ref a) => some a | _ => none) = some a
      rw [e3]
    · rw [e0] at z; cases z
  · exact .inl (mem_owns.mpr ⟨i, a, p, c, h2, h1, .inl rfl⟩)
/-- behind a call -/
theorem Rep.called (R : Rep K B F H σ γ) {vs : List V} {ws : List V} {rs : List RS} {as' : List Sx} {m : List Addr} (o : Paired (RsOk K B F H σ γ) vs rs) (nd : (ownIx rs).Nodup)
    (hw : ∀ (i : Nat) v, vs[i]? = some v → ws[i]? = some v)
    (hm : ∀ b, b ∈ m → ∃ (i : Nat) (j : Nat) (c : OC) (a : Addr), rs[i]? = some (.own j c) ∧ σ[j]? = some (some (.ref a)) ∧ (b = a ∨ ∃ C fs, H a = some (.ins C b fs))) (R' : Rep K (entry F H m R.zn ws) F' H' (ws.map some) as') :
    Rep K B F' H' σ (upds γ rs as') ∧ Ex F F' ∧ ∀ v r, r.kept → RsOk K (entry F H m R.zn ws) F' H' (ws.map some) as' v r → RsOk K B F' H' σ (upds γ rs as') v r := by
  have fF : Ex F F' := R'.b2
  -- what may have changed is owned here
  have mo : ∀ {b}, b ∈ m → b ∈ ownsOf σ γ H := fun {b} hb => by
    obtain ⟨i, j, c, a, h1, h2, h3⟩ := hm b hb
    obtain ⟨v, hv, q1, q, q2⟩ := P_get o h1
    exact mem_owns.mpr ⟨j, a, q, c, h2, q2, h3⟩
  have stay : ∀ {b o}, H b = some o → b ∉ m → H' b = some o ∧ F' b = F b := fun {b o} h n => ⟨(R'.b1 b o h).1 n, R'.b3 b o h n⟩
  -- an owned slot's address is in m only if it was handed over
  have apart : ∀ {i : Nat} {p : Option Nat} {c : OC} {a : Addr}, γ[i]? = some (.own p c) → σ[i]? = some (some (.ref a)) → i ∉ ownIx rs → a ∉ m ∧ ∀ dx, H dx = some (.own a) → dx ∉ m := fun {i p c a} hg hs hi => by
    obtain ⟨_, ok⟩ := R.ownObj hg hs
    obtain ⟨ob, hob, nob⟩ := ok.obj
    have h1 : a ∉ m := fun hb => by
      obtain ⟨k, j, c', a', e1, e2, e3⟩ := hm a hb
      obtain ⟨v, hv, q1, q, q2⟩ := P_get o e1
      rcases e3 with rfl | ⟨C, fs, e3⟩
      · exact hi (by rw [R.nd i j a p c q c' hg q2 hs e2]; exact mem_ownIx e1)
      · obtain ⟨_, ok'⟩ := R.ownObj q2 e2
        cases c' with
        | lst ds => obtain ⟨_, z, _⟩ := ok'; rw [e3] at z; cases z
        | dct ds => obtain ⟨_, z, _⟩ := ok'; rw [e3] at z; cases z
        | ins C' fs' =>
          obtain ⟨dx, fv, z1, z2, _⟩ := ok'
          rw [e3] at z1
          injection z1 with z1
          injection z1 with _ z1 _
          subst z1
          rw [hob] at z2
          exact nob a' (Option.some.inj z2)
    refine ⟨h1, fun dx hd hb => ?_⟩
    obtain ⟨k, j, c', a', e1, e2, e3⟩ := hm dx hb
    obtain ⟨v, hv, q1, q, q2⟩ := P_get o e1
    obtain ⟨_, ok'⟩ := R.ownObj q2 e2
    rcases e3 with rfl | ⟨C, fs, e3⟩
    · obtain ⟨o2, ho2, n2⟩ := ok'.obj
      rw [hd] at ho2
      exact n2 a (Option.some.inj ho2).symm
    · cases c' with
      | lst ds => obtain ⟨_, z, _⟩ := ok'; rw [e3] at z; cases z
      | dct ds => obtain ⟨_, z, _⟩ := ok'; rw [e3] at z; cases z
      | ins C' fs' =>
        obtain ⟨dx', fv, z1, z2, _⟩ := ok'
        rw [e3] at z1
        injection z1 with z1
        injection z1 with _ z1 _
        subst z1
        rw [hd] at z2
        injection z2 with z2
        injection z2 with z2
        subst z2
        exact hi (by rw [R.nd i j a p c q _ hg q2 hs e2]; exact mem_ownIx e1)
  -- an owned slot behind the call
  have slot : ∀ {i : Nat} {p : Option Nat} {c : OC}, (upds γ rs as')[i]? = some (.own p c) → (i ∉ ownIx rs ∧ γ[i]? = some (.own p c)) ∨ ∃ (k : Nat) (c0 c1 : OC) (p' : Option Nat), rs[k]? = some (.own i c0) ∧ γ[i]? = some (.own p c1) ∧ as'[k]? = some (.own p' c) := fun {i p c} h => by
    by_cases hi : i ∈ ownIx rs
    · obtain ⟨k, c0, e1⟩ := ownIx_mem hi
      obtain ⟨v, hv, q1, q, q2⟩ := P_get o e1
      rcases upds_at (as := as') nd e1 q2 with z | ⟨p', c2, z1, z2⟩
      · rw [z] at h; cases h
      · rw [z2] at h
        cases h
        exact .inr ⟨k, c0, c0, p', e1, q2, z1⟩
    · exact .inl ⟨hi, by rw [← upds_off (as := as') hi]; exact h⟩
  have was : ∀ {i : Nat} {p : Option Nat} {c : OC}, (upds γ rs as')[i]? = some (.own p c) → ∃ c1, γ[i]? = some (.own p c1) := fun h => by
    rcases slot h with ⟨_, z⟩ | ⟨_, _, c1, _, _, z, _⟩
    · exact ⟨_, z⟩
    · exact ⟨c1, z⟩
  have R2 : Rep K B F' H' σ (upds γ rs as') := by
    refine ⟨R'.fh, by rw [upds_len]; exact R.len, fun i s t hs hg => ?_, fun i j a p c q c' h1 h2 h3 h4 => ?_, fun b ob e => ?_, R.b2.trans fF, fun b ob e n => ?_, fun i a p c h1 h2 => ?_, fun i a p c h1 h2 => ?_, fun b ob e => ?_, fun a ob e => ?_⟩
    · cases t with
      | no => trivial
      | val d =>
        have hi : i ∉ ownIx rs := fun hi => by
          obtain ⟨k, c0, e1⟩ := ownIx_mem hi
          obtain ⟨v, hv, q1, q, q2⟩ := P_get o e1
          rcases upds_at (as := as') nd e1 q2 with z | ⟨p', c2, z1, z2⟩
          · rw [z] at hg; cases hg
          · rw [z2] at hg; cases hg
        rw [upds_off hi] at hg
        obtain ⟨v, e, r⟩ := R.sl i s _ hs hg
        exact ⟨v, e, r.mono fF⟩
      | own p c =>
        rcases slot hg with ⟨hi, hg0⟩ | ⟨k, c0, c1, p', e1, e2, e3⟩
        · obtain ⟨a, e, f, ok⟩ := R.sl i s _ hs hg0
          subst e
          obtain ⟨n1, n2⟩ := apart hg0 hs hi
          obtain ⟨ob, hob, _⟩ := ok.obj
          obtain ⟨x1, x2⟩ := stay hob n1
          refine ⟨a, rfl, x2.trans f, (ok.mono fF fun dx hd fd => (stay hd (n2 dx hd)).2.trans fd).heap (x1.trans hob.symm) fun dx hd => ((stay hd (n2 dx hd)).1).trans hd.symm⟩
        · obtain ⟨v, hv, q1, q, q2⟩ := P_get o e1
          rw [hs] at q1
          have es : s = some v := Option.some.inj q1
          subst es
          obtain ⟨a, e4, f0, ok0⟩ := R.sl i _ _ hs e2
          cases e4
          have hk := hw k _ hv
          obtain ⟨a2, e5, f, ok⟩ := R'.sl k (some (.ref a)) _ (by rw [List.getElem?_map, hk]; rfl) e3
          cases e5
          refine ⟨a, rfl, f, ?_⟩
          cases c with
          | lst ds => exact ok
          | dct kd => exact ok
          | ins C fs =>
            obtain ⟨dx, fv, h1, h2, h3, h4, h5, h6⟩ := ok
            cases c1 with
            | lst ds =>
              obtain ⟨vs0, z1, _⟩ := ok0
              obtain ⟨o', hb, kn⟩ := R'.bd a _ z1
              obtain ⟨xs, rfl⟩ := kn
              rw [hb] at h1; cases h1
            | dct kd =>
              obtain ⟨vs0, z1, _⟩ := ok0
              obtain ⟨o', hb, kn⟩ := R'.bd a _ z1
              obtain ⟨xs, rfl⟩ := kn
              rw [hb] at h1; cases h1
            | ins C0 fs0 =>
              obtain ⟨dx0, fv0, z1, z2, z3, z4, z5, z6⟩ := ok0
              obtain ⟨o', hb, kn⟩ := R'.bd a _ z1
              obtain ⟨fs', rfl⟩ := kn
              rw [hb] at h1
              injection h1 with h1
              injection h1 with e6 e7 e8
              subst e7
              exact ⟨dx0, fv, by rw [hb, e6, e8], h2, h3, z4, z5, h6⟩
    · obtain ⟨_, y1⟩ := was h1
      obtain ⟨_, y2⟩ := was h2
      exact R.nd i j a p _ q _ y1 y2 h3 h4
    · obtain ⟨x1, o1, x2⟩ := R.b1 b ob e
      refine ⟨fun n => (stay (x1 n) fun hb => ?_).1, (R'.b1 b o1 x2).2⟩
      rcases R.owns (mo hb) with z | z
      · exact n z
      · rw [e] at z; cases z
    · have x1 := (R.b1 b ob e).1 n
      rw [(stay x1 fun hb => by
        rcases R.owns (mo hb) with z | z
        · exact n z
        · rw [e] at z; cases z).2]
      exact R.b3 b ob e n
    · obtain ⟨_, y1⟩ := was h1
      exact R.b4 i a p _ y1 h2
    · obtain ⟨_, y1⟩ := was h1
      exact R.b5 i a p _ y1 h2
    · obtain ⟨o1, x2⟩ := R.bN b ob e
      exact R'.bN b o1 x2
    · obtain ⟨o1, x2, k1⟩ := R.bd a ob e
      obtain ⟨o2, x3, k2⟩ := R'.bd a o1 x2
      exact ⟨o2, x3, k1.trans k2⟩
  refine ⟨R2, fF, fun v r hk ok => ?_⟩
  cases r with
  | val d => exact ok
  | own j c => exact hk.elim
  | new c =>
    obtain ⟨a, rfl, N⟩ := ok
    have e1 : H a = none := N.bn
    obtain ⟨_, f2, f3, f4⟩ := R.fresh e1
    refine ⟨a, rfl, N.fa, ?_, f3, .inr f2, fun i p c' h1 h2 => ?_⟩
    · have ok := N.ok
      cases c with
      | lst ds => exact ok
      | dct kd => exact ok
      | ins C fs =>
        obtain ⟨dx, fv, h1, h2, h3, h4, h5, h6⟩ := ok
        obtain ⟨_, g2, g3, _⟩ := R.fresh (h4 e1)
        exact ⟨dx, fv, h1, h2, h3, fun _ => g3, .inr g2, h6⟩
    · obtain ⟨_, y1⟩ := was h1
      exact f4 i p _ y1 h2
end
end DL

set_option Elab.async false
set_option linter.all false
set_option maxRecDepth 100000
set_option maxHeartbeats 2000000
namespace DL
open PySem PySem.Spec PyProof.Rows L2
open Evl (Ex ex_l ex_t)
/-- f(..): what is owned and handed over may change -/
def dCall (n : Nat) (fs : FS) (dds : List D) (da : DA) (γ : Env) (q : RS → Env → Prop) : Prop := da γ fun rs γ1 => (ownIx rs).Nodup ∧ rs.length + dds.length = n ∧ fs (argsOf 0 rs ++ dds.map Sx.val) fun r as' => q r (upds γ1 rs as')
/-- f(..): what is owned is lent; the answer is flat -/
def flatD : D → Prop
  | .int _ => True | .bl _ => True | .str _ => True | .non => True
  | _ => False
def flatR : RS → Prop
  | .val d => flatD d
  | _ => False
def dCallB (n : Nat) (fs : FS) (dds : List D) (da : DA) (γ : Env) (q : RS → Env → Prop) : Prop := da γ fun rs γ1 => noNew rs ∧ rs.length + dds.length = n ∧ fs (rs.map (fun r => Sx.val r.data) ++ dds.map Sx.val) fun r _ => flatR r ∧ q r γ1
section
variable {K : PySem.W.Frag} {B : Bs}
theorem se_call {n : Nat} {fs : FS} {dvs : List V} {dds : List D} {E : XK} {ta : TA} {da : DA} (h : SA K B ta da) (od : Paired (fun v d => ∀ z F, Rp ⟨K, z⟩ F v d) dvs dds) : SE K B (tCall (spOf K n fs) dvs E ta) (dCall n fs dds da) := fun F H σ γ Q q R hq k => by
  refine h F H σ γ _ _ R hq fun vs F1 H1 γ1 rs R1 e1 o1 ⟨h1, h2, h3⟩ => ?_
  obtain ⟨m, hm, RE⟩ := R1.args o1 od h1
  refine ⟨by rw [List.length_append, P_len o1, P_len od]; exact h2, F1, m, _, _, _, RE, h3, fun r as' v F2 H2 hp R2 ok hk => ?_⟩
  obtain ⟨R3, e3, ok3⟩ := R1.called o1 h1 (fun i v hv => by rw [List.getElem?_append_left (List.getElem?_eq_some_iff.mp hv).1]; exact hv) hm R2
  exact k v F2 H2 _ r R3 (e1.trans e3) (ok3 v r hk ok) hp
/-- the heap grows, nothing else -/
theorem Rep.grow {B : Bs} {F H H' : Hp} {σ : L2.St} {γ : Env} (R : Rep K B F H σ γ) (e : Ex H H') : Rep K B F H' σ γ := by
  refine ⟨R.fh.trans e, R.len, fun i s t hs hg => ?_, R.nd, fun b o h => ?_, R.b2, R.b3, R.b4, R.b5, fun b o h => ?_, fun a o h => ?_⟩
  · have q := R.sl i s t hs hg
    cases t with
    | no => trivial
    | val d => exact q
    | own p c =>
      obtain ⟨a, e', f, ok⟩ := q
      obtain ⟨o, ho, _⟩ := ok.obj
      exact ⟨a, e', f, ok.heap ((e _ _ ho).trans ho.symm) fun dx hd => (e _ _ hd).trans hd.symm⟩
  · obtain ⟨x1, o1, x2⟩ := R.b1 b o h
    exact ⟨fun n => e _ _ (x1 n), o1, e _ _ x2⟩
  · obtain ⟨o1, x2⟩ := R.bN b o h
    exact ⟨o1, e _ _ x2⟩
  · obtain ⟨o1, x2, x3⟩ := R.bd a o h
    exact ⟨o1, e _ _ x2, x3⟩
/-- for a while all that was handed over is frozen -/
theorem Rep.lend {B : Bs} {H : Hp} {σ : L2.St} : ∀ {vs : List V} {rs : List RS} {F : Hp} {γ : Env}, Rep K B F H σ γ → Paired (fun v r => (∃ d, r = .val d ∧ Rp (B.kz K) F v d) ∨ ∃ j c, r = .own j c ∧ σ[j]? = some (some v) ∧ (∃ p, look γ j = .own p c) ∨ r = .own j c ∧ Rp (B.kz K) F v c.data) vs rs →
    ∃ F', Ex F F' ∧ Ex F' H ∧ RpAll (B.kz K) F' vs (rs.map RS.data)
  | _, _, F, γ, R, .nil => ⟨F, Evl.Ex.refl F, R.fh, .nil⟩
  | _, _, F, γ, R, @Paired.cons _ _ _ v r vs rs h t => by
    have step : ∃ F1 γ1, Rep K B F1 H σ γ1 ∧ Ex F F1 ∧ Rp (B.kz K) F1 v r.data ∧ ∀ j p c, look γ j = .own p c → look γ1 j = .own p c ∨ ∃ a, σ[j]? = some (some (.ref a)) ∧ Rp (B.kz K) F1 (.ref a) c.data := by
      rcases h with ⟨d, rfl, h⟩ | ⟨j, c, ⟨rfl, hs, p, hp⟩ | ⟨rfl, h⟩⟩
      · exact ⟨F, γ, R, Evl.Ex.refl F, h, fun j p c h => .inl h⟩
      · obtain ⟨a, F1, hs', R1, e1, r1⟩ := R.freezeVar hp
        rw [hs] at hs'
        cases hs'
        refine ⟨F1, _, R1, e1, r1, fun i p' c' hl => ?_⟩
        by_cases e : i = j
        · subst e
          rw [hp] at hl
          cases hl
          exact .inr ⟨a, hs, r1⟩
        · refine .inl (look_of ?_)
          have := of_look hl (by intro z; cases z)
          rw [put_set, List.getElem?_set_ne (Ne.symm e)]
          exact this
      · exact ⟨F, γ, R, Evl.Ex.refl F, h, fun j p c h => .inl h⟩
    obtain ⟨F1, γ1, R1, e1, r1, hk⟩ := step
    obtain ⟨F2, e2, e3, r2⟩ := Rep.lend (vs := vs) (rs := rs) R1 (P_mono (fun v r h => by
      rcases h with ⟨d, rfl, h⟩ | ⟨j, c, ⟨rfl, hs, p, hp⟩ | ⟨rfl, h⟩⟩
      · exact .inl ⟨d, rfl, h.mono e1⟩
      · rcases hk j p c hp with z | ⟨a, z1, z2⟩
        · exact .inr ⟨j, c, .inl ⟨rfl, hs, p, z⟩⟩
        · rw [hs] at z1
          cases z1
          exact .inr ⟨j, c, .inr ⟨rfl, z2⟩⟩
      · exact .inr ⟨j, c, .inr ⟨rfl, h.mono e1⟩⟩) t)
    exact ⟨F2, e1.trans e2, e3, .cons (r1.mono e2) r2⟩
theorem lent {B : Bs} {F H : Hp} {σ : L2.St} {γ : Env} : ∀ {vs : List V} {rs : List RS}, Paired (RsOk K B F H σ γ) vs rs → noNew rs → Paired (fun v r => (∃ d, r = .val d ∧ Rp (B.kz K) F v d) ∨ ∃ j c, r = .own j c ∧ σ[j]? = some (some v) ∧ (∃ p, look γ j = .own p c) ∨ r = .own j c ∧ Rp (B.kz K) F v c.data) vs rs
  | _, _, .nil, _ => .nil
  | _, .val d :: _, .cons h t, n => .cons (.inl ⟨d, rfl, h⟩) (lent t n)
  | _, .own j c :: _, .cons ⟨hs, p, hg⟩ t, n => .cons (.inr ⟨j, c, .inl ⟨rfl, hs, p, look_of hg⟩⟩) (lent t n)
theorem se_callB {n : Nat} {fs : FS} {dvs : List V} {dds : List D} {E : XK} {ta : TA} {da : DA} (h : SA K B ta da) (od : Paired (fun v d => ∀ z F, Rp ⟨K, z⟩ F v d) dvs dds) : SE K B (tCall (spOf K n fs) dvs E ta) (dCallB n fs dds da) := fun F H σ γ Q q R hq k => by
  refine h F H σ γ _ _ R hq fun vs F1 H1 γ1 rs R1 e1 o1 ⟨h0, h2, h3⟩ => ?_
  have pr := lent o1 h0
  obtain ⟨F2, e2, e3, ra⟩ := R1.lend pr
  have rd : RpAll (B.kz K) F2 dvs dds := RpAll.of (P_mono (fun _ _ h => h B.z F2) od)
  have RE : Rep K (entry F2 H1 [] R1.zn (vs ++ dvs)) F2 H1 ((vs ++ dvs).map some) (rs.map (fun r => Sx.val r.data) ++ dds.map Sx.val) := by
    have all : Paired (Rp (B.kz K) F2) (vs ++ dvs) (rs.map RS.data ++ dds) := P_app ra.p rd.p
    have e0 : rs.map (fun r => Sx.val r.data) ++ dds.map Sx.val = (rs.map RS.data ++ dds).map Sx.val := by rw [List.map_append, List.map_map]; rfl
    rw [e0]
    have none : ∀ {i : Nat} {p : Option Nat} {c : OC}, ((rs.map RS.data ++ dds).map Sx.val)[i]? ≠ some (.own p c) := fun {i p c} h => by
      rw [List.getElem?_map] at h
      cases q : (rs.map RS.data ++ dds)[i]? with
      | none => rw [q] at h; cases h
      | some d => rw [q] at h; cases h
    refine ⟨e3, by rw [List.length_map, List.length_map, P_len all], fun i s t hs hg => ?_, fun i j a p c q c' h1 => absurd h1 none, fun b o e => ⟨fun _ => e, o, e⟩, Evl.Ex.refl F2, fun b o _ _ => rfl, fun i a p c h1 => absurd h1 none, fun i a p c h1 => absurd h1 none, fun b o e => ⟨o, e⟩, fun a o e => ⟨o, e, .refl o⟩⟩
    rw [List.getElem?_map] at hs hg
    cases q : (rs.map RS.data ++ dds)[i]? with
    | none => rw [q] at hg; cases hg
    | some d =>
      rw [q] at hg
      cases hg
      obtain ⟨v, hv, r⟩ := P_get all q
      rw [hv] at hs
      exact ⟨v, (Option.some.inj hs).symm, r⟩
  refine ⟨by rw [List.length_append, P_len o1, P_len od]; exact h2, F2, [], _, _, _, RE, h3, fun r as' v F3 H3 ⟨hf, hp⟩ R3 ok hk => ?_⟩
  have eH : Ex H1 H3 := fun b o e => (R3.b1 b o e).1 (by simp [entry])
  refine k v F1 H3 γ1 r (R1.grow eH) e1 ?_ hp
  cases r with
  | val d =>
    have ok' : Rp (B.kz K) F3 v d := ok
    show Rp (B.kz K) F1 v d
    cases ok' with
    | non => exact .non
    | bl b => exact .bl b
    | int i => exact .int i
    | str x => exact .str x
    | _ => exact hf.elim
  | own j c => exact hf.elim
  | new c => exact hf.elim
end
section
variable {X : Cx} {B : Bs} {a : Expr} {es : List Expr} {ta : TA} {da : DA} {CX : CXT} {k n : Nat} {f : Addr} {fd : FuncData} {ps : List Str} {fs : FS} {dvs : List V} {ds : List Value} {dds : List D} {E : XK} {x : Str} {p pos : Pos}
theorem x_callD (G : FnOk X.prog X.w X.K X.mg X.base CX k f fd ps (spOf X.K n fs)) (hr : Room k X.A) (hm : X.mg x = some (.ref f)) (hk : PySem.W.keepIn X.K (.ref f) = true) (hb : Binds X.K fd ps ds) (hd : Vals dvs ds) (od : Paired (fun v d => ∀ z F, Rp ⟨X.K, z⟩ F v d) dvs dds) (hx : Passes CX X E) (h : XA X B (a :: es) ta da)
    (hg : Gl X x := by rfl) (hdb : (x == ("__debug__" : Str)) = false := by decide) (he : starEach (a :: es) X.env = (false, eval a X.env) :: starEach es X.env := by rfl) (hpl : (backTo pos (starEach es X.env)).any (·.1) = false := by rfl) :
    XE X B (.Call (.Name x p) (a :: es) [] pos) (tCall (spOf X.K n fs) dvs E ta) (dCall n fs dds da) := ⟨pe_call G hr hg hm hk hb hd hx h.pa hdb he hpl, se_call h.sa od⟩
theorem x_call (G : FnOk X.prog X.w X.K X.mg X.base CX0 k f fd ps (spOf X.K n fs)) (hr : Room k X.A) (hm : X.mg x = some (.ref f)) (hk : PySem.W.keepIn X.K (.ref f) = true) (hb : Binds X.K fd ps []) (h : XA X B (a :: es) ta da)
    (hg : Gl X x := by rfl) (hdb : (x == ("__debug__" : Str)) = false := by decide) (he : starEach (a :: es) X.env = (false, eval a X.env) :: starEach es X.env := by rfl) (hpl : (backTo pos (starEach es X.env)).any (·.1) = false := by rfl) :
    XE X B (.Call (.Name x p) (a :: es) [] pos) (tCall (spOf X.K n fs) [] E0 ta) (dCall n fs [] da) := x_callD G hr hm hk hb .nil .nil pass0 h hg hdb he hpl
theorem x_call0 (G : FnOk X.prog X.w X.K X.mg X.base CX0 k f fd ps (spOf X.K n fs)) (hr : Room k X.A) (hm : X.mg x = some (.ref f)) (hk : PySem.W.keepIn X.K (.ref f) = true) (hb : Binds X.K fd ps []) (hg : Gl X x := by rfl) (hdb : (x == ("__debug__" : Str)) = false := by decide) :
    XE X B (.Call (.Name x p) [] [] pos) (tCall (spOf X.K n fs) [] E0 tNil) (dCall n fs [] dNil) := ⟨pe_call0 G hr hg hm hk hb .nil pass0 hdb, se_call sa_nil .nil⟩
/-- arguments lent -/
theorem x_callB (G : FnOk X.prog X.w X.K X.mg X.base CX0 k f fd ps (spOf X.K n fs)) (hr : Room k X.A) (hm : X.mg x = some (.ref f)) (hk : PySem.W.keepIn X.K (.ref f) = true) (hb : Binds X.K fd ps []) (h : XA X B (a :: es) ta da)
    (hg : Gl X x := by rfl) (hdb : (x == ("__debug__" : Str)) = false := by decide) (he : starEach (a :: es) X.env = (false, eval a X.env) :: starEach es X.env := by rfl) (hpl : (backTo pos (starEach es X.env)).any (·.1) = false := by rfl) :
    XE X B (.Call (.Name x p) (a :: es) [] pos) (tCall (spOf X.K n fs) [] E0 ta) (dCallB n fs [] da) := ⟨pe_call G hr hg hm hk hb .nil pass0 h.pa hdb he hpl, se_callB h.sa .nil⟩
end
/-! ### the law's own promise -/
def fsLaw : FS := fun as p => ∃ ns : List Int, as = [.val (.scr ns)] ∧ ns.length ≤ 63 ∧ ∀ as', p (.val (.bl true)) as'
theorem law_sp {K : PySem.W.Frag} {H : Hp} {a : Addr} {ns : List Int} (hl : ns.length ≤ 63) (hS : SqL K H a (ns.map V.int)) : spOf K 1 fsLaw [.ref a] H (fun v _ => v = .bl true) fun _ _ _ => False := by
  have one : ∀ {i : Nat} {p : Option Nat} {c : OC}, ([Sx.val (.scr ns)] : List Sx)[i]? ≠ some (.own p c) := fun {i p c} h => by
    cases i with
    | zero => simp at h
    | succ i => simp at h
  refine ⟨rfl, H, [], ⟨fun _ => False, fun _ h => h.elim⟩, [.val (.scr ns)], fun r _ => r = .val (.bl true), ?_, ⟨ns, rfl, hl, fun _ => rfl⟩, fun r as' v F' H' hp R ok _ => ?_⟩
  · refine ⟨Evl.Ex.refl H, rfl, fun i s t hs hg => ?_, fun i j a p c q c' h1 => absurd h1 one, fun b o e => ⟨fun _ => e, o, e⟩, Evl.Ex.refl H, fun b o _ _ => rfl, fun i a p c h1 => absurd h1 one, fun i a p c h1 => absurd h1 one, fun b o e => ⟨o, e⟩, fun a o e => ⟨o, e, .refl o⟩⟩
    cases i with
    | zero =>
      simp at hs hg
      subst hg; subst hs
      exact ⟨_, rfl, .scr hS⟩
    | succ i => simp at hg
  · subst hp
    have ok' : Rp ⟨K, fun _ => False⟩ F' v (.bl true) := ok
    cases ok' with
    | bl b => rfl
end DL

set_option Elab.async false
set_option linter.all false
set_option maxRecDepth 100000
set_option maxHeartbeats 2000000
namespace DL
open PySem PySem.Spec PyProof.Rows L2
open Evl (Ex ex_l ex_t)
section
variable {X : Cx} {B : Bs} {x : Str} {pos : Pos}
/-- a built-in class as a value -/
theorem x_bty {n : String} (hm : X.mg x = none) (hg : Gl X x := by rfl) (hv : bootBuiltins x = some (.type n) := by decide +kernel) (hn : x ≠ "__name__" := by decide) (hd : (x == ("__debug__" : Str)) = false := by decide) : XE X B (.Name x pos) (tC (.ty n)) (dC (.ty n)) :=
  ⟨pe_bltn hg hm hv rfl hn hd, se_c fun _ _ => .ty n⟩
/-! list(range(..)) -/
def rgD (a b : Int) : List D := (List.range (b - a).toNat).map fun i => D.int (a + (i : Nat))
theorem rg_rp {K : KZ} {F : Hp} (a b : Int) : RpAll K F (rgV a b) (rgD a b) := by
  unfold rgV rgD
  generalize List.range (b - a).toNat = l
  induction l with
  | nil => exact .nil
  | cons i l ih => exact .cons (.int _) ih
def dLRg1 (da : DE) (γ : Env) (q : RS → Env → Prop) : Prop := da γ fun s γ1 => match s.data with
  | .int n => -1000000 ≤ n ∧ n ≤ 1000000 ∧ q (.new (.lst (rgD 0 n))) γ1
  | _ => False
def dLRg2 (da db : DE) (γ : Env) (q : RS → Env → Prop) : Prop := da γ fun s γ1 => db γ1 fun t γ2 => s.ok γ2 ∧ match s.data, t.data with
  | .int m, .int n => -1000000 ≤ m ∧ m ≤ 1000000 ∧ -1000000 ≤ n ∧ n ≤ 1000000 ∧ q (.new (.lst (rgD m n))) γ2
  | _, _ => False
theorem x_listRg1 {a : Expr} {ta : TE} {da : DE} {p p2 pos2 : Pos} (hc : X.calm = true) (hm : X.mg "list" = none) (hm2 : X.mg "range" = none) (h : XE X B a ta da) (hg : Gl X "list" := by rfl) (hg2 : Gl X "range" := by rfl) (na : starEach [a] X.env = (false, eval a X.env) :: starEach [] X.env := by rfl)
    (nb : starEach [.Call (.Name "range" p2) [a] [] pos2] X.env = (false, eval (.Call (.Name "range" p2) [a] [] pos2) X.env) :: starEach [] X.env := by rfl) : XE X B (.Call (.Name "list" p) [.Call (.Name "range" p2) [a] [] pos2] [] pos) (tLstRg (tRg1 ta)) (dLRg1 da) := ⟨pe_listRg hc hg hm (prg_1 hg2 hm2 h.pe na) nb, fun F H σ γ Q q R hq k => by
  refine h.se F H σ γ _ _ R hq fun v F1 H1 γ1 s R1 e1 o1 h1 => ?_
  split at h1
  · rename_i n es
    have r := o1.rs R1
    rw [es] at r
    obtain ⟨h2, h3, h4⟩ := h1
    refine ⟨n, r.int, ⟨by omega, by omega, by omega, by omega, by omega⟩, fun p hp => ?_⟩
    obtain ⟨R', ok⟩ := R1.newL hp (rg_rp 0 n)
    exact k _ F1 _ γ1 _ R' e1 ok h4
  · exact h1.elim⟩
theorem x_listRg2 {a b : Expr} {ta tb : TE} {da db : DE} {p p2 pos2 : Pos} (hc : X.calm = true) (hm : X.mg "list" = none) (hm2 : X.mg "range" = none) (h : XE X B a ta da) (h' : XE X B b tb db) (hg : Gl X "list" := by rfl) (hg2 : Gl X "range" := by rfl) (na : starEach [a, b] X.env = (false, eval a X.env) :: starEach [b] X.env := by rfl)
    (na2 : starEach [b] X.env = (false, eval b X.env) :: starEach [] X.env := by rfl) (hp : (backTo pos2 (starEach [b] X.env)).any (·.1) = false := by rfl)
    (nb : starEach [.Call (.Name "range" p2) [a, b] [] pos2] X.env = (false, eval (.Call (.Name "range" p2) [a, b] [] pos2) X.env) :: starEach [] X.env := by rfl) : XE X B (.Call (.Name "list" p) [.Call (.Name "range" p2) [a, b] [] pos2] [] pos) (tLstRg (tRg2 ta tb)) (dLRg2 da db) := ⟨pe_listRg hc hg hm (prg_2 hg2 hm2 h.pe h'.pe na na2 hp) nb, fun F H σ γ Q q R hq k => by
  refine h.se F H σ γ _ _ R hq fun v F1 H1 γ1 s R1 e1 o1 h1 => ?_
  obtain ⟨F2, R2, e2, o2⟩ := o1.fz R1
  refine h'.se F2 H1 σ γ1 _ _ R2 h1 fun w F3 H3 γ3 t R3 e3 o3 ⟨h3, h4⟩ => ?_
  split at h4
  · rename_i m n es et
    have rv := (o2.later e3 R3 (fz_ok s γ3 h3) (fz_idem s)).rs R3
    have rw' := o3.rs R3
    rw [RS.fz_data, es] at rv
    rw [et] at rw'
    obtain ⟨h5, h6, h7, h8, h9⟩ := h4
    refine ⟨m, n, rv.int, rw'.int, ⟨by omega, by omega, by omega, by omega, by omega⟩, fun p hp => ?_⟩
    obtain ⟨R', ok⟩ := R3.newL hp (rg_rp m n)
    exact k _ F3 _ γ3 _ R' ((e1.trans e2).trans e3) ok h9
  · exact h4.elim⟩
end

/-! ### the order of keys: numbers, texts, pairs of these -/
def ltV : V → V → Bool
  | .int i, .int j => decide (i < j)
  | .str i, .str j => decide (i.cps.toList < j.cps.toList)
  | _, _ => false
def likeV : V → V → Bool
  | .int _, .int _ => true
  | .str _, .str _ => true
  | _, _ => false
def eqW : V → V → Bool
  | .int i, .int j => decide (i = j)
  | .str i, .str j => decide (i = j)
  | _, _ => false
inductive LtV (K : PySem.W.Frag) (H : Hp) : V → V → Bool → Prop
  | flat {x y : V} : likeV x y = true → LtV K H x y (ltV x y)
  | pair {a b : Addr} {x1 x2 y1 y2 : V} : SqT K H a [x1, x2] → SqT K H b [y1, y2] → likeV x1 y1 = true → likeV x2 y2 = true → LtV K H (.ref a) (.ref b) (if eqW x1 y1 = true then ltV x2 y2 else ltV x1 y1)
def rLtK (K : PySem.W.Frag) : R2 := fun x y H Q => ∃ b, LtV K H x y b ∧ Q (.bl b) H
theorem rc_flat {A : Around} {s : Shared} {x y : V} {u v : Value} (rx : RelV x u) (ry : RelV y v) (h : likeV x y = true) : Ob.RcOp .Lt A s u v (ltV x y) := fun prog w E Q hq => by
  cases x with
  | int i =>
    cases y with
    | int j =>
      obtain ⟨t, rfl⟩ := rx
      obtain ⟨t', rfl⟩ := ry
      exact PyProof.Rows.lt_int hq
    | _ => cases h
  | str i =>
    cases y with
    | str j =>
      obtain ⟨t, rfl⟩ := rx
      obtain ⟨t', rfl⟩ := ry
      exact PyProof.Rows.lt_str (by
        have e : ltV (.str i) (.str j) = decide (i.cps.toList < j.cps.toList) := rfl
        rw [e] at hq
        exact hq)
    | _ => cases h
  | _ => cases h
theorem eq_flat {A : Around} {s : Shared} {x y : V} {u v : Value} (rx : RelV x u) (ry : RelV y v) (h : likeV x y = true) : SeqAt.EqAt A s u v (eqW x y) := by
  cases x with
  | int i =>
    cases y with
    | int j =>
      have q := eqAt_V (A := A) (s := s) rx ry rfl rfl
      have e : eqV (.int i) (.int j) = eqW (.int i) (.int j) := Bool.beq_eq_decide_eq i j
      rw [e] at q
      exact q
    | _ => cases h
  | str i =>
    cases y with
    | str j =>
      have q := eqAt_V (A := A) (s := s) rx ry rfl rfl
      have e : eqV (.str i) (.str j) = eqW (.str i) (.str j) := by
        show (i == j) = decide (i = j)
        by_cases z : i = j
        · subst z; simp
        · rw [decide_eq_false z]; exact beq_eq_false_iff_ne.mpr z
      rw [e] at q
      exact q
    | _ => cases h
  | _ => cases h
theorem op_ltK {X : Cx} (hu : X.A.units < cLine) : OpR X (compareOp .Lt) (rLtK X.K) := by
  intro pins s σ H x y v u Q I rx ry h
  obtain ⟨b, hb, q⟩ := h
  cases hb with
  | flat hl => exact rc_flat rx ry hl X.prog X.w X.xe (EP X pins σ Q) ⟨.bl _, H, I, rfl, q⟩
  | @pair a b x1 x2 y1 y2 ha hb h1 h2 =>
    cases rx
    cases ry
    obtain ⟨its, r1, p1, _⟩ := I.tuple ha
    obtain ⟨its2, r2, p2, _⟩ := I.tuple hb
    cases r1 with
    | cons ra1 ra => cases ra with
      | cons ra2 ra => cases ra with
        | nil => cases r2 with
          | cons rb1 rb => cases rb with
            | cons rb2 rb => cases rb with
              | nil =>
                have R := Ob.RcOp.tuples_lt (A := X.A) (s := s) (e := fun j => if j = 0 then eqW x1 y1 else eqW x2 y2) (r := fun j => if j = 0 then ltV x1 y1 else ltV x2 y2) p1 p2 hu (fun j l1 l2 => by
                  match j, l1, l2 with
                  | 0, _, _ => exact eq_flat ra1 rb1 h1
                  | 1, _, _ => exact eq_flat ra2 rb2 h2
                  | j + 2, l1, _ => exact absurd l1 (by simp)) (fun j l1 l2 _ => by
                  match j, l1, l2 with
                  | 0, _, _ => exact rc_flat ra1 rb1 h1
                  | 1, _, _ => exact rc_flat ra2 rb2 h2
                  | j + 2, l1, _ => exact absurd l1 (by simp))
                refine R X.prog X.w X.xe (EP X pins σ Q) ⟨.bl _, H, I, ?_, q⟩
                have irr : ∀ {x y : V}, eqW x y = true → ltV x y = false := fun {x y} h => by
                  cases x with
                  | int i => cases y with
                    | int j =>
                      have e : i = j := of_decide_eq_true h
                      subst e
                      exact decide_eq_false (Int.lt_irrefl i)
                    | _ => cases h
                  | str i => cases y with
                    | str j =>
                      have e : i = j := of_decide_eq_true h
                      subst e
                      exact decide_eq_false (List.lt_irrefl _)
                    | _ => cases h
                  | _ => cases h
                show Value.bool _ = Value.bool _
                congr 1
                show Ob.lexAt (fun j => if j = 0 then eqW x1 y1 else eqW x2 y2) (fun j => if j = 0 then ltV x1 y1 else ltV x2 y2) (decide (2 < 2)) 0 2 = _
                unfold Ob.lexAt
                by_cases c : eqW x1 y1 = true
                · rw [if_pos (by simpa using c), if_pos c]
                  unfold Ob.lexAt
                  by_cases c2 : eqW x2 y2 = true
                  · rw [if_pos (by simpa using c2), irr c2]
                    rfl
                  · rw [if_neg (by simpa using c2)]
                    rfl
                · rw [if_neg (by simpa using c), if_neg c]
                  rfl
def ltD : D → D → Bool
  | .int i, .int j => decide (i < j)
  | .str i, .str j => decide (i.cps.toList < j.cps.toList)
  | _, _ => false
def likeD : D → D → Bool
  | .int _, .int _ => true
  | .str _, .str _ => true
  | _, _ => false
def eqW' : D → D → Bool
  | .int i, .int j => decide (i = j)
  | .str i, .str j => decide (i = j)
  | _, _ => false
def fLtK : D → D → (RS → Prop) → Prop
  | .int i, .int j, q => q (.val (.bl (decide (i < j))))
  | .str i, .str j, q => q (.val (.bl (decide (i.cps.toList < j.cps.toList))))
  | .tup [a1, a2], .tup [b1, b2], q => likeD a1 b1 = true ∧ likeD a2 b2 = true ∧ q (.val (.bl (if eqW' a1 b1 = true then ltD a2 b2 else ltD a1 b1)))
  | _, _, _ => False
theorem like_rp {K : KZ} {F : Hp} {x y : V} {a b : D} (rx : Rp K F x a) (ry : Rp K F y b) (h : likeD a b = true) : likeV x y = true ∧ ltV x y = ltD a b ∧ eqW x y = eqW' a b := by
  cases rx <;> first | (cases ry <;> first | exact ⟨rfl, rfl, rfl⟩ | cases h) | cases h
theorem od_ltK {K : PySem.W.Frag} : OpD K (rLtK K) fLtK := fun B F H σ γ x y d e Q q R rx ry hf k => by
  unfold fLtK at hf
  split at hf
  · rw [rx.int, ry.int]
    exact ⟨_, .flat rfl, vk R k (.bl _) hf⟩
  · rw [rx.str, ry.str]
    exact ⟨_, .flat rfl, vk R k (.bl _) hf⟩
  · obtain ⟨a, vs, rfl, h1, r1⟩ := rx.tup R.fh
    obtain ⟨b, ws, rfl, h2, r2⟩ := ry.tup R.fh
    cases r1 with
    | cons ra1 r1 => cases r1 with
      | cons ra2 r1 => cases r1 with
        | nil => cases r2 with
          | cons rb1 r2 => cases r2 with
            | cons rb2 r2 => cases r2 with
              | nil =>
                obtain ⟨l1, l2, hq⟩ := hf
                obtain ⟨c1, c2, c3⟩ := like_rp ra1 rb1 l1
                obtain ⟨d1, d2, d3⟩ := like_rp ra2 rb2 l2
                refine ⟨_, .pair h1 h2 c1 d1, ?_⟩
                rw [c3, d2, c2]
                exact vk R k (.bl _) hq
  · exact hf.elim

/-! ### steps -/
/-- what comes later is not looked into -/
def Later (t : DS) (d : DEnds) (γ : Env) : Prop := t d γ
theorem q_seq {s t : DS} {d : DEnds} {γ : Env} (h : s { nx := fun γ1 => Later t d γ1, rt := d.rt, bk := d.bk, ct := d.ct } γ) : dSeq s t d γ := h
theorem q_later {t : DS} {d : DEnds} {γ : Env} (h : t d γ) : Later t d γ := h
abbrev fAdd : D → D → (RS → Prop) → Prop := fI0 fun i j => .int (i + j)
abbrev fSub : D → D → (RS → Prop) → Prop := fI0 fun i j => .int (i - j)
abbrev fMul : D → D → (RS → Prop) → Prop := fI CMul fun i j => .int (i * j)
abbrev fDiv : D → D → (RS → Prop) → Prop := fI CDiv fun i j => .int (i / j)
abbrev fMod : D → D → (RS → Prop) → Prop := fI (fun _ j => 0 < j) fun i j => .int (i % j)
abbrev fMulW : D → D → (RS → Prop) → Prop := fI CMulW fun i j => .int (i * j)
abbrev fDivW : D → D → (RS → Prop) → Prop := fI CDivW fun i j => .int (i / j)
abbrev fPow : D → D → (RS → Prop) → Prop := fI CPow fun i j => .int (i ^ j.toNat)
abbrev fShl : D → D → (RS → Prop) → Prop := fI CPow fun i j => .int (i * 2 ^ j.toNat)
abbrev fShr : D → D → (RS → Prop) → Prop := fI (fun _ j => 0 ≤ j) fun i j => .int (i / 2 ^ j.toNat)
abbrev fLt : D → D → (RS → Prop) → Prop := fI0 fun i j => .bl (decide (i < j))
abbrev fLe : D → D → (RS → Prop) → Prop := fI0 fun i j => .bl (decide (i ≤ j))
abbrev fGt : D → D → (RS → Prop) → Prop := fI0 fun i j => .bl (decide (j < i))
abbrev fGe : D → D → (RS → Prop) → Prop := fI0 fun i j => .bl (decide (j ≤ i))
abbrev fAnd : D → D → (RS → Prop) → Prop := fI0 fun i j => .int (Builtin.bitAnd i j)
abbrev fOr : D → D → (RS → Prop) → Prop := fI0 fun i j => .int (Builtin.bitOr i j)
abbrev fXor : D → D → (RS → Prop) → Prop := fI0 fun i j => .int (Builtin.bitXor i j)
abbrev fNeg : D → (RS → Prop) → Prop := fU fun i => .int (-i)
abbrev fMax2 : List D → (RS → Prop) → Prop := fI2 fun i j => if j > i then j else i
abbrev fMin2 : List D → (RS → Prop) → Prop := fI2 fun i j => if j < i then j else i
end DL

set_option Elab.async false
set_option linter.all false
set_option maxRecDepth 100000
set_option maxHeartbeats 2000000
namespace DL
open PySem PySem.Spec PyProof.Rows L2
/-! ### == of the data that laws hold against one another -/
/-- data of depth n at most -/
def dOkN (n : Nat) (d : D) : Bool := d.pure && d.py.canLay0 && decide (d.py.depth ≤ n)
theorem dOk_of {n : Nat} {d : D} (h : dOkN n d = true) (hn : n ≤ 64) : dOk d = true := by
  unfold dOkN at h
  simp only [Bool.and_eq_true, decide_eq_true_eq] at h
  unfold dOk SeqAt.shaped
  simp only [Bool.and_eq_true, decide_eq_true_eq]
  exact ⟨h.1.1, h.1.2, Nat.le_trans h.2 hn⟩
theorem all_ok {α : Type} {f : α → D} {n : Nat} : ∀ {xs : List α}, (∀ x ∈ xs, dOkN n (f x) = true) → pureAll (xs.map f) = true ∧ PyData.canLayAll0 (pyAll (xs.map f)) = true ∧ PyData.depthAll (pyAll (xs.map f)) ≤ n
  | [], _ => ⟨rfl, rfl, Nat.zero_le _⟩
  | x :: xs, h => by
    have h1 := h x List.mem_cons_self
    obtain ⟨a, b, c⟩ := all_ok (xs := xs) fun y hy => h y (List.mem_cons_of_mem _ hy)
    unfold dOkN at h1
    simp only [Bool.and_eq_true, decide_eq_true_eq] at h1
    refine ⟨?_, ?_, ?_⟩
    · rw [List.map_cons, pureAll, h1.1.1, a]; rfl
    · rw [List.map_cons, pyAll, PyData.canLayAll0, h1.1.2, b]; rfl
    · rw [List.map_cons, pyAll, PyData.depthAll]
      exact Nat.max_le.mpr ⟨h1.2, c⟩
theorem ok_lst {α : Type} {f : α → D} {n : Nat} {xs : List α} (h : ∀ x ∈ xs, dOkN n (f x) = true) : dOkN (n + 1) (.lst (xs.map f)) = true := by
  obtain ⟨a, b, c⟩ := all_ok h
  unfold dOkN
  simp only [D.pure, D.py, PyData.canLay0, PyData.depth, a, b, Bool.true_and, decide_eq_true_eq]
  omega
theorem ok_tup {α : Type} {f : α → D} {n : Nat} {xs : List α} (h : ∀ x ∈ xs, dOkN n (f x) = true) : dOkN (n + 1) (.tup (xs.map f)) = true := by
  obtain ⟨a, b, c⟩ := all_ok h
  unfold dOkN
  simp only [D.pure, D.py, PyData.canLay0, PyData.depth, a, b, Bool.true_and, decide_eq_true_eq]
  omega
theorem ok_int (i : Int) : dOkN 0 (.int i) = true := by
  unfold dOkN
  simp only [D.pure, D.py, PyData.canLay0, PyData.depth, Bool.true_and, decide_eq_true_eq]
  omega
theorem ok_mono {n m : Nat} {d : D} (h : dOkN n d = true) (l : n ≤ m) : dOkN m d = true := by
  unfold dOkN at h ⊢
  simp only [Bool.and_eq_true, decide_eq_true_eq] at h ⊢
  exact ⟨h.1, Nat.le_trans h.2 l⟩
theorem dOk_ints (ns : List Int) : dOk (.lst (ns.map D.int)) = true := dOk_of (ok_lst fun x _ => ok_int x) (by decide)
theorem dOk_nil : dOk (.lst []) = true := dOk_ints []
theorem dOk_int (i : Int) : dOk (.int i) = true := dOk_of (ok_int i) (by decide)
/-- == decides what f tells apart -/
def EqF {α : Type} [DecidableEq α] (f : α → D) (S : α → Prop) : Prop := ∀ x y, S x → S y → deq (f x) (f y) = decide (x = y)
theorem eqv_all {α : Type} [DecidableEq α] {f : α → D} {S : α → Prop} (h : EqF f S) : ∀ {xs ys : List α}, (∀ x ∈ xs, S x) → (∀ y ∈ ys, S y) → PyData.eqvAll (pyAll (xs.map f)) (pyAll (ys.map f)) = decide (xs = ys)
  | [], [], _, _ => by simp [pyAll, PyData.eqvAll]
  | [], _ :: _, _, _ => by simp [pyAll, PyData.eqvAll]
  | _ :: _, [], _, _ => by simp [pyAll, PyData.eqvAll]
  | x :: xs, y :: ys, hx, hy => by
    have h1 : PyData.eqv (f x).py (f y).py = decide (x = y) := h x y (hx x List.mem_cons_self) (hy y List.mem_cons_self)
    have h2 := eqv_all h (xs := xs) (ys := ys) (fun z hz => hx z (List.mem_cons_of_mem _ hz)) fun z hz => hy z (List.mem_cons_of_mem _ hz)
    rw [List.map_cons, List.map_cons, pyAll, pyAll, PyData.eqvAll, h1, h2]
    by_cases c : x = y
    · by_cases c2 : xs = ys
      · simp [c, c2]
      · simp [c, c2]
    · simp [c]
theorem deq_lst {α : Type} [DecidableEq α] {f : α → D} {S : α → Prop} (h : EqF f S) {xs ys : List α} (hx : ∀ x ∈ xs, S x) (hy : ∀ y ∈ ys, S y) : deq (.lst (xs.map f)) (.lst (ys.map f)) = decide (xs = ys) := by
  unfold deq
  simp only [D.py, PyData.eqv]
  exact eqv_all h hx hy
theorem deq_tup {α : Type} [DecidableEq α] {f : α → D} {S : α → Prop} (h : EqF f S) {xs ys : List α} (hx : ∀ x ∈ xs, S x) (hy : ∀ y ∈ ys, S y) : deq (.tup (xs.map f)) (.tup (ys.map f)) = decide (xs = ys) := by
  unfold deq
  simp only [D.py, PyData.eqv]
  exact eqv_all h hx hy
theorem eqF_int : EqF D.int (fun _ => True) := fun x y _ _ => by
  unfold deq
  simp only [D.py, PyData.eqv]
  exact Bool.beq_eq_decide_eq x y
theorem deq_ints (ns ms : List Int) : deq (.lst (ns.map D.int)) (.lst (ms.map D.int)) = decide (ns = ms) := deq_lst eqF_int (fun _ _ => trivial) fun _ _ => trivial
theorem deq_ints_nil (ns : List Int) : deq (.lst (ns.map D.int)) (.lst []) = decide (ns = []) := deq_ints ns []
theorem deq_refl_of {α : Type} [DecidableEq α] {f : α → D} {S : α → Prop} (h : EqF f S) {x : α} (hx : S x) : deq (f x) (f x) = true := by rw [h x x hx hx]; simp
/-! ### small facts -/
theorem atI_nil {α : Type} {i : Int} : atI ([] : List α) i = none := by
  unfold atI ixN
  simp
theorem atI_ofNat {α : Type} {xs : List α} {i : Nat} (h : i < xs.length) : atI xs (i : Int) = some xs[i] := atI_nat (List.getElem?_eq_getElem h)
theorem atI_zero {α : Type} {x : α} {xs : List α} : atI (x :: xs) 0 = some x := atI_nat (j := 0) rfl
theorem ixN_of {n j : Nat} (h : j < n) : ixN n (j : Int) = some j := by
  unfold ixN
  rw [if_pos (by omega), if_pos (by omega)]
  simp
theorem ixN_zero {n : Nat} (h : 0 < n) : ixN n 0 = some 0 := ixN_of h
theorem seqIx_zero {n : Nat} (h : 0 < n) : seqIndex? 0 n = some 0 := by
  unfold seqIndex?
  simp
  omega
theorem own_ex {p : Option Nat} {c : OC} : (∃ q, Sx.own p c = Sx.own q c) = True := eq_true ⟨p, rfl⟩
end DL

set_option Elab.async false
set_option linter.all false
set_option maxRecDepth 100000
set_option maxHeartbeats 2000000
namespace DL
open PySem PySem.Spec PyProof.Rows L2
open Evl (Ex ex_l ex_t)
/-! ### newer than a line -/
/-- a new thing is told to be new -/
def dFr (de : DE) (γ : Env) (q : RS → Env → Prop) : Prop := de γ fun s γ1 => match s with
  | .new c => q (.val (.fr c.data)) γ1
  | _ => False
/-- and that is forgotten -/
def dSt (de : DE) (γ : Env) (q : RS → Env → Prop) : Prop := de γ fun s γ1 => match s with
  | .val (.fr d) => q (.val d) γ1
  | .val d => q (.val d) γ1
  | .new c => q (.new c) γ1
  | .own _ _ => False
theorem se_fr {K : PySem.W.Frag} {B : Bs} {te : TE} {de : DE} (h : SE K B te de) : SE K B te (dFr de) := fun F H σ γ Q q R hq k => by
  refine h F H σ γ _ _ R hq fun v F1 H1 γ1 s R1 e1 o1 h1 => ?_
  cases s with
  | val d => exact h1.elim
  | own j c => exact h1.elim
  | new c =>
    obtain ⟨F2, R2, e2, o2⟩ := o1.fz R1
    obtain ⟨a, rfl, N⟩ := o1
    have nz : ¬ B.z a := fun z => by
      obtain ⟨o, e⟩ := B.zn a z
      rw [N.bn] at e
      cases e
    exact k _ F2 H1 γ1 (.val (.fr c.data)) R2 (e1.trans e2) (Rp.fr nz o2) h1
theorem se_st {K : PySem.W.Frag} {B : Bs} {te : TE} {de : DE} (h : SE K B te de) : SE K B te (dSt de) := fun F H σ γ Q q R hq k => by
  refine h F H σ γ _ _ R hq fun v F1 H1 γ1 s R1 e1 o1 h1 => ?_
  cases s with
  | val d =>
    cases d with
    | fr d =>
      have o1' : Rp (B.kz K) F1 v (.fr d) := o1
      cases o1' with
      | fr n r => exact k _ F1 H1 γ1 (.val d) R1 e1 r h1
    | _ => exact k _ F1 H1 γ1 _ R1 e1 o1 h1
  | own j c => exact h1.elim
  | new c => exact k _ F1 H1 γ1 _ R1 e1 o1 h1
theorem x_fr {X : Cx} {B : Bs} {e : Expr} {te : TE} {de : DE} (h : XE X B e te de) : XE X B e te (dFr de) := ⟨h.pe, se_fr h.se⟩
theorem x_st {X : Cx} {B : Bs} {e : Expr} {te : TE} {de : DE} (h : XE X B e te de) : XE X B e te (dSt de) := ⟨h.pe, se_st h.se⟩
/-- a tuple target in a comprehension -/
theorem g_tupC {X : Cx} {B : Bs} {es : List Expr} {k n : Nat} {pos : Pos} {gs : TGs} {dgs : DGs} {ix : List Nat} (K : PySem.W.Frag) (hK : X.K = K) (hc : X.calm = true) (h : XGs X B es gs dgs ix) (hn : (assignEach es X.env).length = n := by rfl) (hst : (assignEach es X.env).findIdx? (·.1) = none := by rfl) : XG X B (.Tuple es k pos) (gTup K n gs) (gT n dgs) ix := by
  have g := g_tup hc h hn hst (k := k) (pos := pos)
  rw [hK] at g
  exact g
/-- a call in a comprehension -/
theorem x_callC {X : Cx} {B : Bs} {a : Expr} {es : List Expr} {ta : TA} {da : DA} {k n : Nat} {f : Addr} {fd : FuncData} {ps : List Str} {fs : FS} {x : Str} {p pos : Pos} (K : PySem.W.Frag) (hK : X.K = K) (G : FnOk X.prog X.w X.K X.mg X.base CX0 k f fd ps (spOf X.K n fs)) (hr : Room k X.A) (hm : X.mg x = some (.ref f)) (hk : PySem.W.keepIn X.K (.ref f) = true) (hb : Binds X.K fd ps []) (h : XA X B (a :: es) ta da)
    (hg : Gl X x := by rfl) (hdb : (x == ("__debug__" : Str)) = false := by decide) (he : starEach (a :: es) X.env = (false, eval a X.env) :: starEach es X.env := by rfl) (hpl : (backTo pos (starEach es X.env)).any (·.1) = false := by rfl) :
    XE X B (.Call (.Name x p) (a :: es) [] pos) (tCall (spOf K n fs) [] E0 ta) (dCall n fs [] da) := by
  have g := x_call (p := p) (pos := pos) G hr hm hk hb h hg hdb he hpl
  rw [hK] at g
  exact g
mutual
/-- no mark of newness in it -/
def D.nofr : D → Bool
  | .fr _ => false
  | .lst xs => nofrAll xs | .tup xs => nofrAll xs | .obj _ fs => nofrF fs | .dct ks => nofrK ks
  | _ => true
def nofrAll : List D → Bool
  | [] => true
  | x :: xs => x.nofr && nofrAll xs
def nofrF : List (Str × D) → Bool
  | [] => true
  | (_, x) :: xs => x.nofr && nofrF xs
def nofrK : List (Key × D) → Bool
  | [] => true
  | (_, x) :: xs => x.nofr && nofrK xs
end
section
variable {K : PySem.W.Frag} {B : Bs} {z z' : Addr → Prop} {F : Hp}
mutual
theorem Rp.line : ∀ {v : V} {d : D}, Rp ⟨K, z⟩ F v d → d.nofr = true → Rp ⟨K, z'⟩ F v d
  | _, _, .non, _ => .non
  | _, _, .bl b, _ => .bl b
  | _, _, .int b, _ => .int b
  | _, _, .str b, _ => .str b
  | _, _, .ref b, _ => .ref b
  | _, _, .ty b, _ => .ty b
  | _, _, .kls b, _ => .kls b
  | _, _, .lst h a, n => .lst h (RpAll.line a n)
  | _, _, .scr h, _ => .scr h
  | _, _, .tup h a, n => .tup h (RpAll.line a n)
  | _, _, .obj h1 h2 a, n => .obj h1 h2 (RpFs.line a n)
  | _, _, .dct h1 a, n => .dct h1 (RpKs.line a n)
theorem RpAll.line : ∀ {v : List V} {d : List D}, RpAll ⟨K, z⟩ F v d → nofrAll d = true → RpAll ⟨K, z'⟩ F v d
  | _, _, .nil, _ => .nil
  | _, _, .cons h t, n => .cons (Rp.line h (Bool.and_eq_true_iff.mp n).1) (RpAll.line t (Bool.and_eq_true_iff.mp n).2)
theorem RpFs.line : ∀ {v : List (Str × V)} {d : List (Str × D)}, RpFs ⟨K, z⟩ F v d → nofrF d = true → RpFs ⟨K, z'⟩ F v d
  | _, _, .nil, _ => .nil
  | _, _, .cons h t, n => .cons (Rp.line h (Bool.and_eq_true_iff.mp n).1) (RpFs.line t (Bool.and_eq_true_iff.mp n).2)
theorem RpKs.line : ∀ {v : List (Key × V)} {d : List (Key × D)}, RpKs ⟨K, z⟩ F v d → nofrK d = true → RpKs ⟨K, z'⟩ F v d
  | _, _, .nil, _ => .nil
  | _, _, .cons h t, n => .cons (Rp.line h (Bool.and_eq_true_iff.mp n).1) (RpKs.line t (Bool.and_eq_true_iff.mp n).2)
end
end
def flatAll : List D → Prop
  | [] => True
  | x :: xs => flatD x ∧ flatAll xs
theorem flat_rp {K K' : KZ} {F F' : Hp} : ∀ {vs : List V} {ds : List D}, RpAll K F vs ds → flatAll ds → RpAll K' F' vs ds
  | _, _, .nil, _ => .nil
  | _, _, .cons h t, ⟨a, b⟩ => .cons (by
    cases h with
    | non => exact .non
    | bl b => exact .bl b
    | int i => exact .int i
    | str x => exact .str x
    | _ => exact a.elim) (flat_rp t b)
theorem flat_ints : ∀ ns : List Int, flatAll (ns.map D.int)
  | [] => trivial
  | _ :: ns => ⟨trivial, flat_ints ns⟩
/-- f(..) behind a line: a list of flat things that is newer is the caller's -/
def meltR : RS → (List D → Prop) → Prop
  | .val (.fr (.lst ds)), q => q ds
  | .new (.lst ds), q => q ds
  | _, _ => False
def dCallZ (n : Nat) (fs : FS) (da : DA) (γ : Env) (q : RS → Env → Prop) : Prop := da γ fun rs γ1 => allV rs ∧ rs.length = n ∧ nofrAll (rs.map RS.data) = true ∧ fs ((rs.map RS.data).map Sx.val) fun r _ => meltR r fun ds => flatAll ds ∧ q (.new (.lst ds)) γ1
theorem se_callZ {K : PySem.W.Frag} {B : Bs} {n : Nat} {fs : FS} {E : XK} {ta : TA} {da : DA} (h : SA K B ta da) : SE K B (tCall (spOf K n fs) [] E ta) (dCallZ n fs da) := fun F H σ γ Q q R hq k => by
  refine h F H σ γ _ _ R hq fun vs F1 H1 γ1 rs R1 e1 o1 ⟨h0, h2, hn, h3⟩ => ?_
  have ra := allV_rp o1 h0
  let Z : ZN H1 := ⟨fun a => ∃ o, H1 a = some o, fun _ h => h⟩
  have ra' : RpAll ⟨K, Z.1⟩ F1 vs (rs.map RS.data) := ra.line hn
  have RE : Rep K (entry F1 H1 [] Z (vs ++ [])) F1 H1 ((vs ++ []).map some) ((rs.map RS.data).map Sx.val) := by
    have none : ∀ {i : Nat} {p : Option Nat} {c : OC}, ((rs.map RS.data).map Sx.val)[i]? ≠ some (.own p c) := fun {i p c} h => by
      rw [List.getElem?_map] at h
      cases q : (rs.map RS.data)[i]? with
      | none => rw [q] at h; cases h
      | some d => rw [q] at h; cases h
    rw [List.append_nil]
    refine ⟨R1.fh, by rw [List.length_map, List.length_map, P_len ra'.p], fun i s t hs hg => ?_, fun i j a p c q c' h1 => absurd h1 none, fun b o e => ⟨fun _ => e, o, e⟩, Evl.Ex.refl F1, fun b o _ _ => rfl, fun i a p c h1 => absurd h1 none, fun i a p c h1 => absurd h1 none, fun b o e => ⟨o, e⟩, fun a o e => ⟨o, e, .refl o⟩⟩
    rw [List.getElem?_map] at hs hg
    cases q : (rs.map RS.data)[i]? with
    | none => rw [q] at hg; cases hg
    | some d =>
      rw [q] at hg
      cases hg
      obtain ⟨v, hv, r⟩ := P_get ra'.p q
      rw [hv] at hs
      exact ⟨v, (Option.some.inj hs).symm, r⟩
  refine ⟨by rw [List.append_nil, P_len o1]; exact h2, F1, [], Z, _, _, RE, h3, fun r as' v F3 H3 hp R3 ok hk => ?_⟩
  have eH : Ex H1 H3 := fun b o e => (R3.b1 b o e).1 (by simp [entry])
  have fin : ∀ {a : Addr} {ws : List V} {ds : List D} {K' : KZ} {F' : Hp}, H1 a = none → H3 a = some (.lst ws) → RpAll K' F' ws ds → flatAll ds → v = .ref a → q (.new (.lst ds)) γ1 → Q v H3 := fun {a ws ds K' F'} ha hl hr hf hv hq => by
    obtain ⟨f1, f2, f3, f4⟩ := R1.fresh ha
    exact k v F1 H3 γ1 (.new (.lst ds)) (R1.grow eH) e1 ⟨a, hv, f1, ⟨ws, hl, flat_rp hr hf⟩, f3, .inr f2, f4⟩ hq
  have nz : ∀ {a : Addr}, ¬ Z.1 a → H1 a = none := fun {a} h => by
    cases e : H1 a with
    | none => rfl
    | some o => exact absurd ⟨o, e⟩ h
  unfold meltR at hp
  split at hp
  · rename_i ds
    have ok' : Rp ⟨K, Z.1⟩ F3 v (.fr (.lst ds)) := ok
    cases ok' with
    | fr nzr r => cases r with
      | lst hl hr => exact fin (nz nzr) (R3.fh _ _ hl) hr hp.1 rfl hp.2
  · rename_i ds
    obtain ⟨a, ea, N⟩ := ok
    obtain ⟨ws, hl, hr⟩ := N.ok
    exact fin N.bn hl hr hp.1 ea hp.2
  · exact hp.elim
section
variable {X : Cx} {B : Bs} {a : Expr} {es : List Expr} {ta : TA} {da : DA} {k n : Nat} {f : Addr} {fd : FuncData} {ps : List Str} {fs : FS} {x : Str} {p pos : Pos}
theorem x_callZ (G : FnOk X.prog X.w X.K X.mg X.base CX0 k f fd ps (spOf X.K n fs)) (hr : Room k X.A) (hm : X.mg x = some (.ref f)) (hk : PySem.W.keepIn X.K (.ref f) = true) (hb : Binds X.K fd ps []) (h : XA X B (a :: es) ta da)
    (hg : Gl X x := by rfl) (hdb : (x == ("__debug__" : Str)) = false := by decide) (he : starEach (a :: es) X.env = (false, eval a X.env) :: starEach es X.env := by rfl) (hpl : (backTo pos (starEach es X.env)).any (·.1) = false := by rfl) :
    XE X B (.Call (.Name x p) (a :: es) [] pos) (tCall (spOf X.K n fs) [] E0 ta) (dCallZ n fs da) := ⟨pe_call G hr hg hm hk hb .nil pass0 h.pa hdb he hpl, se_callZ h.sa⟩
end
/-! ### small facts for simp -/
theorem ixN_s0 {n : Nat} : ixN (n + 1) 0 = some 0 := ixN_zero (Nat.succ_pos n)
theorem seqIx_s0 {n : Nat} : seqIndex? 0 (n + 1) = some 0 := seqIx_zero (Nat.succ_pos n)
theorem divW {i j : Int} (h : 0 < j) (h2 : j < 2 ^ 40) : CDivW i j := by
  refine ⟨h, Nat.lt_trans ((Nat.log2_lt (by omega)).mpr (show j.natAbs < 2 ^ 40 by omega)) (by decide)⟩
/-! ### loops, their bodies unread -/
def LcOk (n : Nat) (y : Nat → D → Prop) (γ1 : Env) (dg : DG) (dt : DT) (de : DE) (vs : List Nat) (q : RS → Env → Prop) : Prop := n ≤ 1000000 ∧ ∃ I : Nat → List D → Env → Prop, I 0 [] (wipeG γ1 vs) ∧
  (∀ i acc γ2, i < n → I i acc γ2 → ∀ x, y i x → dg x γ2 fun γ3 => dt γ3 fun b γ4 => (b = true → de γ4 fun s γ5 => s.kept ∧ I (i + 1) (acc ++ [s.data]) (wipeG γ5 vs)) ∧ (b = false → I (i + 1) acc (wipeG γ4 vs))) ∧
  ∀ acc γ2, I n acc γ2 → q (.new (.lst acc)) (restore γ1 γ2 vs)
theorem dLc_eq {di : DI} {dg : DG} {dt : DT} {de : DE} {vs : List Nat} {γ : Env} {q : RS → Env → Prop} : dLc di dg dt de vs γ q = di γ fun n y γ1 => LcOk n y γ1 dg dt de vs q := rfl
theorem lc_ok {n : Nat} {y : Nat → D → Prop} {γ1 : Env} {dg : DG} {dt : DT} {de : DE} {vs : List Nat} {q : RS → Env → Prop} (hn : n ≤ 1000000) (I : Nat → List D → Env → Prop) (h0 : I 0 [] (wipeG γ1 vs))
    (hs : ∀ i acc γ2, i < n → I i acc γ2 → ∀ x, y i x → dg x γ2 fun γ3 => dt γ3 fun b γ4 => (b = true → de γ4 fun s γ5 => s.kept ∧ I (i + 1) (acc ++ [s.data]) (wipeG γ5 vs)) ∧ (b = false → I (i + 1) acc (wipeG γ4 vs)))
    (hf : ∀ acc γ2, I n acc γ2 → q (.new (.lst acc)) (restore γ1 γ2 vs)) : LcOk n y γ1 dg dt de vs q := ⟨hn, I, h0, hs, hf⟩
/-- every turn tells f i -/
theorem lc_map {n : Nat} {y : Nat → D → Prop} {γ1 : Env} {dg : DG} {dt : DT} {de : DE} {vs : List Nat} {q : RS → Env → Prop} (hn : n ≤ 1000000) (f : Nat → D) (G : Env)
    (h0 : wipeG γ1 vs = G) (hs : ∀ i x, i < n → y i x → dg x G fun γ3 => dt γ3 fun b γ4 => b = true ∧ de γ4 fun s γ5 => s.kept ∧ s.data = f i ∧ wipeG γ5 vs = G) (mg : ∀ {x γ a b}, (∀ γ3, a γ3 → b γ3) → dg x γ a → dg x γ b) (mt : ∀ {γ} {a b : Bool → Env → Prop}, (∀ u v, a u v → b u v) → dt γ a → dt γ b) (me : ∀ {γ} {a b : RS → Env → Prop}, (∀ u v, a u v → b u v) → de γ a → de γ b)
    (hf : q (.new (.lst ((List.range n).map f))) (restore γ1 G vs)) : LcOk n y γ1 dg dt de vs q :=
  lc_ok hn (fun i acc γ => acc = (List.range i).map f ∧ γ = G) ⟨rfl, h0⟩ (fun i acc γ hi ⟨e1, e2⟩ x hx => by
    subst e1; subst e2
    refine mg (fun γ3 => mt fun b γ4 ⟨hb, h⟩ => ⟨fun _ => me (fun s γ5 ⟨k1, k2, k3⟩ => ⟨k1, ?_, k3⟩) h, fun z => by rw [hb] at z; cases z⟩) (hs i x hi hx)
    rw [List.range_succ, List.map_append, k2]
    rfl) fun acc γ ⟨e1, e2⟩ => by subst e1; subst e2; exact hf
def ForOk (n : Nat) (y : Nat → D → Prop) (γ1 : Env) (dg : DG) (db : DS) (d : DEnds) : Prop := ∃ I : Nat → Env → Prop, I 0 γ1 ∧
  (∀ i γ2, i < n → I i γ2 → ∀ x, y i x → dg x γ2 fun γ3 => db { nx := I (i + 1), ct := I (i + 1), bk := d.nx, rt := d.rt } γ3) ∧ ∀ γ2, I n γ2 → d.nx γ2
theorem dFor_eq {di : DI} {dg : DG} {db : DS} {d : DEnds} {γ : Env} : dFor di dg db d γ = di γ fun n y γ1 => ForOk n y γ1 dg db d := rfl
theorem for_ok {n : Nat} {y : Nat → D → Prop} {γ1 : Env} {dg : DG} {db : DS} {d : DEnds} (I : Nat → Env → Prop) (h0 : I 0 γ1)
    (hs : ∀ i γ2, i < n → I i γ2 → ∀ x, y i x → dg x γ2 fun γ3 => db { nx := I (i + 1), ct := I (i + 1), bk := d.nx, rt := d.rt } γ3) (hf : ∀ γ2, I n γ2 → d.nx γ2) : ForOk n y γ1 dg db d := ⟨I, h0, hs, hf⟩
def WhileOk (γ : Env) (dt : DT) (db : DS) (d : DEnds) : Prop := ∃ I : Nat → Env → Prop, (∃ m, I m γ) ∧ ∀ m γ2, I m γ2 → dt γ2 fun b γ3 =>
  (b = true → db { nx := fun γ4 => ∃ m', m' < m ∧ I m' γ4, ct := fun γ4 => ∃ m', m' < m ∧ I m' γ4, bk := d.nx, rt := d.rt } γ3) ∧ (b = false → d.nx γ3)
theorem dWhile_eq {dt : DT} {db : DS} {d : DEnds} {γ : Env} : dWhile dt db d γ = WhileOk γ dt db d := rfl
theorem while_ok {dt : DT} {db : DS} {d : DEnds} {γ : Env} (I : Nat → Env → Prop) (m : Nat) (h0 : I m γ) (hs : ∀ m γ2, I m γ2 → dt γ2 fun b γ3 =>
    (b = true → db { nx := fun γ4 => ∃ m', m' < m ∧ I m' γ4, ct := fun γ4 => ∃ m', m' < m ∧ I m' γ4, bk := d.nx, rt := d.rt } γ3) ∧ (b = false → d.nx γ3)) : WhileOk γ dt db d := ⟨I, ⟨m, h0⟩, hs⟩
theorem rg_snoc {α : Type} {f : Nat → α} {i : Nat} {x : α} : (List.range i).map f ++ [x] = (List.range (i + 1)).map f ↔ x = f i := by
  rw [List.range_succ, List.map_append]
  simp
theorem cut_to {α : Type} {xs : List α} {k : Int} (h : 0 ≤ k) : cut xs none (some k) = xs.take k.toNat := by
  unfold cut
  rw [HT.sIx_none, show k = ((k.toNat : Nat) : Int) by omega, HT.sIx_nat, List.drop_zero, Nat.sub_zero, Int.toNat_natCast, List.take_eq_take_iff]
  omega
theorem cut_from {α : Type} {xs : List α} {k : Int} (h : 0 ≤ k) : cut xs (some k) none = xs.drop k.toNat := by
  unfold cut
  rw [HT.sIx_none, show k = ((k.toNat : Nat) : Int) by omega, HT.sIx_nat, Int.toNat_natCast]
  by_cases c : k.toNat ≤ xs.length
  · rw [Nat.min_eq_left c, List.take_of_length_le (by rw [List.length_drop]; omega)]
  · rw [Nat.min_eq_right (by omega), List.drop_of_length_le (Nat.le_refl _), List.drop_of_length_le (by omega), List.take_nil]
theorem map_snoc {α β : Type} {f : α → β} {xs : List α} {x : α} : xs.map f ++ [f x] = (xs ++ [x]).map f := by simp
end DL

set_option Elab.async false
set_option linter.all false
set_option maxRecDepth 100000
set_option maxHeartbeats 2000000
namespace DL
open PySem PySem.Spec PyProof.Rows L2
open Evl (Ex ex_l ex_t)
/-! ### what is raised: the class by its name, the fields -/
abbrev Xf := Option (List (Str × D))
abbrev DX := Nat → Xf → Env → Prop
abbrev FSX := List Sx → (RS → List Sx → Prop) → (Nat → Xf → List Sx → Prop) → Prop
def XdOk (K : PySem.W.Frag) (B : Bs) (F : Hp) : Option Addr → Xf → Prop
  | none, none => True
  | some d, some l => ∃ fv, F d = some (.xd fv) ∧ RpFs (B.kz K) F fv l
  | _, _ => False
theorem XdOk.mono {K : PySem.W.Frag} {B : Bs} {F F' : Hp} {dd : Option Addr} {fs : Xf} (h : XdOk K B F dd fs) (e : Ex F F') : XdOk K B F' dd fs := by
  unfold XdOk at h ⊢
  split at h
  · trivial
  · obtain ⟨fv, h1, h2⟩ := h
    exact ⟨fv, e _ _ h1, h2.mono e⟩
  · exact h.elim
def XOk (K : PySem.W.Frag) (ct : Nat → Addr) (B : Bs) (W : WX) (xc : DX) : Prop := ∀ F' H' σ' γ' nm dd fs, Rep K B F' H' σ' γ' → XdOk K B F' dd fs → xc nm fs γ' → W (.ref (ct nm)) dd σ' H'
def spOfX (K : PySem.W.Frag) (ct : Nat → Addr) (n : Nat) (fs : FSX) : Sp := fun vs H Q E => vs.length = n ∧ ∃ F m, ∃ z : ZN H, ∃ as p x, Rep K (entry F H m z vs) F H (vs.map some) as ∧ fs as p x ∧
  (∀ r as' v F' H', p r as' → Rep K (entry F H m z vs) F' H' (vs.map some) as' → RsOk K (entry F H m z vs) F' H' (vs.map some) as' v r → r.kept → Q v H') ∧
  ∀ nm xs dd as' F' H', x nm xs as' → Rep K (entry F H m z vs) F' H' (vs.map some) as' → XdOk K (entry F H m z vs) F' dd xs → E (.ref (ct nm)) dd H'
def xcOf (as : List Sx) (x : Nat → Xf → List Sx → Prop) : DX := fun nm xs γ => OutP as γ fun zs => x nm xs zs
section
variable {P : Program} {w : World} {K : PySem.W.Frag} {mg : Str → Option Value} {base : Heap} {ct : Nat → Addr}
theorem fn_cx {x qual : Str} {st : Stmt} {f : Addr} {fd : FuncData} {N ps : List Str} {k : Nat} {sp : Sp} (F : Fun K x qual st f fd) (S : FnScope N ps (defScope st)) (len : ∀ vs H Q E, sp vs H Q E → vs.length = ps.length)
    (body : ∀ (cd : Value) (A : Around) (o : List PySem.Env) (s : Shared) (H : Hp) (vs : List V) (Q : VK) (E : XK), Room k (A.deeper (envOfC qual (defScope st) s.heap.objs.size f cd)) → sp vs H Q E →
      ∃ t, PSs (cxOf (L2N.CX P w) P w K mg base N qual (defScope st) f cd A o s H E) (defBody st) t ∧ t { nx := fun _ H' => Q .non H', rt := Q } (L2.start N vs) H) : FnOk P w K mg base (L2N.CX P w) (k + 1) f fd ps sp := by
  obtain ⟨_, _, _, _, _, _, cd, _, _, e, lk, hc⟩ := F.ex
  subst e
  exact fn_of lk hc S len fun A o s H vs Q E r h => body cd A o s H vs Q E r h
/-- a def that may raise -/
theorem fn_okX {x qual : Str} {st : Stmt} {f : Addr} {fd : FuncData} {N ps : List Str} {k n : Nat} {fs : FSX} {ds : DX → DS} (F : Fun K x qual st f fd) (S : FnScope N ps (defScope st)) (hn : ps.length = n) (hN : n ≤ N.length)
    (body : ∀ (B : Bs) (W : WX) (xc : DX) (cdv : Value) (A : Around) (outer : List PySem.Env) (s : Shared) (H : Hp) (E : XK), Room k (A.deeper (envOfC qual (defScope st) s.heap.objs.size f cdv)) → XOk K ct B W xc →
      L2N.Takes (cxOf (L2N.CX P w) P w K mg base N qual (defScope st) f cdv A outer s H E) W → ∃ ts, XSs (cxOf (L2N.CX P w) P w K mg base N qual (defScope st) f cdv A outer s H E) B (defBody st) ts (ds xc))
    (h : ∀ as p x, as.length = n → fs as p x → ds (xcOf as x) (endsOf as p) (startG N.length as)) : FnOk P w K mg base (L2N.CX P w) (k + 1) f fd ps (spOfX K ct n fs) := by
  refine fn_cx F S (fun vs H Q E h => h.1.trans hn.symm) fun cdv A outer s H vs Q E hr hsp => ?_
  obtain ⟨hl, F0, m, z, as, p, x, R0, hf, hq, he⟩ := hsp
  have ha : as.length = n := by have := R0.len; rw [List.length_map] at this; omega
  have xo : XOk K ct (entry F0 H m z vs) (fun cls d _ H => E cls d H) (xcOf as x) := fun F' H' σ' γ' nm dd xs R' xd h1 => by
    obtain ⟨zs, ho, hp⟩ := outP h1
    exact he nm xs dd zs F' H' hp (R0.outs R' ho) xd
  obtain ⟨ts, b⟩ := body (entry F0 H m z vs) _ _ cdv A outer s H E hr xo (L2N.takes_of rfl rfl rfl rfl)
  refine ⟨ts, b.ps, ?_⟩
  refine b.ss F0 H _ _ _ (endsOf as p) (R0.start (by rw [hl]; exact hN)) (h as p x ha hf) ⟨fun F' H' σ' γ' R' _ h1 => ?_, fun F' H' σ' γ' v r R' _ o ⟨hk, h1⟩ => ?_, fun _ _ _ _ _ _ z => z, fun _ _ _ _ _ _ z => z⟩
  · obtain ⟨zs, ho, hp⟩ := outP h1
    exact hq (.val .non) zs .non F' H' hp (R0.outs R' ho) .non trivial
  · obtain ⟨zs, ho, hp⟩ := outP h1
    have R2 := R0.outs R' ho
    refine hq r zs v F' H' hp R2 ?_ hk
    cases r with
    | val d => exact o
    | own j c => exact hk.elim
    | new c =>
      obtain ⟨a, rfl, N⟩ := o
      refine ⟨a, rfl, N.fa, N.ok, N.bn, N.bm, fun i p' c' h1 h2 => ?_⟩
      obtain ⟨_, ok⟩ := R2.ownObj h1 h2
      have e1 : H a = none := N.bn
      obtain ⟨_, h3⟩ := outs_get ho
      rcases h3 i _ h1 with ⟨p2, c0, c2, e2, _, _⟩ | ⟨_, n2⟩
      · obtain ⟨_, ok2⟩ := R0.ownObj e2 h2
        obtain ⟨o, ho, _⟩ := ok2.obj
        rw [e1] at ho; cases ho
      · exact n2 p' c' rfl
end

theorem takesN {X : Cx} : L2N.Takes X (fun _ _ _ _ => False) := fun _ _ ⟨_, _, _, _, _, _, _, _, _, _, _, _, _, _, _, _, h⟩ => h.elim
theorem passN {X : Cx} : Passes (L2N.CX X.prog X.w) X E0 := fun _ _ _ _ _ _ _ ⟨_, _, _, _, _, _, _, _, _, _, _, _, h⟩ => h.elim
/-! ### calls that may raise -/
def dCallX (xc : DX) (n : Nat) (fs : FSX) (dds : List D) (da : DA) (γ : Env) (q : RS → Env → Prop) : Prop := da γ fun rs γ1 => (ownIx rs).Nodup ∧ rs.length + dds.length = n ∧
  fs (argsOf 0 rs ++ dds.map Sx.val) (fun r as' => q r (upds γ1 rs as')) fun nm xs as' => xc nm xs (upds γ1 rs as')
section
variable {K : PySem.W.Frag} {B : Bs} {ct : Nat → Addr}
theorem call_core {n : Nat} {fs : FSX} {dvs : List V} {dds : List D} {W : XK} {xc : DX} {F H : Hp} {σ : L2.St} {γ : Env} {vs : List V} {rs : List RS} {Q : VK} {q : RS → Env → Prop} (od : Paired (fun v d => ∀ z F, Rp ⟨K, z⟩ F v d) dvs dds) (R1 : Rep K B F H σ γ) (o1 : Paired (RsOk K B F H σ γ) vs rs)
    (xo : ∀ F' H' γ' nm dd fs, Rep K B F' H' σ γ' → XdOk K B F' dd fs → xc nm fs γ' → W (.ref (ct nm)) dd H') (h1 : (ownIx rs).Nodup) (h2 : rs.length + dds.length = n)
    (h3 : fs (argsOf 0 rs ++ dds.map Sx.val) (fun r as' => q r (upds γ rs as')) fun nm xs as' => xc nm xs (upds γ rs as')) (k : ∀ v F' H' γ' s, Rep K B F' H' σ γ' → Ex F F' → RsOk K B F' H' σ γ' v s → q s γ' → Q v H') : spOfX K ct n fs (vs ++ dvs) H Q W := by
  obtain ⟨m, hm, RE⟩ := R1.args o1 od h1
  have hw : ∀ (i : Nat) v, vs[i]? = some v → (vs ++ dvs)[i]? = some v := fun i v hv => by rw [List.getElem?_append_left (List.getElem?_eq_some_iff.mp hv).1]; exact hv
  refine ⟨by rw [List.length_append, P_len o1, P_len od]; exact h2, F, m, _, _, _, _, RE, h3, fun r as' v F2 H2 hp R2 ok hk => ?_, fun nm xs dd as' F2 H2 hx R2 xd => ?_⟩
  · obtain ⟨R3, e3, ok3⟩ := R1.called o1 h1 hw hm R2
    exact k v F2 H2 _ r R3 e3 (ok3 v r hk ok) hp
  · obtain ⟨R3, e3, ok3⟩ := R1.called o1 h1 hw hm R2
    exact xo F2 H2 _ nm dd xs R3 xd hx
theorem se_callX {n : Nat} {fs : FSX} {dvs : List V} {dds : List D} {W : WX} {xc : DX} {ta : TA} {da : DA} (h : SA K B ta da) (od : Paired (fun v d => ∀ z F, Rp ⟨K, z⟩ F v d) dvs dds) (xo : XOk K ct B W xc) : SE K B (tCallSD (spOfX K ct n fs) dvs (WE W) ta) (dCallX xc n fs dds da) := fun F H σ γ Q q R hq k => by
  refine h F H σ γ _ _ R hq fun vs F1 H1 γ1 rs R1 e1 o1 ⟨h1, h2, h3⟩ => ?_
  exact call_core (W := WE W σ) od R1 o1 (fun F' H' γ' nm dd fs R' xd hx => xo F' H' σ γ' nm dd fs R' xd hx) h1 h2 h3 fun v F' H' γ' s R' e' o' hq => k v F' H' γ' s R' (e1.trans e') o' hq
/-- where nothing is raised -/
theorem se_callN {n : Nat} {fs : FSX} {dvs : List V} {dds : List D} {ta : TA} {da : DA} (h : SA K B ta da) (od : Paired (fun v d => ∀ z F, Rp ⟨K, z⟩ F v d) dvs dds) : SE K B (tCall (spOfX K ct n fs) dvs E0 ta) (dCallX (fun _ _ _ => False) n fs dds da) := fun F H σ γ Q q R hq k => by
  refine h F H σ γ _ _ R hq fun vs F1 H1 γ1 rs R1 e1 o1 ⟨h1, h2, h3⟩ => ?_
  exact call_core (W := E0) od R1 o1 (fun F' H' γ' nm dd fs R' xd hx => hx) h1 h2 h3 fun v F' H' γ' s R' e' o' hq => k v F' H' γ' s R' (e1.trans e') o' hq
end
section
variable {X : Cx} {B : Bs} {ct : Nat → Addr} {a : Expr} {es : List Expr} {ta : TA} {da : DA} {k n : Nat} {f : Addr} {fd : FuncData} {ps : List Str} {fs : FSX} {x : Str} {p pos : Pos} {W : WX} {xc : DX}
theorem x_callX (xo : XOk X.K ct B W xc) (tk : L2N.Takes X W) (G : FnOk X.prog X.w X.K X.mg X.base (L2N.CX X.prog X.w) k f fd ps (spOfX X.K ct n fs)) (hr : Room k X.A) (hm : X.mg x = some (.ref f)) (hk : PySem.W.keepIn X.K (.ref f) = true) (hb : Binds X.K fd ps []) (h : XA X B (a :: es) ta da)
    (hg : Gl X x := by rfl) (hdb : (x == ("__debug__" : Str)) = false := by decide) (he : starEach (a :: es) X.env = (false, eval a X.env) :: starEach es X.env := by rfl) (hpl : (backTo pos (starEach es X.env)).any (·.1) = false := by rfl) :
    XE X B (.Call (.Name x p) (a :: es) [] pos) (tCallSD (spOfX X.K ct n fs) [] (WE W) ta) (dCallX xc n fs [] da) := ⟨pe_callSD G hr hg hm hk hb .nil (fun σ => L2N.passAt tk σ) h.pa hdb he hpl, se_callX h.sa .nil xo⟩
theorem x_callN (G : FnOk X.prog X.w X.K X.mg X.base (L2N.CX X.prog X.w) k f fd ps (spOfX X.K ct n fs)) (hr : Room k X.A) (hm : X.mg x = some (.ref f)) (hk : PySem.W.keepIn X.K (.ref f) = true) (hb : Binds X.K fd ps []) (h : XA X B (a :: es) ta da)
    (hg : Gl X x := by rfl) (hdb : (x == ("__debug__" : Str)) = false := by decide) (he : starEach (a :: es) X.env = (false, eval a X.env) :: starEach es X.env := by rfl) (hpl : (backTo pos (starEach es X.env)).any (·.1) = false := by rfl) :
    XE X B (.Call (.Name x p) (a :: es) [] pos) (tCall (spOfX X.K ct n fs) [] E0 ta) (dCallX (fun _ _ _ => False) n fs [] da) := ⟨pe_call G hr hg hm hk hb .nil passN h.pa hdb he hpl, se_callN h.sa .nil⟩
end
section
variable {X : Cx} {B : Bs} {ct : Nat → Addr} {a : Expr} {es : List Expr} {ta : TA} {da : DA} {k n : Nat} {f : Addr} {fd : FuncData} {ps : List Str} {fs : FSX} {x : Str} {p pos : Pos} {W : WX} {xc : DX}
theorem x_callXC (K : PySem.W.Frag) (hK : X.K = K) (xo : XOk X.K ct B W xc) (tk : L2N.Takes X W) (G : FnOk X.prog X.w X.K X.mg X.base (L2N.CX X.prog X.w) k f fd ps (spOfX X.K ct n fs)) (hr : Room k X.A) (hm : X.mg x = some (.ref f)) (hk : PySem.W.keepIn X.K (.ref f) = true) (hb : Binds X.K fd ps []) (h : XA X B (a :: es) ta da)
    (hg : Gl X x := by rfl) (hdb : (x == ("__debug__" : Str)) = false := by decide) (he : starEach (a :: es) X.env = (false, eval a X.env) :: starEach es X.env := by rfl) (hpl : (backTo pos (starEach es X.env)).any (·.1) = false := by rfl) :
    XE X B (.Call (.Name x p) (a :: es) [] pos) (tCallSD (spOfX K ct n fs) [] (WE W) ta) (dCallX xc n fs [] da) := by
  have g := x_callX (p := p) (pos := pos) xo tk G hr hm hk hb h hg hdb he hpl
  rw [hK] at g
  exact g
theorem x_callNC (K : PySem.W.Frag) (hK : X.K = K) (G : FnOk X.prog X.w X.K X.mg X.base (L2N.CX X.prog X.w) k f fd ps (spOfX X.K ct n fs)) (hr : Room k X.A) (hm : X.mg x = some (.ref f)) (hk : PySem.W.keepIn X.K (.ref f) = true) (hb : Binds X.K fd ps []) (h : XA X B (a :: es) ta da)
    (hg : Gl X x := by rfl) (hdb : (x == ("__debug__" : Str)) = false := by decide) (he : starEach (a :: es) X.env = (false, eval a X.env) :: starEach es X.env := by rfl) (hpl : (backTo pos (starEach es X.env)).any (·.1) = false := by rfl) :
    XE X B (.Call (.Name x p) (a :: es) [] pos) (tCall (spOfX K ct n fs) [] E0 ta) (dCallX (fun _ _ _ => False) n fs [] da) := by
  have g := x_callN (p := p) (pos := pos) G hr hm hk hb h hg hdb he hpl
  rw [hK] at g
  exact g
end
end DL

set_option Elab.async false
set_option linter.all false
set_option maxRecDepth 100000
set_option maxHeartbeats 2000000
namespace DL
open PySem PySem.Spec PyProof.Rows L2
open Evl (Ex ex_l ex_t)
/-! ### raise C(..), C's __init__ keeping one or two fields -/
def spI1 (K : PySem.W.Frag) (f : Str) : Sp := fun vs H Q _ => ∃ (a C : Addr) (y : V), vs = [.ref a, y] ∧ OexC K C ∧ PySem.W.findIn K (.ref C) f = some none ∧ H a = some (exo a C none) ∧
  ∀ dx, H dx = none → dx ≠ a → Q .non (upd (upd H dx (exd dx [(f, y)])) a (exo a C (some dx)))
def spI2 (K : PySem.W.Frag) (f g : Str) : Sp := fun vs H Q _ => ∃ (a C : Addr) (y z : V), vs = [.ref a, y, z] ∧ OexC K C ∧ PySem.W.findIn K (.ref C) f = some none ∧ PySem.W.findIn K (.ref C) g = some none ∧ H a = some (exo a C none) ∧
  ∀ dx, H dx = none → dx ≠ a → Q .non (upd (upd (upd H dx (exd dx [(f, y)])) a (exo a C (some dx))) dx (exd dx [(g, z), (f, y)]))
/-- C(e, ..) outside a suite: an error whose context is None -/
theorem mk_err {X : Cx} {e : Expr} {es : List Expr} {ta : TA} {p pos : Pos} {CX : CXT} {x : Str} {C fI : Addr} {k : Nat} {fd : FuncData} {ps : List Str} {sp : Sp} {ds : List Value} {dvs : List V} (T : OexC X.K C) (iC : PySem.W.findIn X.K (.ref C) "__init__" = some (some (.ref fI))) (tI : PySem.W.typeIn X.K (.ref fI) = some (.type "function"))
    (G : FnOk X.prog X.w X.K X.mg X.base CX k fI fd ps sp) (hr : Room (k + 1) X.A) (hb : Binds X.K fd ps ds) (hd : Vals dvs ds) (hx : Passes CX X (fun _ _ _ => False)) (hg : Gl X x) (hm : X.mg x = some (.ref C)) (ha : PA X (e :: es) ta)
    (hdb : (x == ("__debug__" : Str)) = false := by decide) (he : starEach (e :: es) X.env = (false, eval e X.env) :: starEach es X.env := by rfl) (hpl : (backTo pos (starEach es X.env)).any (·.1) = false := by rfl) : L2N.PMk X (.Call (.Name x p) (e :: es) [] pos) (tMkO C sp dvs ta) := fun pins s σ H Q I h => by
  obtain ⟨_, _, _, _, bm, _, _, _, _, _, _, _, _, _, _, lC, tail⟩ := T.cls
  refine wpAny_Call_Name_kw (ld_glob I hg hm ?_ hdb)
  refine PySem.W.callWith_K (h₀ := X.base) I.ok.mod.kin T.kC (thn (ha.run pos pins s σ H _ I h) fun us s1 ⟨vs, H1, J, rv, hz, q⟩ => ⟨J.kIn, ?_⟩) he hpl
  show wpAny _ _ (call (.ref C) us) _ _ _
  obtain ⟨h0, g, dr, tk, os⟩ := s1
  let n := h0.objs.size
  have fresh : n ≤ n + 1 := Nat.le_succ _
  have pr := q (n + 1) (J.hok.fresh fresh)
  have kp : ∀ b o, h0.get? b = some o → ((h0.push (PySem.W.kdv_tup us)).push (PySem.HandSPX.excO C n)).get? b = some o :=
    fun b o z => Heap.get?_push_of_some _ (Heap.get?_push_of_some _ z)
  have at1 : ((h0.push (PySem.W.kdv_tup us)).push (PySem.HandSPX.excO C n)).get? (n + 1) = some (PySem.HandSPX.excO C n) := by
    show ((h0.push (PySem.W.kdv_tup us)).push (PySem.HandSPX.excO C h0.objs.size)).get? (h0.objs.size + 1) = _
    heap_get
  have J2 := J.laid (t' := tk) (a := n + 1) (o := exo (n + 1) C none) kp fresh (exo_ok at1)
  have r2 : Vals (V.ref (n + 1) :: (vs ++ dvs)) (Value.ref (n + 1) :: (us ++ ds)) := .cons rfl (rv.append hd)
  have ln : (Value.ref (n + 1) :: us ++ ds).length = ps.length := r2.length.symm.trans (G.len _ _ _ _ pr)
  have lu : us.length ≤ sizeLine := by
    have z := Paired.length rv
    rw [sizeLine_eq]
    omega
  have run := G.run _ X.stack _ _ ⟨Value.ref (n + 1) :: us, []⟩ (Value.ref (n + 1) :: (us ++ ds)) _ _ (fun _ _ _ => False)
    (hr.make C us []) (J2.env0.make C us []) (hb _ (Value.ref (n + 1) :: us) J2.kIn ln) r2 pr
  refine wpAny_call (PySem.HandSPX.call_own F.excBase_ValueError (fun Y => PySem.HandSPX.refsVE_contains Y bm tail) (J.kIn _ _ lC)
    (PySem.W.looks_findIn J.kIn iC) (fun self => PySem.W.bind_fn J.kIn self tI) lu (codeAny_mono run fun r s' hq => ?_))
  cases r with
  | error er => exact hx pins σ _ _ er s' J2 hq
  | ok fl => cases fl with
    | ret u =>
      obtain ⟨v, H2, o2, b2, u2, k2, rv2, ev, d, fs, ea, ed, e1, q2⟩ := hq
      subst ev
      obtain ⟨h2, g2, d2, t2, os'⟩ := s'
      obtain ⟨t0, G2, J3, kG, nG, hoe, na⟩ := mk_end0 (d2 := d2) (t2 := t2) J fresh kp u2 k2 o2 b2 ea ed e1
      exact ⟨rv2, n + 1, _, _, ⟨G2, g2, d2, t2, os'⟩, _, .ref C, some d, rfl, J3, kG, nG, hoe, ⟨rfl, rfl, fun _ z => by cases z; rfl⟩, rfl, rfl, na, rfl, b2, raises_own T.exC T.tyC, q2⟩
    | next => exact hq.elim
    | brk => exact hq.elim
    | cont => exact hq.elim
/-- what the written part says of an own error class with an __init__ -/
structure ErrC (K : PySem.W.Frag) (mg : Str → Option Value) (nm : Str) (C fI : Addr) : Prop where
  o : OexC K C
  g : mg nm = some (.ref C)
  i : PySem.W.findIn K (.ref C) "__init__" = some (some (.ref fI))
  t : PySem.W.typeIn K (.ref fI) = some (.type "function")
def dRaise1 (xc : DX) (nm : Nat) (f : Str) (da : DA) (d : DEnds) (γ : Env) : Prop := da γ fun rs γ1 => allV rs ∧ match rs.map RS.data with
  | [y] => xc nm (some [(f, y)]) γ1
  | _ => False
def dRaise2 (xc : DX) (nm : Nat) (f g : Str) (da : DA) (d : DEnds) (γ : Env) : Prop := da γ fun rs γ1 => allV rs ∧ match rs.map RS.data with
  | [y, z] => xc nm (some [(g, z), (f, y)]) γ1
  | _ => False
section
variable {K : PySem.W.Frag} {B : Bs} {F H : Hp} {σ : L2.St} {γ : Env}
/-- an exception's dict, new -/
theorem Rep.newX (R : Rep K B F H σ γ) {p : Addr} {fv : List (Str × V)} {fs : List (Str × D)} (hp : H p = none) (h : RpFs (B.kz K) F fv fs) : Rep K B (upd F p (.xd fv)) (upd H p (.xd fv)) σ γ ∧ Ex F (upd F p (.xd fv)) ∧ XdOk K B (upd F p (.xd fv)) (some p) (some fs) := by
  obtain ⟨f1, f2, f3, f4⟩ := R.fresh hp
  obtain ⟨R2, e⟩ := (R.alloc (.xd fv) hp).freeze (a := p) (o := .xd fv) upd_same f1 (.inr f2) fun i q c' hg => ⟨f4 i q c' hg, fun x _ z => by cases z⟩
  exact ⟨R2, e, fv, upd_same, h.mono e⟩
theorem del_upd {H H2 : Hp} {a d : Addr} {o : HO} (ha : H a = none) (h : ∀ b, b ≠ a → b ≠ d → H2 b = H b) : upd (L2.del H2 a) d o = upd H d o := by
  funext b
  by_cases hd : b = d
  · subst hd; rw [upd_same, upd_same]
  · rw [upd_ne hd, upd_ne hd]
    by_cases hb : b = a
    · subst hb; rw [del_same, ha]
    · rw [del_ne hb, h b hb hd]
end
section
variable {X : Cx} {B : Bs} {ct : Nat → Addr} {W : WX} {xc : DX} {nm : Nat} {f g x : Str} {a b : Expr} {ta : TA} {da : DA} {p pos pos2 : Pos} {fI : Addr} {fd : FuncData} {ps : List Str} {k : Nat}
theorem s_raise1 (hc : X.calm = true) (xo : XOk X.K ct B W xc) (tk : L2N.Takes X W) (T : ErrC X.K X.mg x (ct nm) fI) (hf : PySem.W.findIn X.K (.ref (ct nm)) f = some none) (G : FnOk X.prog X.w X.K X.mg X.base CX0 k fI fd ps (spI1 X.K f)) (hr : Room (k + 1) X.A) (hb : Binds X.K fd ps []) (h : XA X B [a] ta da)
    (hg : Gl X x := by rfl) (hdb : (x == ("__debug__" : Str)) = false := by decide) (he : starEach (a :: []) X.env = (false, eval a X.env) :: starEach [] X.env := by rfl) (hpl : (backTo pos (starEach [] X.env)).any (·.1) = false := by rfl) :
    XS X B (.Raise (some (.Call (.Name x p) [a] [] pos)) none pos2) (fun _ σ H => tMkO (ct nm) (spI1 X.K f) [] ta σ H fun cls d H' => W cls d σ H') (dRaise1 xc nm f da) := ⟨L2N.ps_raise hc tk (mk_err T.o T.i T.t G hr hb .nil pass0 hg T.g h.pa hdb he hpl), fun F H σ γ E d R hq k => by
  refine h.sa F H σ γ _ _ R hq fun vs F1 H1 γ1 rs R1 e1 o1 ⟨h1, h2⟩ => ?_
  split at h2
  · rename_i y es
    have ra := allV_rp o1 h1
    rw [es] at ra
    cases ra with
    | cons ry t => cases t with
      | nil =>
        refine ⟨by simp, fun a1 ha => ⟨a1, ct nm, _, rfl, T.o, hf, upd_same, fun dx hd hne => ⟨rfl, dx, _, upd_same, by rw [upd_ne hne, upd_same], ?_, ?_⟩⟩⟩
        · rw [upd_ne hne] at hd; exact hd
        · have hd' : H1 dx = none := by rw [upd_ne hne] at hd; exact hd
          rw [del_upd ha fun b h3 h4 => by rw [upd_ne h3, upd_ne h4, upd_ne h3]]
          obtain ⟨R2, ex, xd⟩ := R1.newX hd' (.cons ry .nil)
          exact xo _ _ _ _ nm _ _ R2 xd h2
  · exact h2.elim⟩
theorem s_raise2 (hc : X.calm = true) (xo : XOk X.K ct B W xc) (tk : L2N.Takes X W) (T : ErrC X.K X.mg x (ct nm) fI) (hf : PySem.W.findIn X.K (.ref (ct nm)) f = some none) (hf2 : PySem.W.findIn X.K (.ref (ct nm)) g = some none) (G : FnOk X.prog X.w X.K X.mg X.base CX0 k fI fd ps (spI2 X.K f g)) (hr : Room (k + 1) X.A) (hb : Binds X.K fd ps []) (h : XA X B [a, b] ta da)
    (hg : Gl X x := by rfl) (hdb : (x == ("__debug__" : Str)) = false := by decide) (he : starEach (a :: [b]) X.env = (false, eval a X.env) :: starEach [b] X.env := by rfl) (hpl : (backTo pos (starEach [b] X.env)).any (·.1) = false := by rfl) :
    XS X B (.Raise (some (.Call (.Name x p) [a, b] [] pos)) none pos2) (fun _ σ H => tMkO (ct nm) (spI2 X.K f g) [] ta σ H fun cls d H' => W cls d σ H') (dRaise2 xc nm f g da) := ⟨L2N.ps_raise hc tk (mk_err T.o T.i T.t G hr hb .nil pass0 hg T.g h.pa hdb he hpl), fun F H σ γ E d R hq k => by
  refine h.sa F H σ γ _ _ R hq fun vs F1 H1 γ1 rs R1 e1 o1 ⟨h1, h2⟩ => ?_
  split at h2
  · rename_i y z es
    have ra := allV_rp o1 h1
    rw [es] at ra
    cases ra with
    | cons ry t => cases t with
      | cons rz t => cases t with
        | nil =>
          refine ⟨by simp, fun a1 ha => ⟨a1, ct nm, _, _, rfl, T.o, hf, hf2, upd_same, fun dx hd hne => ⟨rfl, dx, _, by rw [upd_ne (Ne.symm hne), upd_same], upd_same, ?_, ?_⟩⟩⟩
          · rw [upd_ne hne] at hd; exact hd
          · have hd' : H1 dx = none := by rw [upd_ne hne] at hd; exact hd
            rw [del_upd ha fun b h3 h4 => by rw [upd_ne h4, upd_ne h3, upd_ne h4, upd_ne h3]]
            obtain ⟨R2, ex, xd⟩ := R1.newX hd' (.cons rz (.cons ry .nil))
            exact xo _ _ _ _ nm _ _ R2 xd h2
  · exact h2.elim⟩
end

/-! ### try -/
/-- what the clause asks: is the class nm one of c's -/
def dTryAs (sub : Nat → Option Bool) (i : Nat) (tb : DX → DS) (ts : Addr → Nat → Xf → DS) (xc : DX) (d : DEnds) (γ : Env) : Prop := tb (fun nm fs γ1 => ∃ b, sub nm = some b ∧ (b = true → ∀ a, ts a nm fs { nx := fun γ2 => d.nx (put γ2 i .no), rt := d.rt, bk := fun γ2 => d.bk (put γ2 i .no), ct := fun γ2 => d.ct (put γ2 i .no) } (put γ1 i (.val (.ref a)))) ∧ (b = false → xc nm fs γ1)) d γ
def dTry (sub : Nat → Option Bool) (tb : DX → DS) (ts : Addr → Nat → Xf → DS) (xc : DX) (d : DEnds) (γ : Env) : Prop := tb (fun nm fs γ1 => ∃ b, sub nm = some b ∧ (b = true → ∀ a, ts a nm fs d γ1) ∧ (b = false → xc nm fs γ1)) d γ
section
variable {K : PySem.W.Frag} {B : Bs} {F F0 H H0 : Hp} {σ σ0 : L2.St} {γ γ0 : Env} {E : Ends} {d : DEnds}
/-- a slot is emptied -/
theorem Rep.clear (R : Rep K B F H σ γ) (i : Nat) : Rep K B F H (σ.set i none) (put γ i .no) := by
  have key : ∀ {j : Nat} {p : Option Nat} {c : OC} {s : Option V}, (put γ i .no)[j]? = some (.own p c) → (σ.set i none)[j]? = some s → γ[j]? = some (.own p c) ∧ σ[j]? = some s := fun {j p c s} h1 h2 => by
    rcases get_put h1 with ⟨_, z⟩ | ⟨n, z⟩
    · cases z
    · rw [List.getElem?_set_ne (Ne.symm n)] at h2
      exact ⟨z, h2⟩
  refine ⟨R.fh, by rw [List.length_set, put_len]; exact R.len, fun j s t hs hg => ?_, fun i j a p c q c' h1 h2 h3 h4 => R.nd i j a p c q c' (key h1 h3).1 (key h2 h4).1 (key h1 h3).2 (key h2 h4).2, R.b1, R.b2, R.b3, fun j a p c h1 h2 => R.b4 j a p c (key h1 h2).1 (key h1 h2).2, fun j a p c h1 h2 => R.b5 j a p c (key h1 h2).1 (key h1 h2).2, R.bN, R.bd⟩
  rcases get_put hg with ⟨rfl, rfl⟩ | ⟨n, z⟩
  · trivial
  · rw [List.getElem?_set_ne (Ne.symm n)] at hs
    exact R.sl j s t hs z
theorem Rep.upm (R : Rep K B F H σ γ) {b : Addr} (h : b ∈ (B.re F H σ γ).m ∨ (B.re F H σ γ).H b = none) : b ∈ B.m ∨ B.H b = none := h.elim R.owns fun e => .inr (R.fresh e).2.1
theorem Rep.rsback (R : Rep K B F H σ γ) {F' H' : Hp} {σ' : L2.St} {γ' : Env} {v : V} {s : RS} (o : RsOk K (B.re F H σ γ) F' H' σ' γ' v s) : RsOk K B F' H' σ' γ' v s := by
  cases s with
  | val x => exact o
  | own j c => exact o
  | new c =>
    obtain ⟨a, rfl, N⟩ := o
    exact ⟨a, rfl, N.fa, N.ok.base rfl rfl fun dx _ h => R.upm h, N.bn, R.upm N.bm, N.na⟩
/-- ends over a new base -/
theorem EndsOk.re (k : EndsOk K B F E d) (R : Rep K B F H σ γ) : EndsOk K (B.re F H σ γ) F E d := ⟨fun F' H' σ' γ' R' e h => k.nx F' H' σ' γ' (R.back R') e h, fun F' H' σ' γ' v s R' e o h => k.rt F' H' σ' γ' v s (R.back R') e (R.rsback o) h, fun F' H' σ' γ' R' e h => k.bk F' H' σ' γ' (R.back R') e h, fun F' H' σ' γ' R' e h => k.ct F' H' σ' γ' (R.back R') e h⟩
end
theorem takes_any {X : Cx} (hs : X.stack = X.env :: X.outer) (hf : X.env.frame = some X.env.locals) (W : WX) :
    L2N.Takes (X.tr [] fun e s1 => wpAny (model X.prog X.w) X.A (noteFrame e X.env) (fun _ s2 => wpAny (model X.prog X.w) X.A (setFlight e none) (fun _ _ => True) (fun _ _ => True) s2) (fun _ _ => True) s1) W := fun u s' ⟨a, B, sI, pins, σ, H, cls, d, eu, J, nb, up, sky, na, os, ag, w⟩ => by
  subst eu
  have hfr : X.A.frames = some (X.env :: X.outer) := by rw [← hs]; exact J.ok.frames
  have sky' : Sky B (X.env :: X.outer) a (L2N.Zn cls d) X.env.locals s'.heap := by rw [← hs]; exact sky
  exact L2N.Sky.land (Q := fun _ _ => True) L2N.Zn.steady hfr hf sky' fun _ _ _ => trivial
/-- what holds of a caught exception, ahead of its suite -/
def tsP (K : PySem.W.Frag) (ct : Nat → Addr) (ts : Addr → Value → Option Addr → TS) (a : Addr) (cls : Value) (d : Option Addr) : TS := fun E σ H => (∃ (B : Bs) (nm : Nat) (fs : Xf), cls = .ref (ct nm) ∧ XdOk K B B.F d fs) ∧ ts a cls d E σ H
theorem pss_pre {X : Cx} {P : Prop} {ss : List Stmt} {t : TS} (h : P → PSs X ss t) : PSs X ss (fun E σ H => P ∧ t E σ H) := ⟨fun pins s σ H D I ⟨p, q⟩ => (h p).run pins s σ H D I q⟩
section
variable {X : Cx} {B : Bs} {ct : Nat → Addr} {W : WX} {xc : DX} {x n : Str} {c : Addr} {i : Nat} {body suite : List Stmt} {b₀ : Stmt} {np pos pos' : Pos} {tb : WX → TS} {db : DX → DS} {ts : Addr → Value → Option Addr → TS} {dsu : Addr → Nat → Xf → DS} {sub : Nat → Option Bool}
theorem s_try_as (i : Nat) (hN : X.N.Nodup) (hc : Names X x (.ref c)) (xo : XOk X.K ct B W xc) (tk : L2N.Takes X W) (hsub : ∀ nm b, sub nm = some b → PySem.W.exmOne X.K (.ref (ct nm)) (.ref c) = some b)
    (hb : ∀ (B' : Bs) (W' : WX) (xc' : DX) (pn : List (Addr × Obj)) (xe : Value → Shared → Prop), XOk X.K ct B' W' xc' → L2N.Takes (X.tr pn xe) W' → PassesOwn (model X.prog X.w) X.A X.env xe → XSs (X.tr pn xe) B' body (tb W') (db xc'))
    (hsu : ∀ (B' : Bs) (a : Addr) (oe : Obj) (cls : Value) (d : Option Addr) (pn : List (Addr × Obj)) (nm : Nat) (fs : Xf), L2N.Zn cls d oe → (∃ vs, oe.data = .fields vs) → cls = .ref (ct nm) → XdOk X.K B' B'.F d fs → XSs (X.suite a ((a, oe) :: pn)) B' (b₀ :: suite) (ts a cls d) (dsu a nm fs))
    (hi : X.N[i]? = some n := by rfl) (hln : X.env.kindOf n = some .local := by rfl) (hs : X.stack = X.env :: X.outer := by rfl) (hf : X.env.frame = some X.env.locals := by rfl) :
    XS X B (.Try body [.ExceptHandler (some (.Name x np)) (some n) (b₀ :: suite) pos'] [] [] pos) (fun D σ H => tb (wAs X.K (.ref c) i (tsP X.K ct ts) W D) D σ H) (dTryAs sub i db dsu xc) := ⟨
  L2N.ps_try_as hs hf hN hi hln hc tk (fun W' pn xe tk' po => (hb ⟨fun _ => none, fun _ => none, fun _ => none, fun _ => none, [], fun _ => False, fun _ h => h.elim⟩ W' (fun _ _ _ => False) pn xe (fun _ _ _ _ _ _ _ _ _ h => h.elim) tk' po).ps)
    (fun a oe cls d pn hz hv => pss_pre fun ⟨B', nm, fs, e1, e2⟩ => (hsu B' a oe cls d pn nm fs hz hv e1 e2).ps),
  fun F H σ γ E d R hq k => by
  have key : XOk X.K ct (B.re F H σ γ) (wAs X.K (.ref c) i (tsP X.K ct ts) W E) (fun nm fs γ1 => ∃ b, sub nm = some b ∧ (b = true → ∀ a, dsu a nm fs { nx := fun γ2 => d.nx (put γ2 i .no), rt := d.rt, bk := fun γ2 => d.bk (put γ2 i .no), ct := fun γ2 => d.ct (put γ2 i .no) } (put γ1 i (.val (.ref a)))) ∧ (b = false → xc nm fs γ1)) := by
    intro F' H' σ' γ' nm dd fs R' xd ⟨b, hb1, h1, h2⟩
    refine ⟨b, hsub nm b hb1, fun e a ha => ?_, fun e => xo F' H' σ' γ' nm dd fs (R.back R') xd (h2 e)⟩
    have R2 : Rep X.K (B.re F H σ γ) F' H' (σ'.set i (some (.ref a))) (put γ' i (.val (.ref a))) := R'.setVal i (.ref a)
    have xd2 : XdOk X.K ((B.re F H σ γ).re F' H' (σ'.set i (some (.ref a))) (put γ' i (.val (.ref a)))) F' dd fs := xd
    refine ⟨⟨_, nm, fs, rfl, xd2⟩, ?_⟩
    have kk : EndsOk X.K B F' { nx := fun σ' H' => E.nx (σ'.set i none) H', rt := E.rt, bk := fun σ' H' => E.bk (σ'.set i none) H', ct := fun σ' H' => E.ct (σ'.set i none) H' } { nx := fun γ2 => d.nx (put γ2 i .no), rt := d.rt, bk := fun γ2 => d.bk (put γ2 i .no), ct := fun γ2 => d.ct (put γ2 i .no) } :=
      have k2 := k.mono R'.b2
      ⟨fun F3 H3 σ3 γ3 R3 e3 h3 => k2.nx F3 H3 _ _ (R3.clear i) e3 h3, k2.rt, fun F3 H3 σ3 γ3 R3 e3 h3 => k2.bk F3 H3 _ _ (R3.clear i) e3 h3, fun F3 H3 σ3 γ3 R3 e3 h3 => k2.ct F3 H3 _ _ (R3.clear i) e3 h3⟩
    have kr : EndsOk X.K (B.re F H σ γ) F' _ _ := ⟨fun F3 H3 σ3 γ3 R3 e3 h3 => kk.nx F3 H3 σ3 γ3 (R.back R3) e3 h3, fun F3 H3 σ3 γ3 v s R3 e3 o3 h3 => kk.rt F3 H3 σ3 γ3 v s (R.back R3) e3 (R.rsback o3) h3, fun F3 H3 σ3 γ3 R3 e3 h3 => kk.bk F3 H3 σ3 γ3 (R.back R3) e3 h3, fun F3 H3 σ3 γ3 R3 e3 h3 => kk.ct F3 H3 σ3 γ3 (R.back R3) e3 h3⟩
    exact (hsu _ a ⟨.ref (ct nm), dd, .fields #[.none, .none, .none], #[]⟩ _ dd [] nm fs ⟨rfl, rfl, fun vs e => by cases e; rfl⟩ ⟨_, rfl⟩ rfl xd2).ss F' H' _ _ _ _ R2.re (h1 e a) (kr.re R2)
  exact (hb (B.re F H σ γ) _ _ [] _ key (takes_any hs hf _) PassesOwn.looking).ss F H σ γ E d R.re hq (k.re R)⟩
end
theorem init1 {K : PySem.W.Frag} {f n1 n2 : Str} {vs : List V} {H : Hp} {Q : VK} {E : XK} (h : spI1 K f vs H Q E) : tOst K f (tVar 0) (tVar 1) { nx := fun _ H' => Q .non H', rt := Q } (L2.start [n1, n2] vs) H := by
  obtain ⟨a, C, y, rfl, T, hno, ha, k⟩ := h
  exact ⟨y, rfl, .ref a, rfl, a, C, rfl, T, hno, .inl ⟨ha, fun dx h1 h2 => k dx h1 h2⟩⟩
theorem init1_len {K : PySem.W.Frag} {f n1 n2 : Str} {vs : List V} {H : Hp} {Q : VK} {E : XK} (h : spI1 K f vs H Q E) : vs.length = [n1, n2].length := by
  obtain ⟨a, C, y, rfl, _⟩ := h
  rfl
theorem init2 {K : PySem.W.Frag} {f g n1 n2 n3 : Str} {vs : List V} {H : Hp} {Q : VK} {E : XK} (h : spI2 K f g vs H Q E) : tSeq (tOst K f (tVar 0) (tVar 1)) (tOst K g (tVar 0) (tVar 2)) { nx := fun _ H' => Q .non H', rt := Q } (L2.start [n1, n2, n3] vs) H := by
  obtain ⟨a, C, y, z, rfl, T, hno, hno2, ha, k⟩ := h
  exact ⟨y, rfl, .ref a, rfl, a, C, rfl, T, hno, .inl ⟨ha, fun dx h1 h2 => ⟨z, rfl, .ref a, rfl, a, C, rfl, T, hno2, .inr ⟨dx, _, upd_same, by rw [upd_ne h2, upd_same], by simp, k dx h1 h2⟩⟩⟩⟩
theorem init2_len {K : PySem.W.Frag} {f g n1 n2 n3 : Str} {vs : List V} {H : Hp} {Q : VK} {E : XK} (h : spI2 K f g vs H Q E) : vs.length = [n1, n2, n3].length := by
  obtain ⟨a, C, y, z, rfl, _⟩ := h
  rfl
end DL

set_option Elab.async false
set_option linter.all false
set_option maxRecDepth 100000
set_option maxHeartbeats 2000000
namespace DL
open PySem PySem.Spec PyProof.Rows L2
open Evl (Ex ex_l ex_t)
/-! ### a caught exception is read -/
theorem fs_get {K : KZ} {F : Hp} {n : Str} {dv : D} : ∀ {fv : List (Str × V)} {fs : List (Str × D)}, RpFs K F fv fs → fs.lookup n = some dv → ∃ v, fv.lookup n = some v ∧ Rp K F v dv
  | _, _, .nil, h => by cases h
  | _, _, @RpFs.cons _ _ m v vs d ds r t, h => by
    by_cases e : n = m
    · subst e
      simp only [List.lookup, beq_self_eq_true, Option.some.injEq] at h ⊢
      subst h
      exact ⟨v, rfl, r⟩
    · have e' : (n == m) = false := by simpa using e
      simp only [List.lookup, e'] at h ⊢
      exact fs_get t h
def tXfV (K : PySem.W.Frag) (a : Addr) (cls : Value) (d : Option Addr) (n : Str) (i : Nat) : TE := fun σ H Q => ∃ C, (XfC K C ∧ PySem.W.findIn K (.ref C) n = some none) ∧ tXf a cls d C n (tVar i) σ H Q
def dXf (rd : Nat → Str → Bool) (i : Nat) (a : Addr) (nm : Nat) (fs : Xf) (n : Str) (γ : Env) (q : RS → Env → Prop) : Prop := look γ i = .val (.ref a) ∧ rd nm n = true ∧ ∃ l v, fs = some l ∧ l.lookup n = some v ∧ q (.val v) γ
/-- e.n -/
theorem x_xf {X : Cx} {B : Bs} {ct : Nat → Addr} {a : Addr} {oe : Obj} {cls : Value} {d : Option Addr} {pn : List (Addr × Obj)} {nm : Nat} {n x : Str} {fs : Xf} {rd : Nat → Str → Bool} {p pos : Pos} (i : Nat) (hz : L2N.Zn cls d oe) (hf : ∃ vs, oe.data = .fields vs) (hcls : cls = .ref (ct nm)) (xd : XdOk X.K B B.F d fs)
    (hrd : ∀ nm n, rd nm n = true → XfC X.K (ct nm) ∧ PySem.W.findIn X.K (.ref (ct nm)) n = some none)
    (hN : X.N[i]? = some x := by rfl) (hv : Vis X.env.scope x := by first | exact Or.inl rfl | exact Or.inr (Or.inl rfl) | exact Or.inr (Or.inr rfl)) (hd : (x == ("__debug__" : Str)) = false := by decide) (hcd : (x == ("__classdict__" : Str)) = false := by decide)
    (hb : attributeBase (.Name x p) n X.env (eval (.Name x p) X.env) = eval (.Name x p) X.env := by rfl) :
    XE (X.suite a ((a, oe) :: pn)) B (.Attribute (.Name x p) n pos) (tXfV X.K a cls d n i) (dXf rd i a nm fs n) := ⟨⟨fun pins s σ H Q I ⟨C, ⟨T, hno⟩, h⟩ => (pe_xf (X := X) T hno hz.zc hf (pe_var (X := X.suite a ((a, oe) :: pn)) hN hv hd hcd) hb).run pins s σ H Q I h⟩, fun F H σ γ Q q R ⟨h1, h2, l, dv, h3, h4, h5⟩ k => by
  obtain ⟨T, hno⟩ := hrd nm n h2
  obtain ⟨v, hs, r⟩ := R.val h1
  cases r
  subst h3
  cases d with
  | none => exact xd.elim
  | some dd =>
    obtain ⟨fv, x1, x2⟩ := xd
    obtain ⟨u, hu, ru⟩ := fs_get (x2.mono R.b2) h4
    exact ⟨ct nm, ⟨T, hno⟩, _, hs, rfl, hcls, dd, fv, u, rfl, R.fh _ _ (R.b2 _ _ x1), hu, k u F H γ (.val dv) R (Evl.Ex.refl F) ru h5⟩⟩
/-- isinstance asks what the bases say -/
theorem kit_ref {K : PySem.W.Frag} {t : Value} {C : Addr} {b : Bool} (hdct : PySem.W.hasDictIn K C = true) (ht : PySem.W.typeIn K (.ref C) = some (.type "type")) (hs : PySem.W.subIn K t t = some true) (h : PySem.W.subIn K t (.ref C) = some b) : PySem.W.kitOne K t (.ref C) = some b := by
  unfold PySem.W.kitOne
  by_cases e : t = .ref C
  · rw [if_pos (by rw [e]; exact beq_self_eq_true _)]
    rw [← h, ← e, hs]
  · rw [if_neg (by simpa using e)]
    obtain ⟨cd, hc, _⟩ := PySem.W.any_some hdct
    have g : ((PySem.W.clsIn K C).isSome && PySem.W.typeIn K (.ref C) == some (.type "type")) = true := by rw [hc, ht]; rfl
    unfold PySem.W.kitCls
    simp only [g, if_true]
    exact h
/-! isinstance(e, C) -/
def rIsX (K : PySem.W.Frag) (a : Addr) (cls : Value) (d : Option Addr) : List V → Hp → VK → Prop := fun xs H Q => ∃ (D c : Addr) (b : Bool), xs = [.ref a, .ref c] ∧ cls = .ref D ∧ ExcC K D ∧ (d = none ∨ ∃ dd fv, d = some dd ∧ H dd = some (.xd fv)) ∧ PySem.W.kitOne K (.ref D) (.ref c) = some b ∧ Q (.bl b) H
theorem call_isX {X : Cx} {a : Addr} {oe : Obj} {cls : Value} {d : Option Addr} {pn : List (Addr × Obj)} (hz : L2N.Zn cls d oe) (hf : ∃ vs, oe.data = .fields vs) : CallR (X.suite a ((a, oe) :: pn)) (.builtin "isinstance") (rIsX X.K a cls d) := fun {pins s σ H xs us Q} I r h => by
  obtain ⟨D, c, b, rfl, hD, C, hd, e, q⟩ := h
  cases r with
  | cons rx rr => cases rr with
    | cons rt rr =>
      cases rr
      cases rx
      cases rt
      obtain ⟨hget, _⟩ := I.pin (a, oe) (List.mem_append_left _ List.mem_cons_self)
      obtain ⟨vs, hv⟩ := hf
      obtain ⟨cdD, hcD, _⟩ := PySem.W.any_some C.hd
      have hcl : (PySem.W.clsIn X.K D).isSome = true := by rw [hcD]; rfl
      have nc : PySem.W.notCls oe = true := by unfold PySem.W.notCls; rw [hv] <;> rfl
      have fin : ∀ {od : Option Obj}, PySem.W.InstAt s.heap a oe D od → wpAny (model (X.suite a ((a, oe) :: pn)).prog (X.suite a ((a, oe) :: pn)).w) (X.suite a ((a, oe) :: pn)).A (call (.builtin "isinstance") [.ref a, .ref c]) (EP (X.suite a ((a, oe) :: pn)) pins σ Q) (X.suite a ((a, oe) :: pn)).xe s := fun J =>
        PySem.W.kia_one (PySem.W.kitx_exc hcl C.hg C.hk C.hs C.ha C.hn C.ht C.hm) I.kIn J e (fun z => nomatch z) fun tk => ⟨.bl b, H, I.kept (t' := tk) fun _ _ z => z, rfl, q⟩
      rcases hd with hd | ⟨dd, fv, hd, hx⟩
      · exact fin (od := none) ⟨hget, hz.zc.1.trans hD, nc, by rw [hz.zc.2, hd]; trivial⟩
      · have ok : ObjOk X.prog X.w H s.heap dd (.xd fv) := I.hok dd _ hx
        obtain ⟨mA, hns, _⟩ := ok
        obtain ⟨od, ho, _⟩ := lookIn_ns hns
        exact fin (od := some od) ⟨hget, hz.zc.1.trans hD, nc, by rw [hz.zc.2, hd]; exact ho⟩
def dIsE (kit : Nat → Nat → Option Bool) (i : Nat) (a : Addr) (nm t : Nat) (γ : Env) (q : RS → Env → Prop) : Prop := look γ i = .val (.ref a) ∧ ∃ b, kit nm t = some b ∧ q (.val (.bl b)) γ
theorem x_isE {X : Cx} {B : Bs} {ct : Nat → Addr} {a : Addr} {oe : Obj} {cls : Value} {d : Option Addr} {pn : List (Addr × Obj)} {nm tn : Nat} {t x : Str} {fs : Xf} {kit : Nat → Nat → Option Bool} {p p1 p2 pos : Pos} (i : Nat) (hz : L2N.Zn cls d oe) (hf : ∃ vs, oe.data = .fields vs) (hcls : cls = .ref (ct nm)) (xd : XdOk X.K B B.F d fs)
    (hkit : ∀ nm t b, kit nm t = some b → ExcC X.K (ct nm) ∧ PySem.W.kitOne X.K (.ref (ct nm)) (.ref (ct t)) = some b) (hm : X.mg "isinstance" = none) (ht : X.mg t = some (.ref (ct tn)))
    (hN : X.N[i]? = some x := by rfl) (hv : Vis X.env.scope x := by first | exact Or.inl rfl | exact Or.inr (Or.inl rfl) | exact Or.inr (Or.inr rfl)) (hd : (x == ("__debug__" : Str)) = false := by decide) (hcd : (x == ("__classdict__" : Str)) = false := by decide)
    (hg : Gl X "isinstance" := by rfl) (hgt : Gl X t := by rfl) (hdt : (t == ("__debug__" : Str)) = false := by decide)
    (s1 : starEach (.Name x p1 :: [.Name t p2]) X.env = (false, eval (.Name x p1) X.env) :: starEach [.Name t p2] X.env := by rfl) (s2 : starEach (.Name t p2 :: []) X.env = (false, eval (.Name t p2) X.env) :: starEach [] X.env := by rfl) (hpl : (backTo pos (starEach [.Name t p2] X.env)).any (·.1) = false := by rfl) :
    XE (X.suite a ((a, oe) :: pn)) B (.Call (.Name "isinstance" p) [.Name x p1, .Name t p2] [] pos) (tCB (rIsX X.K a cls d) (tCons (tVar i) (tCons (tC (.ref (ct tn))) tNil))) (dIsE kit i a nm tn) :=
  ⟨pe_callB (X := X.suite a ((a, oe) :: pn)) (call_isX hz hf) hg hm (by decide +kernel) (pa_cons (pe_var (X := X.suite a ((a, oe) :: pn)) hN hv hd hcd) (pa_cons (pe_glob (X := X.suite a ((a, oe) :: pn)) hgt ht rfl hdt) pa_nil s2) s1) (by decide) (by decide) s1 hpl, fun F H σ γ Q q R ⟨h1, b, h2, h3⟩ k => by
  obtain ⟨T, hk⟩ := hkit nm tn b h2
  obtain ⟨v, hs, r⟩ := R.val h1
  cases r
  have hx : d = none ∨ ∃ dd fv, d = some dd ∧ H dd = some (.xd fv) := by
    cases d with
    | none => exact .inl rfl
    | some dd =>
      cases fs with
      | none => exact xd.elim
      | some l =>
        obtain ⟨fv, x1, _⟩ := xd
        exact .inr ⟨dd, fv, rfl, R.fh _ _ (R.b2 _ _ x1)⟩
  exact ⟨_, hs, ct nm, ct tn, b, rfl, hcls, T, hx, hk, k _ F H γ (.val (.bl b)) R (Evl.Ex.refl F) (.bl b) h3⟩⟩
end DL

set_option Elab.async false
set_option linter.all false
set_option maxRecDepth 100000
set_option maxHeartbeats 2000000
namespace DL
open PySem PySem.Spec PyProof.Rows L2
open Evl (Ex ex_l ex_t)
open L2H (Hot1 RoomH cxH FnH fn_ofH HotC pe_callH)
section
variable {K : PySem.W.Frag} {B : Bs}
/-! ### further methods of lists -/
def mIns (ds as : List D) (q : List D → D → Prop) : Prop := match as with
  | [.int i, x] => 0 ≤ i ∧ i < 2 ^ 62 ∧ ds.length < 1000000 ∧ q (ds.take i.toNat ++ [x] ++ ds.drop i.toNat) .non
  | _ => False
theorem md_insert : MutD K (fun x vs H Q => ∃ (l : Addr) (xs : List V) (i : Int) (y : V), x = .ref l ∧ vs = [.int i, y] ∧ H l = some (.lst xs) ∧ xs.length < sizeLine ∧ 0 ≤ i ∧ i < 2 ^ 63 ∧ Q .non (upd H l (.lst (xs.take i.toNat ++ [y] ++ xs.drop i.toNat)))) mIns := fun z F H a vs ds xs as Q q eFH ha ra rx hf k => by
  unfold mIns at hf
  split at hf
  · obtain ⟨x, y, rfl, r1, r2⟩ := two_rs rx.p
    cases r1
    obtain ⟨i1, i2, h1, h2⟩ := hf
    exact ⟨a, vs, _, y, rfl, rfl, ha, Nat.lt_of_lt_of_le (by rw [ra.length]; exact h1) (by decide), i1, by omega, k _ _ _ _ (RpAll.of (P_app (P_app (P_take _ ra.p) (.cons r2 .nil)) (P_drop _ ra.p))) .non h2⟩
  · exact hf.elim
def mClear (ds as : List D) (q : List D → D → Prop) : Prop := match as with
  | [] => q [] .non
  | _ => False
theorem md_clear : MutD K rClear mClear := fun z F H a vs ds xs as Q q eFH ha ra rx hf k => by
  unfold mClear at hf
  split at hf
  · cases rx
    exact ⟨a, vs, rfl, rfl, ha, k _ _ _ _ .nil .non hf⟩
  · exact hf.elim
def mRev (ds as : List D) (q : List D → D → Prop) : Prop := match as with
  | [] => q ds.reverse .non
  | _ => False
theorem md_reverse : MutD K rReverse mRev := fun z F H a vs ds xs as Q q eFH ha ra rx hf k => by
  unfold mRev at hf
  split at hf
  · cases rx
    exact ⟨a, vs, rfl, rfl, ha, k _ _ _ _ (RpAll.of (P_rev ra.p)) .non hf⟩
  · exact hf.elim
def mExt (ds as : List D) (q : List D → D → Prop) : Prop := match as with
  | [.lst es] => ds.length + es.length ≤ 1000000 ∧ q (ds ++ es) .non
  | _ => False
theorem md_extend : MutD K rExtend mExt := fun z F H a vs ds xs as Q q eFH ha ra rx hf k => by
  unfold mExt at hf
  split at hf
  · obtain ⟨x, rfl, r1⟩ := one_rs rx.p
    cases r1 with
    | @lst b ws _ hb rb =>
      exact ⟨a, b, vs, ws, rfl, rfl, ha, eFH _ _ hb, sz_le (by rw [ra.length, rb.length]; exact hf.1), k _ _ _ _ (RpAll.of (P_app ra.p rb.p)) .non hf.2⟩
  · exact hf.elim
/-! methods that only read -/
def RdD (K : PySem.W.Frag) (r : V → List V → Hp → VK → Prop) (f : List D → List D → (D → Prop) → Prop) : Prop := ∀ (z : Addr → Prop) (F H : Hp) (a : Addr) (vs : List V) (ds : List D) (xs : List V) (as : List D) (Q : VK) (q : D → Prop), Ex F H → H a = some (.lst vs) → RpAll ⟨K, z⟩ F vs ds → RpAll ⟨K, z⟩ F xs as → f ds as q →
  (∀ v d, Rp ⟨K, z⟩ F v d → q d → Q v H) → r (.ref a) xs H Q
def dRd (f : List D → List D → (D → Prop) → Prop) (de : DE) (da : DA) (γ : Env) (q : RS → Env → Prop) : Prop := de γ fun s γ1 => match s.data with
  | .lst ds => da γ1 fun rs γ2 => s.ok γ2 ∧ allV rs ∧ f ds (rs.map RS.data) fun d => q (.val d) γ2
  | _ => False
theorem se_rd {te : TE} {de : DE} {ta : TA} {da : DA} {r : V → List V → Hp → VK → Prop} {f : List D → List D → (D → Prop) → Prop} (hm : RdD K r f) (he : SE K B te de) (ha : SA K B ta da) : SE K B (tBM K "list" r te ta) (dRd f de da) := fun F H σ γ Q q R hq k => by
  refine he F H σ γ _ _ R hq fun x F1 H1 γ1 s R1 e1 o1 h1 => ?_
  obtain ⟨F2, R2, e2, o2⟩ := o1.fz R1
  split at h1
  · rename_i ds es
    have rx := o2.rs R2
    rw [RS.fz_data, es] at rx
    obtain ⟨a, vs, rfl, h2, r1⟩ := rx.lst R2.fh
    refine ⟨Or.inl ⟨rfl, vs, Evl.sq_of h2⟩, ha F2 H1 σ γ1 _ _ R2 h1 fun ws F3 H3 γ3 rs R3 e3 o3 ⟨h3, h4, h5⟩ => ?_⟩
    have ox := (o2.later e3 R3 (fz_ok s γ3 h3) (fz_idem s)).rs R3
    rw [RS.fz_data, es] at ox
    obtain ⟨a', vs', ea, h6, r6⟩ := ox.lst R3.fh
    cases ea
    exact hm B.z F3 H3 a vs' ds ws _ Q _ R3.fh h6 r6 (allV_rp o3 h4) h5 fun v d rd hq => k v F3 H3 γ3 (.val d) R3 ((e1.trans e2).trans e3) rd hq
  · exact h1.elim
/-- the first place of a number -/
def mIndex (ds as : List D) (q : D → Prop) : Prop := match as with
  | [.int y] => ∃ (ns : List Int) (j : Nat), ds = ns.map D.int ∧ ns[j]? = some y ∧ (∀ m, m < j → ns[m]? ≠ some y) ∧ q (.int (j : Nat))
  | _ => False
theorem rd_index : RdD K (rIndex K) mIndex := fun z F H a vs ds xs as Q q eFH ha ra rx hf k => by
  unfold mIndex at hf
  split at hf
  · obtain ⟨x, rfl, r1⟩ := one_rs rx.p
    cases r1
    obtain ⟨ns, j, rfl, h1, h2, h3⟩ := hf
    have ev := rp_ints ra
    subst ev
    refine ⟨a, _, _, j, _, rfl, rfl, Evl.sq_of ha, rfl, by simp [flatV], by rw [List.getElem?_map, h1]; rfl, by simp [eqV], fun m z' hm hz => ?_, k _ _ (.int _) h3⟩
    rw [List.getElem?_map] at hz
    cases e : ns[m]? with
    | none => rw [e] at hz; cases hz
    | some y' =>
      rw [e] at hz
      cases hz
      have ne : y' ≠ _ := fun e2 => h2 m hm (by rw [e, e2])
      simpa [eqV] using ne
  · exact hf.elim
/-! xs[i], xs a list or a tuple -/
def fIxQ : D → D → (RS → Prop) → Prop
  | .lst xs, .int i, q => ∃ d, atI xs i = some d ∧ q (.val d)
  | .tup xs, .int i, q => ∃ d, atI xs i = some d ∧ q (.val d)
  | _, _, _ => False
theorem od_ixQ : OpD K (rIx K) fIxQ := fun B F H σ γ x y d e Q q R rx ry hf k => by
  unfold fIxQ at hf
  split at hf
  · exact .inl (od_ixL B F H σ γ x y _ _ Q q R rx ry hf k)
  · exact .inr (.inl (od_ixT B F H σ γ x y _ _ Q q R rx ry hf k))
  · exact hf.elim
def dBits (de : DE) (γ : Env) (q : RS → Env → Prop) : Prop := de γ fun s γ1 => match s.data with
  | .int i => q (.val (.int (Builtin.Int.intBits i : Nat))) γ1
  | _ => False
end
section
variable {X : Cx} {B : Bs} {e o c : Expr} {te : TE} {de : DE} {ta : TA} {da : DA} {es : List Expr}
theorem x_rd {r : V → List V → Hp → VK → Prop} {f : List D → List D → (D → Prop) → Prop} (pe : PE X o te → PA X es ta → PE X c (tBM X.K "list" r te ta)) (hd : RdD X.K r f) (ho : XE X B o te de) (h : XA X B es ta da) : XE X B c (tBM X.K "list" r te ta) (dRd f de da) := ⟨pe ho.pe h.pa, se_rd hd ho.se h.sa⟩
theorem x_bits {apos pos : Pos} (ho : XE X B o te de) (hbase : attributeBase o "bit_length" X.env (eval o X.env) = eval o X.env := by rfl) (hline : (apos.endLine == pos.line) = true := by rfl) : XE X B (.Call (.Attribute o "bit_length" apos) [] [] pos) (tBits te) (dBits de) := ⟨pe_bits ho.pe hbase hline, fun F H σ γ Q q R hq k => by
  refine ho.se F H σ γ _ _ R hq fun x F1 H1 γ1 s R1 e1 o1 h1 => ?_
  split at h1
  · rename_i i es
    have r := o1.rs R1
    rw [es] at r
    exact ⟨i, r.int, k _ F1 H1 γ1 (.val _) R1 e1 (.int _) h1⟩
  · exact h1.elim⟩
end
/-- the j-th statement of a class -/
def methOf (j : Nat) : Stmt → Stmt
  | .ClassDef (body := ss) .. => ss.getD j (.Pass ⟨0, 0, 0, 0⟩)
  | st => st
/-! ### helpers that are called inside an except suite -/
section
variable {K : PySem.W.Frag} {F0 H : Hp} {m : List Addr} {z : ZN H} {vs : List V} {as : List Sx} {p : RS → List Sx → Prop} {Q : VK}
theorem entry_ends (R0 : Rep K (entry F0 H m z vs) F0 H (vs.map some) as) (hq : ∀ r as' v F' H', p r as' → Rep K (entry F0 H m z vs) F' H' (vs.map some) as' → RsOk K (entry F0 H m z vs) F' H' (vs.map some) as' v r → r.kept → Q v H') :
    EndsOk K (entry F0 H m z vs) F0 { nx := fun _ H' => Q .non H', rt := Q } (endsOf as p) := by
  refine ⟨fun F' H' σ' γ' R' _ h1 => ?_, fun F' H' σ' γ' v r R' _ o ⟨hk, h1⟩ => ?_, fun _ _ _ _ _ _ z => z, fun _ _ _ _ _ _ z => z⟩
  · obtain ⟨zs, ho, hp⟩ := outP h1
    exact hq (.val .non) zs .non F' H' hp (R0.outs R' ho) .non trivial
  · obtain ⟨zs, ho, hp⟩ := outP h1
    have R2 := R0.outs R' ho
    refine hq r zs v F' H' hp R2 ?_ hk
    cases r with
    | val d => exact o
    | own j c => exact hk.elim
    | new c =>
      obtain ⟨a, rfl, N⟩ := o
      refine ⟨a, rfl, N.fa, N.ok, N.bn, N.bm, fun i p' c' h1 h2 => ?_⟩
      obtain ⟨_, ok⟩ := R2.ownObj h1 h2
      have e1 : H a = none := N.bn
      obtain ⟨_, h3⟩ := outs_get ho
      rcases h3 i _ h1 with ⟨p2, c0, c2, e2, _, _⟩ | ⟨_, n2⟩
      · obtain ⟨_, ok2⟩ := R0.ownObj e2 h2
        obtain ⟨o, ho, _⟩ := ok2.obj
        rw [e1] at ho; cases ho
      · exact n2 p' c' rfl
end
theorem fn_okH {P : Program} {w : World} {K : PySem.W.Frag} {mg : Str → Option Value} {base : Heap} {x qual : Str} {st : Stmt} {f : Addr} {fd : FuncData} {N ps : List Str} {k n : Nat} {fs : FS} {ds : DS} (F : Fun K x qual st f fd) (S : FnScope N ps (defScope st)) (hn : ps.length = n) (hN : n ≤ N.length)
    (body : ∀ (B : Bs) (cd : Value) (A : Around) (o : List PySem.Env) (s : Shared) (H : Hp) (E : XK) (p : Addr × Obj), Hot1 A p → RoomH k (A.deeper (envOfC qual (defScope st) s.heap.objs.size f cd)) → ∃ ts, XSs (cxH CX0 P w K mg base N qual (defScope st) f cd A o s H E p) B (defBody st) ts ds)
    (h : ∀ as p, as.length = n → fs as p → ds (endsOf as p) (startG N.length as)) : FnH P w K mg base CX0 (k + 1) f fd ps (spOf K n fs) := by
  obtain ⟨_, _, _, _, _, _, cd, _, _, e, lk, hc⟩ := F.ex
  subst e
  refine fn_ofH lk hc S (fun vs H Q E h => h.1.trans hn.symm) fun A o s H vs Q E pp hot hr ⟨hl, F0, m, z, as, p, R0, hf, hq⟩ => ?_
  have ha : as.length = n := by have := R0.len; rw [List.length_map] at this; omega
  obtain ⟨ts, b⟩ := body (entry F0 H m z vs) cd A o s H E pp hot hr
  exact ⟨ts, b.ps, b.ss F0 H _ _ _ (endsOf as p) (R0.start (by rw [hl]; exact hN)) (h as p ha hf) (entry_ends R0 hq)⟩
theorem hot_su {X : Cx} {a : Addr} {oe : Obj} {cls : Value} {d : Option Addr} {pn : List (Addr × Obj)} (hz : L2N.Zn cls d oe) (hf : ∃ vs, oe.data = .fields vs) : HotC (X.suite a ((a, oe) :: pn)) := by
  obtain ⟨vs, hv⟩ := hf
  exact ⟨(a, oe), ⟨rfl, vs, hv, hz.2.2 vs hv⟩, List.mem_cons_self⟩
theorem x_callH {X : Cx} {B : Bs} {a : Expr} {es : List Expr} {ta : TA} {da : DA} {k n : Nat} {f : Addr} {fd : FuncData} {ps : List Str} {fs : FS} {x : Str} {p pos : Pos} (K : PySem.W.Frag) (hK : X.K = K) (hc : HotC X) (G : FnH X.prog X.w X.K X.mg X.base CX0 k f fd ps (spOf X.K n fs)) (hr : RoomH k X.A) (hm : X.mg x = some (.ref f)) (hk : PySem.W.keepIn X.K (.ref f) = true) (hb : Binds X.K fd ps []) (h : XA X B (a :: es) ta da)
    (hg : Gl X x := by rfl) (hdb : (x == ("__debug__" : Str)) = false := by decide) (he : starEach (a :: es) X.env = (false, eval a X.env) :: starEach es X.env := by rfl) (hpl : (backTo pos (starEach es X.env)).any (·.1) = false := by rfl) :
    XE X B (.Call (.Name x p) (a :: es) [] pos) (tCallS (spOf K n fs) (fun _ => E0) ta) (dCall n fs [] da) := by
  subst hK
  refine ⟨pe_callH G hr hc hg hm hk hb (fun _ _ _ _ _ _ _ z => z.elim) h.pa hdb he hpl, fun F H σ γ Q q R hq kk => ?_⟩
  have z := (se_call (n := n) (fs := fs) (E := E0) h.sa (od := .nil)) F H σ γ Q q R hq kk
  have z' : ta σ H fun vs H1 => spOf X.K n fs (vs ++ []) H1 Q E0 := z
  simp only [List.append_nil] at z'
  exact z'
end DL

set_option Elab.async false
set_option linter.all false
set_option maxRecDepth 100000
set_option maxHeartbeats 2000000
namespace DL
open PySem PySem.Spec PyProof.Rows L2
open Evl (Ex ex_l ex_t)
/-! ### f(..), what is owned lent; the answer is flat, or a new list of flat things -/
def lendR : RS → (RS → Prop) → Prop
  | .val d, q => flatD d ∧ q (.val d)
  | .new (.lst ds), q => flatAll ds ∧ q (.new (.lst ds))
  | _, _ => False
def dCallL (n : Nat) (fs : FS) (da : DA) (γ : Env) (q : RS → Env → Prop) : Prop := da γ fun rs γ1 => noNew rs ∧ rs.length = n ∧ fs (rs.map fun r => Sx.val r.data) fun r _ => lendR r fun r => q r γ1
def dCallLX (n : Nat) (fs : FSX) (da : DA) (γ : Env) (q : RS → Env → Prop) : Prop := da γ fun rs γ1 => noNew rs ∧ rs.length = n ∧ fs (rs.map fun r => Sx.val r.data) (fun r _ => lendR r fun r => q r γ1) fun _ _ _ => False
section
variable {K : PySem.W.Frag} {B : Bs} {F1 H1 : Hp} {σ : L2.St} {γ1 : Env} {vs : List V} {rs : List RS}
theorem lend_entry (R1 : Rep K B F1 H1 σ γ1) (o1 : Paired (RsOk K B F1 H1 σ γ1) vs rs) (h0 : noNew rs) : ∃ F2, Rep K (entry F2 H1 [] R1.zn vs) F2 H1 (vs.map some) (rs.map fun r => Sx.val r.data) := by
  obtain ⟨F2, e2, e3, ra⟩ := R1.lend (lent o1 h0)
  refine ⟨F2, ?_⟩
  have e0 : (rs.map fun r => Sx.val r.data) = (rs.map RS.data).map Sx.val := by rw [List.map_map]; rfl
  rw [e0]
  have none : ∀ {i : Nat} {p : Option Nat} {c : OC}, ((rs.map RS.data).map Sx.val)[i]? ≠ some (.own p c) := fun {i p c} h => by
    rw [List.getElem?_map] at h
    cases q : (rs.map RS.data)[i]? with
    | none => rw [q] at h; cases h
    | some d => rw [q] at h; cases h
  refine ⟨e3, by rw [List.length_map, List.length_map, P_len ra.p], fun i s t hs hg => ?_, fun i j a p c q c' h1 => absurd h1 none, fun b o e => ⟨fun _ => e, o, e⟩, Evl.Ex.refl F2, fun b o _ _ => rfl, fun i a p c h1 => absurd h1 none, fun i a p c h1 => absurd h1 none, fun b o e => ⟨o, e⟩, fun a o e => ⟨o, e, .refl o⟩⟩
  rw [List.getElem?_map] at hs hg
  cases q : (rs.map RS.data)[i]? with
  | none => rw [q] at hg; cases hg
  | some d =>
    rw [q] at hg
    cases hg
    obtain ⟨v, hv, r⟩ := P_get ra.p q
    rw [hv] at hs
    exact ⟨v, (Option.some.inj hs).symm, r⟩
theorem lend_exit (R1 : Rep K B F1 H1 σ γ1) {F2 F3 H3 : Hp} {as' : List Sx} {v : V} {r : RS} {Q : VK} {q : RS → Env → Prop} (R3 : Rep K (entry F2 H1 [] R1.zn vs) F3 H3 (vs.map some) as') (ok : RsOk K (entry F2 H1 [] R1.zn vs) F3 H3 (vs.map some) as' v r) (hp : lendR r fun r => q r γ1)
    (k : ∀ v F' H' γ' s, Rep K B F' H' σ γ' → Ex F1 F' → RsOk K B F' H' σ γ' v s → q s γ' → Q v H') : Q v H3 := by
  have eH : Ex H1 H3 := fun b o e => (R3.b1 b o e).1 (by simp [entry])
  unfold lendR at hp
  split at hp
  · rename_i d
    refine k v F1 H3 γ1 (.val d) (R1.grow eH) (Evl.Ex.refl F1) ?_ hp.2
    have ok' : Rp (B.kz K) F3 v d := ok
    show Rp (B.kz K) F1 v d
    have hf := hp.1
    cases ok' with
    | non => exact .non
    | bl b => exact .bl b
    | int i => exact .int i
    | str x => exact .str x
    | _ => exact hf.elim
  · rename_i ds
    obtain ⟨a, ea, N⟩ := ok
    obtain ⟨ws, hl, hr⟩ := N.ok
    have ha : H1 a = none := N.bn
    obtain ⟨f1, f2, f3, f4⟩ := R1.fresh ha
    exact k v F1 H3 γ1 (.new (.lst ds)) (R1.grow eH) (Evl.Ex.refl F1) ⟨a, ea, f1, ⟨ws, hl, flat_rp hr hp.1⟩, f3, .inr f2, f4⟩ hp.2
  · exact hp.elim
theorem se_callL {n : Nat} {fs : FS} {E : XK} {ta : TA} {da : DA} (h : SA K B ta da) : SE K B (tCall (spOf K n fs) [] E ta) (dCallL n fs da) := fun F H σ γ Q q R hq k => by
  refine h F H σ γ _ _ R hq fun vs F1 H1 γ1 rs R1 e1 o1 ⟨h0, h2, h3⟩ => ?_
  obtain ⟨F2, RE⟩ := lend_entry R1 o1 h0
  rw [List.append_nil]
  exact ⟨by rw [P_len o1]; exact h2, F2, [], _, _, _, RE, h3, fun r as' v F3 H3 hp R3 ok hk => lend_exit R1 R3 ok hp fun v F' H' γ' s R' e' o' hq => k v F' H' γ' s R' (e1.trans e') o' hq⟩
theorem se_callLX {ct : Nat → Addr} {n : Nat} {fs : FSX} {ta : TA} {da : DA} (h : SA K B ta da) : SE K B (tCall (spOfX K ct n fs) [] E0 ta) (dCallLX n fs da) := fun F H σ γ Q q R hq k => by
  refine h F H σ γ _ _ R hq fun vs F1 H1 γ1 rs R1 e1 o1 ⟨h0, h2, h3⟩ => ?_
  obtain ⟨F2, RE⟩ := lend_entry R1 o1 h0
  rw [List.append_nil]
  exact ⟨by rw [P_len o1]; exact h2, F2, [], _, _, _, _, RE, h3, fun r as' v F3 H3 hp R3 ok hk => lend_exit R1 R3 ok hp fun v F' H' γ' s R' e' o' hq => k v F' H' γ' s R' (e1.trans e') o' hq, fun _ _ _ _ _ _ z _ _ => z.elim⟩
end
section
variable {X : Cx} {B : Bs} {a : Expr} {es : List Expr} {ta : TA} {da : DA} {k n : Nat} {f : Addr} {fd : FuncData} {ps : List Str} {x : Str} {p pos : Pos}
theorem x_callL (K : PySem.W.Frag) (hK : X.K = K) {fs : FS} (G : FnOk X.prog X.w X.K X.mg X.base CX0 k f fd ps (spOf X.K n fs)) (hr : Room k X.A) (hm : X.mg x = some (.ref f)) (hk : PySem.W.keepIn X.K (.ref f) = true) (hb : Binds X.K fd ps []) (h : XA X B (a :: es) ta da)
    (hg : Gl X x := by rfl) (hdb : (x == ("__debug__" : Str)) = false := by decide) (he : starEach (a :: es) X.env = (false, eval a X.env) :: starEach es X.env := by rfl) (hpl : (backTo pos (starEach es X.env)).any (·.1) = false := by rfl) :
    XE X B (.Call (.Name x p) (a :: es) [] pos) (tCall (spOf K n fs) [] E0 ta) (dCallL n fs da) := by
  subst hK
  exact ⟨pe_call G hr hg hm hk hb .nil pass0 h.pa hdb he hpl, se_callL h.sa⟩
theorem x_callLX (K : PySem.W.Frag) (hK : X.K = K) {ct : Nat → Addr} {fs : FSX} (G : FnOk X.prog X.w X.K X.mg X.base (L2N.CX X.prog X.w) k f fd ps (spOfX X.K ct n fs)) (hr : Room k X.A) (hm : X.mg x = some (.ref f)) (hk : PySem.W.keepIn X.K (.ref f) = true) (hb : Binds X.K fd ps []) (h : XA X B (a :: es) ta da)
    (hg : Gl X x := by rfl) (hdb : (x == ("__debug__" : Str)) = false := by decide) (he : starEach (a :: es) X.env = (false, eval a X.env) :: starEach es X.env := by rfl) (hpl : (backTo pos (starEach es X.env)).any (·.1) = false := by rfl) :
    XE X B (.Call (.Name x p) (a :: es) [] pos) (tCall (spOfX K ct n fs) [] E0 ta) (dCallLX n fs da) := by
  subst hK
  exact ⟨pe_call G hr hg hm hk hb .nil passN h.pa hdb he hpl, se_callLX h.sa⟩
end
/-! ### try, its suite unread -/
def TryX (sub : Nat → Option Bool) (i : Nat) (ts : Addr → Nat → Xf → DS) (xc : DX) (d : DEnds) (nm : Nat) (fs : Xf) (γ1 : Env) : Prop := ∃ b, sub nm = some b ∧ (b = true → ∀ a, ts a nm fs { nx := fun γ2 => d.nx (put γ2 i .no), rt := d.rt, bk := fun γ2 => d.bk (put γ2 i .no), ct := fun γ2 => d.ct (put γ2 i .no) } (put γ1 i (.val (.ref a)))) ∧ (b = false → xc nm fs γ1)
theorem dTryAs_eq {sub : Nat → Option Bool} {i : Nat} {tb : DX → DS} {ts : Addr → Nat → Xf → DS} {xc : DX} {d : DEnds} {γ : Env} : dTryAs sub i tb ts xc d γ = tb (fun nm fs γ1 => TryX sub i ts xc d nm fs γ1) d γ := rfl
theorem try_in {sub : Nat → Option Bool} {i : Nat} {ts : Addr → Nat → Xf → DS} {xc : DX} {d : DEnds} {nm : Nat} {fs : Xf} {γ1 : Env} (h : sub nm = some true) (k : ∀ a, ts a nm fs { nx := fun γ2 => d.nx (put γ2 i .no), rt := d.rt, bk := fun γ2 => d.bk (put γ2 i .no), ct := fun γ2 => d.ct (put γ2 i .no) } (put γ1 i (.val (.ref a)))) : TryX sub i ts xc d nm fs γ1 := ⟨true, h, fun _ => k, fun z => by cases z⟩
theorem try_out {sub : Nat → Option Bool} {i : Nat} {ts : Addr → Nat → Xf → DS} {xc : DX} {d : DEnds} {nm : Nat} {fs : Xf} {γ1 : Env} (h : sub nm = some false) (k : xc nm fs γ1) : TryX sub i ts xc d nm fs γ1 := ⟨false, h, (fun z => by cases z), fun _ => k⟩
end DL

set_option Elab.async false
set_option linter.all false
set_option maxRecDepth 100000
set_option maxHeartbeats 2000000
namespace DL
open PySem PySem.Spec PyProof.Rows L2
open Evl (Ex ex_l ex_t)
/-! ### instances of the text's own classes -/
section
variable {K : KZ} {F H : Hp}
theorem Rs.obj {C : String} {fs : List (Str × D)} {v : V} (e : Ex F H) (h : Rs K F H v (.obj C fs)) : ∃ a dx fv, v = .ref a ∧ H a = some (.ins (ctOf K.fr C) dx fv) ∧ RpFs K F fv fs := by
  rcases h with h | ⟨a, rfl, ⟨_, _, z, _⟩ | ⟨_, dx, fv, fs', z, h1, h2, h3⟩ | ⟨_, _, z, _⟩⟩
  · cases h with
    | obj h1 h2 h3 => exact ⟨_, _, _, rfl, e _ _ h1, h3⟩
  · cases z
  · cases z; exact ⟨a, dx, fv, rfl, h1, h3⟩
  · cases z
def putD (f : Str) (v : D) : List (Str × D) → List (Str × D)
  | [] => [(f, v)]
  | (g, x) :: r => if g = f then (g, v) :: r else (g, x) :: putD f v r
theorem putD_nil {f : Str} {v : D} : putD f v [] = [(f, v)] := rfl
theorem putD_cons {f g : Str} {v x : D} {r : List (Str × D)} : putD f v ((g, x) :: r) = if g = f then (g, v) :: r else (g, x) :: putD f v r := rfl
theorem put_rp {f : Str} {v : V} {d : D} (r : Rp K F v d) : ∀ {fv : List (Str × V)} {fs : List (Str × D)}, RpFs K F fv fs → RpFs K F (putF f v fv) (putD f d fs)
  | _, _, .nil => .cons r .nil
  | _, _, @RpFs.cons _ _ g x vs y ds r1 t => by
    unfold putF putD
    by_cases e : g = f
    · rw [if_pos e, if_pos e]; exact .cons r t
    · rw [if_neg e, if_neg e]; exact .cons r1 (put_rp r t)
theorem fs_len : ∀ {fv : List (Str × V)} {fs : List (Str × D)}, RpFs K F fv fs → fv.length = fs.length
  | _, _, .nil => rfl
  | _, _, .cons _ t => by rw [List.length_cons, List.length_cons, fs_len t]
theorem fs_none {n : Str} : ∀ {fv : List (Str × V)} {fs : List (Str × D)}, RpFs K F fv fs → fs.lookup n = none → fv.lookup n = none
  | _, _, .nil, h => rfl
  | _, _, @RpFs.cons _ _ m v vs d ds r t, h => by
    by_cases e : n = m
    · subst e
      simp [List.lookup] at h
    · have e' : (n == m) = false := by simpa using e
      simp only [List.lookup, e'] at h ⊢
      exact fs_none t h
end
/-- class, attribute: a plain attribute -/
abbrev FT := String → Str → Bool
def FtOk (K : PySem.W.Frag) (tab : FT) : Prop := ∀ C f, tab C f = true → Cls K (ctOf K C) ∧ NoAttr K (ctOf K C) f
def fFld (tab : FT) (f : Str) : D → (RS → Prop) → Prop
  | .obj C fs, q => tab C f = true ∧ ∃ d, fs.lookup f = some d ∧ q (.val d)
  | _, _ => False
def rFld (K : PySem.W.Frag) (f : Str) : V → Hp → VK → Prop := fun x H Q => ∃ a C dx fs v, x = .ref a ∧ H a = some (.ins C dx fs) ∧ Cls K C ∧ NoAttr K C f ∧ fs.lookup f = some v ∧ Q v H
theorem ud_fld {K : PySem.W.Frag} {tab : FT} {f : Str} (ht : FtOk K tab) : UnD K (rFld K f) (fFld tab f) := fun B F H σ γ x d Q q R rx hf k => by
  unfold fFld at hf
  split at hf
  · rename_i C fs
    obtain ⟨h1, d, hd, hq⟩ := hf
    obtain ⟨a, dx, fv, rfl, h2, h3⟩ := rx.obj R.fh
    obtain ⟨v, hv, r⟩ := fs_get h3 hd
    obtain ⟨c, n⟩ := ht C f h1
    exact ⟨a, _, dx, fv, v, rfl, h2, c, n, hv, vk R k r hq⟩
  · exact hf.elim
theorem x_fld {X : Cx} {B : Bs} {e : Expr} {te : TE} {de : DE} {tab : FT} {pos : Pos} (f : Str) (ht : FtOk X.K tab) (h : XE X B e te de) (hb : attributeBase e f X.env (eval e X.env) = eval e X.env := by rfl) : XE X B (.Attribute e f pos) (tFld X.K te f) (d1 (fFld tab f) de) := ⟨pe_fld h.pe hb, se_un (ud_fld ht) h.se⟩
section
variable {K : PySem.W.Frag} {B : Bs} {F F' H H' : Hp} {σ : L2.St} {γ : Env}
/-- the instance in slot j is written anew -/
theorem Rep.writeI (R : Rep K B F H σ γ) {j : Nat} {p : Option Nat} {C : String} {fs fs' : List (Str × D)} {a dx : Addr} {fv fv' : List (Str × V)} (hl : look γ j = .own p (.ins C fs)) (hs : σ[j]? = some (some (.ref a))) (ha : H a = some (.ins (ctOf K C) dx fv)) (r : RpFs (B.kz K) F fv' fs') :
    Rep K B F (upd H a (.ins (ctOf K C) dx fv')) σ (put γ j (.own p (.ins C fs'))) := by
  obtain ⟨a', hs', hg, fa, ok⟩ := R.own hl
  obtain rfl : a = a' := by rw [hs] at hs'; cases hs'; rfl
  have ne_own : ∀ {b x : Addr}, H b = some (.own x) → b ≠ a := fun h e => by
    subst e
    rw [ha] at h; cases h
  have key : ∀ {i : Nat} {q : Option Nat} {c : OC}, (put γ j (.own p (.ins C fs')))[i]? = some (.own q c) → ∃ c0, γ[i]? = some (.own q c0) ∧ ((i = j ∧ c = .ins C fs') ∨ (i ≠ j ∧ c0 = c)) := fun h => by
    rcases get_put h with ⟨rfl, e⟩ | ⟨n, e⟩
    · injection e with e1 e2
      subst e1; subst e2
      exact ⟨_, hg, .inl ⟨rfl, rfl⟩⟩
    · exact ⟨_, e, .inr ⟨n, rfl⟩⟩
  refine ⟨fun b o e => ?_, by rw [put_len]; exact R.len, fun i s t h1 h2 => ?_, fun i i' b q c q' c' h1 h2 h3 h4 => ?_, fun b o e => ?_, R.b2, R.b3, fun i b q c h1 h2 => ?_, fun i b q c h1 h2 => ?_, fun b o e => ?_, fun b o e => ?_⟩
  · have n : b ≠ a := fun z => by subst z; rw [fa] at e; cases e
    rw [upd_ne n]; exact R.fh b o e
  · rcases get_put h2 with ⟨rfl, rfl⟩ | ⟨n, e⟩
    · rw [hs] at h1; cases h1
      obtain ⟨dx', fv0, q1, q2, q3, q4, q5, q6⟩ := ok
      rw [ha] at q1
      cases q1
      exact ⟨a, rfl, fa, dx, fv', upd_same, (upd_ne (ne_own q2)).trans q2, q3, q4, q5, r⟩
    · have q := R.sl i s t h1 e
      cases t with
      | no => trivial
      | val d => exact q
      | own q' c =>
        obtain ⟨b, e', f, ok'⟩ := q
        subst e'
        have nb : b ≠ a := fun z => by subst z; exact n (R.nd i j b q' c p (.ins C fs) e hg h1 hs)
        exact ⟨b, rfl, f, ok'.heap (upd_ne nb) fun dx hd => upd_ne (ne_own hd)⟩
  · obtain ⟨_, y1, _⟩ := key h1
    obtain ⟨_, y2, _⟩ := key h2
    exact R.nd i i' b q _ q' _ y1 y2 h3 h4
  · obtain ⟨x1, o', x2⟩ := R.b1 b o e
    by_cases hb : b = a
    · subst hb
      rw [upd_same]
      refine ⟨fun n => ?_, _, rfl⟩
      rcases R.b5 j b p _ hg hs with z | z
      · exact absurd z n
      · rw [e] at z; cases z
    · rw [upd_ne hb]; exact ⟨x1, o', x2⟩
  · obtain ⟨_, y1, _⟩ := key h1
    exact R.b4 i b q _ y1 h2
  · obtain ⟨_, y1, _⟩ := key h1
    exact R.b5 i b q _ y1 h2
  · obtain ⟨o', x2⟩ := R.bN b o e
    by_cases hb : b = a
    · subst hb; exact ⟨_, upd_same⟩
    · rw [upd_ne hb]; exact ⟨o', x2⟩
  · obtain ⟨o', x2, kn⟩ := R.bd b o e
    by_cases hb : b = a
    · subst hb
      rw [ha] at x2
      cases x2
      exact ⟨_, upd_same, kn.trans ⟨_, rfl⟩⟩
    · rw [upd_ne hb]; exact ⟨o', x2, kn⟩
theorem kept_rp {v : V} {s : RS} (o : RsOk K B F H σ γ v s.fz) (hk : s.kept) : Rp (B.kz K) F v s.data := by
  cases s with
  | val x => exact o
  | new c => exact o
  | own j c => exact hk.elim
end
/-- name.f = e -/
def dSetF (tab : FT) (j : Nat) (f : Str) (de : DE) (d : DEnds) (γ : Env) : Prop := de γ fun s γ1 => s.kept ∧ match look γ1 j with
  | .own p (.ins C fs) => tab C f = true ∧ fs.length < 1000 ∧ d.nx (put γ1 j (.own p (.ins C (putD f s.data fs))))
  | _ => False
def dAugF (tab : FT) (j : Nat) (f : Str) (g : Int → Int → Int) (de : DE) (d : DEnds) (γ : Env) : Prop := match look γ j with
  | .own _ (.ins C fs) => tab C f = true ∧ ∃ i, fs.lookup f = some (.int i) ∧ de γ fun s γ1 => match s.data, look γ1 j with
    | .int k, .own p (.ins C' fs') => C' = C ∧ fs'.length < 1000 ∧ d.nx (put γ1 j (.own p (.ins C (putD f (.int (g i k)) fs'))))
    | _, _ => False
  | _ => False
section
variable {X : Cx} {B : Bs} {e : Expr} {te : TE} {de : DE} {tab : FT} {pos pos' p3 : Pos}
theorem s_setF (j : Nat) (f : Str) {o : Str} (ht : FtOk X.K tab) (he : XE X B e te de) (hN : X.N[j]? = some o := by rfl) (hv : Vis X.env.scope o := by first | exact Or.inl rfl | exact Or.inr (Or.inl rfl) | exact Or.inr (Or.inr rfl)) (hd : (o == ("__debug__" : Str)) = false := by decide) (hcd : (o == ("__classdict__" : Str)) = false := by decide)
    (hs : swapsWith e (some (.Attribute (.Name o p3) f pos')) pos.line X.env = pure false := by rfl) : XS X B (.Assign [.Attribute (.Name o p3) f pos'] e pos) (sFld X.K (tVar j) te f) (dSetF tab j f de) := ⟨ps_fld (pe_var hN hv hd hcd) he.pe hs, fun F H σ γ E d R hq k => by
  refine he.se F H σ γ _ _ R hq fun v F1 H1 γ1 s R1 e1 o1 ⟨hk, q⟩ => ?_
  obtain ⟨F2, R2, e2, o2⟩ := o1.fz R1
  split at q
  · rename_i p C fs hl
    obtain ⟨a, hs, hg, fa, dx, fv, ha, q2, q3, q4, q5, q6⟩ := R2.own hl
    obtain ⟨c, n⟩ := ht C f q.1
    exact ⟨_, hs, a, _, dx, fv, rfl, ha, c, n, by rw [fs_len q6]; exact q.2.1, k.nx F2 _ σ _ (R2.writeI hl hs ha (put_rp (kept_rp o2 hk) q6)) (e1.trans e2) q.2.2⟩
  · exact q.elim⟩
theorem s_augF (j : Nat) (f : Str) {o : Str} {op : Operator} {g : Int → Int → Int} {rd : V → V → Hp → VK → Prop} (ht : FtOk X.K tab) (he : XE X B e te de) (hop : InOp X op rd) (hrd : ∀ i k H Q, Q (.int (g i k)) H → rd (.int i) (.int k) H Q) (hN : X.N[j]? = some o := by rfl) (hv : Vis X.env.scope o := by first | exact Or.inl rfl | exact Or.inr (Or.inl rfl) | exact Or.inr (Or.inr rfl)) (hd : (o == ("__debug__" : Str)) = false := by decide) (hcd : (o == ("__classdict__" : Str)) = false := by decide) :
    XS X B (.AugAssign (.Attribute (.Name o p3) f pos') op e pos) (sFldAug X.K (tVar j) te rd f) (dAugF tab j f g de) := ⟨ps_fldaug (pe_var hN hv hd hcd) he.pe hop, fun F H σ γ E d R hq k => by
  unfold dAugF at hq
  split at hq
  · rename_i p C fs hl
    obtain ⟨h1, i, hi, hq⟩ := hq
    obtain ⟨a, hs, hg, fa, dx, fv, ha, q2, q3, q4, q5, q6⟩ := R.own hl
    obtain ⟨c, n⟩ := ht C f h1
    obtain ⟨u, hu, ru⟩ := fs_get q6 hi
    cases ru
    refine ⟨_, hs, a, _, dx, fv, _, rfl, ha, c, n, hu, ?_⟩
    refine he.se F H σ γ _ _ R hq fun v F1 H1 γ1 s R1 e1 o1 q => ?_
    split at q
    · rename_i kk p' C' fs' es hl'
      obtain ⟨rfl, hlen, hq⟩ := q
      have rv := o1.rs R1
      rw [es] at rv
      obtain ⟨a', hs', hg', fa', dx', fv', ha', q2', q3', q4', q5', q6'⟩ := R1.own hl'
      obtain rfl : a = a' := by rw [hs] at hs'; cases hs'; rfl
      rw [rv.int]
      exact hrd i kk _ _ ⟨dx', fv', ha', by rw [fs_len q6']; exact hlen, k.nx F1 _ σ _ (R1.writeI hl' hs ha' (put_rp (.int _) q6')) e1 hq⟩
    · exact q.elim
  · exact hq.elim⟩
end
/-- C(..) -/
def dMake (C : String) (n : Nat) (fs : FS) (dds : List D) (da : DA) (γ : Env) (q : RS → Env → Prop) : Prop := da γ fun rs γ1 => allV rs ∧ rs.length + dds.length + 1 = n ∧
  fs (.own (some 0) (.ins C []) :: ((rs.map RS.data).map Sx.val ++ dds.map Sx.val)) fun r as' => r = .val .non ∧ match as' with
    | .own _ (.ins C' fs') :: _ => C' = C ∧ q (.new (.ins C fs')) γ1
    | _ => False
section
variable {K : PySem.W.Frag} {B : Bs} {F1 H1 : Hp} {σ : L2.St} {γ1 : Env} {vs : List V} {ds : List D}
theorem make_entry {C : String} {x dx : Addr} (fh : Ex F1 H1) (ra : RpAll (B.kz K) F1 vs ds) (hx : H1 x = none) (hdx : H1 dx = none) (ne : dx ≠ x) (Z : ZN (upd (upd H1 dx (.own x)) x (.ins (ctOf K C) dx []))) (hZ : Z.1 = B.z) :
    Rep K (entry F1 (upd (upd H1 dx (.own x)) x (.ins (ctOf K C) dx [])) [x, dx] Z (.ref x :: vs)) F1 (upd (upd H1 dx (.own x)) x (.ins (ctOf K C) dx [])) ((V.ref x :: vs).map some) (.own (some 0) (.ins C []) :: ds.map Sx.val) := by
  have one : ∀ {i : Nat} {p : Option Nat} {c : OC}, (Sx.own (some 0) (.ins C []) :: ds.map Sx.val)[i]? = some (.own p c) → i = 0 ∧ p = some 0 ∧ c = .ins C [] := fun {i p c} h => by
    cases i with
    | zero => simp at h; exact ⟨rfl, h.1.symm, h.2.symm⟩
    | succ i =>
      simp only [List.getElem?_cons_succ, List.getElem?_map] at h
      cases q : ds[i]? with
      | none => rw [q] at h; cases h
      | some d => rw [q] at h; cases h
  have fx : F1 x = none := by
    cases e : F1 x with
    | none => rfl
    | some o => have := fh _ _ e; rw [hx] at this; cases this
  have fdx : F1 dx = none := by
    cases e : F1 dx with
    | none => rfl
    | some o => have := fh _ _ e; rw [hdx] at this; cases this
  refine ⟨fun b o e => ?_, by rw [List.length_map, List.length_cons, List.length_cons, List.length_map, P_len ra.p], fun i s t hs hg => ?_, fun i j a p c q c' h1 h2 h3 h4 => ?_, fun b o e => ⟨fun _ => e, o, e⟩, Evl.Ex.refl F1, fun b o _ _ => rfl, fun i a p c h1 h2 => ?_, fun i a p c h1 h2 => ?_, fun b o e => ⟨o, e⟩, fun a o e => ⟨o, e, .refl o⟩⟩
  · have n1 : b ≠ x := fun z => by subst z; rw [fx] at e; cases e
    have n2 : b ≠ dx := fun z => by subst z; rw [fdx] at e; cases e
    rw [upd_ne n1, upd_ne n2]; exact fh b o e
  · cases i with
    | zero =>
      simp at hs hg
      subst hs; subst hg
      refine ⟨x, rfl, fx, dx, [], upd_same, by rw [upd_ne ne]; exact upd_same, fdx, fun z => ?_, .inl (by show dx ∈ [x, dx]; simp), .nil⟩
      exact absurd (show (upd (upd H1 dx (.own x)) x (.ins (ctOf K C) dx [])) x = none from z) (by rw [upd_same]; simp)
    | succ i =>
      simp only [List.map_cons, List.getElem?_cons_succ, List.getElem?_map] at hs hg
      cases q : ds[i]? with
      | none => rw [q] at hg; cases hg
      | some d =>
        rw [q] at hg
        cases hg
        obtain ⟨v, hv, r⟩ := P_get ra.p q
        rw [hv] at hs
        refine ⟨v, (Option.some.inj hs).symm, ?_⟩
        have e : (entry F1 (upd (upd H1 dx (.own x)) x (.ins (ctOf K C) dx [])) [x, dx] Z (.ref x :: vs)).kz K = B.kz K := by
          show (⟨K, Z.1⟩ : KZ) = ⟨K, B.z⟩
          rw [hZ]
        rw [e]
        exact r
  · obtain ⟨rfl, _⟩ := one h1
    obtain ⟨rfl, _⟩ := one h2
    rfl
  · obtain ⟨rfl, rfl, rfl⟩ := one h1
    simp at h2
    subst h2
    exact ⟨fun k hk => by cases hk; rfl, fun z => by cases z⟩
  · obtain ⟨rfl, rfl, rfl⟩ := one h1
    simp at h2
    subst h2
    exact .inl (by show x ∈ [x, dx]; simp)
/-- later: the heap has grown, more stays -/
theorem Rep.later (R1 : Rep K B F1 H1 σ γ1) {F3 H3 : Hp} (fh : Ex F3 H3) (eH : Ex H1 H3) (eF : Ex F1 F3) (sF : ∀ b o, H1 b = some o → F3 b = F1 b) : Rep K B F3 H3 σ γ1 := by
  have R2 := R1.grow eH
  refine ⟨fh, R2.len, fun i s t hs hg => ?_, R2.nd, R2.b1, R2.b2.trans eF, fun b o e n => ?_, R2.b4, R2.b5, R2.bN, R2.bd⟩
  · have q1 := R1.sl i s t hs hg
    cases t with
    | no => trivial
    | val d => obtain ⟨v, e, r⟩ := q1; exact ⟨v, e, r.mono eF⟩
    | own p c =>
      obtain ⟨a, e, f, ok⟩ := q1
      subst e
      obtain ⟨o, ho, _⟩ := ok.obj
      refine ⟨a, rfl, (sF a o ho).trans f, ?_⟩
      cases c with
      | lst ds => obtain ⟨vs, h1, h2⟩ := ok; exact ⟨vs, eH _ _ h1, h2.mono eF⟩
      | dct ds => obtain ⟨vs, h1, h2⟩ := ok; exact ⟨vs, eH _ _ h1, h2.mono eF⟩
      | ins C fs => obtain ⟨dx, fv, h1, h2, h3, h4, h5, h6⟩ := ok; exact ⟨dx, fv, eH _ _ h1, eH _ _ h2, (sF dx _ h2).trans h3, h4, h5, h6.mono eF⟩
  · obtain ⟨_, o2, e2⟩ := R1.b1 b o e
    exact (sF b o2 e2).trans (R1.b3 b o e n)
theorem make_exit {C : String} {x dx : Addr} {p : Option Nat} {fs' : List (Str × D)} {rest : List Sx} {F3 H3 : Hp} (R1 : Rep K B F1 H1 σ γ1) (hx : H1 x = none) (hdx : H1 dx = none) (ne : dx ≠ x) {Z : ZN (upd (upd H1 dx (.own x)) x (.ins (ctOf K C) dx []))} (hZ : Z.1 = B.z)
    (R3 : Rep K (entry F1 (upd (upd H1 dx (.own x)) x (.ins (ctOf K C) dx [])) [x, dx] Z (.ref x :: vs)) F3 H3 ((V.ref x :: vs).map some) (.own p (.ins C fs') :: rest)) :
    Rep K B F3 H3 σ γ1 ∧ Ex F1 F3 ∧ RsOk K B F3 H3 σ γ1 (.ref x) (.new (.ins C fs')) := by
  have h2 : ∀ b o, H1 b = some o → (upd (upd H1 dx (.own x)) x (.ins (ctOf K C) dx [])) b = some o ∧ b ∉ [x, dx] := fun b o e => by
    have n1 : b ≠ x := fun z => by subst z; rw [hx] at e; cases e
    have n2 : b ≠ dx := fun z => by subst z; rw [hdx] at e; cases e
    exact ⟨by rw [upd_ne n1, upd_ne n2]; exact e, by simp [n1, n2]⟩
  have eH : Ex H1 H3 := fun b o e => (R3.b1 b o (h2 b o e).1).1 (h2 b o e).2
  have sF : ∀ b o, H1 b = some o → F3 b = F1 b := fun b o e => R3.b3 b o (h2 b o e).1 (h2 b o e).2
  have R4 := R1.later R3.fh eH R3.b2 sF
  refine ⟨R4, R3.b2, x, rfl, ?_⟩
  obtain ⟨a, ea, fa, dx', fv, q1, q2, q3, q4, q5, q6⟩ := R3.sl 0 _ _ rfl rfl
  cases ea
  obtain ⟨o', g1, fs2, g2⟩ := R3.bd x _ (show (entry F1 (upd (upd H1 dx (.own x)) x (.ins (ctOf K C) dx [])) [x, dx] Z (.ref x :: vs)).H x = some (.ins (ctOf K C) dx []) from upd_same)
  subst g2
  rw [g1] at q1
  cases q1
  obtain ⟨f1, f2, f3, f4⟩ := R1.fresh hx
  obtain ⟨d1, d2, d3, d4⟩ := R1.fresh hdx
  refine ⟨fa, ⟨dx, fv, g1, q2, q3, fun _ => d3, .inr d2, ?_⟩, f3, .inr f2, f4⟩
  have e : (entry F1 (upd (upd H1 dx (.own x)) x (.ins (ctOf K C) dx [])) [x, dx] Z (.ref x :: vs)).kz K = B.kz K := by
    show (⟨K, Z.1⟩ : KZ) = ⟨K, B.z⟩
    rw [hZ]
  rw [e] at q6
  exact q6
theorem se_make {C : String} {n : Nat} {fs : FS} {dvs : List V} {dds : List D} {E : XK} {ta : TA} {da : DA} (h : SA K B ta da) (od : Paired (fun v d => ∀ z F, Rp ⟨K, z⟩ F v d) dvs dds) : SE K B (tMake (ctOf K C) (spOf K n fs) dvs E ta) (dMake C n fs dds da) := fun F H σ γ Q q R hq k => by
  refine h F H σ γ _ _ R hq fun vs F1 H1 γ1 rs R1 e1 o1 ⟨h0, h2, h3⟩ x dx hx hdx ne => ?_
  have all : RpAll (B.kz K) F1 (vs ++ dvs) (rs.map RS.data ++ dds) := RpAll.of (P_app (allV_rp o1 h0).p (P_mono (fun v d z => z _ _) od))
  let Z : ZN (upd (upd H1 dx (.own x)) x (.ins (ctOf K C) dx [])) := ⟨B.z, fun a ha => by
    obtain ⟨o, e⟩ := R1.znp a ha
    have n1 : a ≠ x := fun z => by subst z; rw [hx] at e; cases e
    have n2 : a ≠ dx := fun z => by subst z; rw [hdx] at e; cases e
    exact ⟨o, by rw [upd_ne n1, upd_ne n2]; exact e⟩⟩
  have RE := make_entry (C := C) R1.fh all hx hdx ne Z rfl
  rw [List.map_append] at RE
  refine ⟨by simp only [List.length_cons, List.length_append]; rw [P_len o1, P_len od]; omega, F1, _, Z, _, _, RE, h3, fun r as' v F3 H3 ⟨hr, hp⟩ R3 ok hk => ?_⟩
  subst hr
  split at hp
  · rename_i p C' fs' rest
    obtain ⟨rfl, hp⟩ := hp
    obtain ⟨R4, e4, o4⟩ := make_exit R1 hx hdx ne rfl R3
    have ok' : Rp _ F3 v .non := ok
    cases ok'
    exact ⟨rfl, k _ F3 H3 γ1 _ R4 (e1.trans e4) o4 hp⟩
  · exact hp.elim
end
section
variable {X : Cx} {B : Bs} {a : Expr} {es : List Expr} {ta : TA} {da : DA} {k n : Nat} {C : String} {f : Addr} {fd : FuncData} {ps : List Str} {fs : FS} {x : Str} {p pos : Pos}
theorem x_make (K : PySem.W.Frag) (hK : X.K = K) (M : Mk X.K (ctOf X.K C) f) (G : FnOk X.prog X.w X.K X.mg X.base CX0 k f fd ps (spOf X.K n fs)) (hr : Room (k + 1) X.A) (hm : X.mg x = some (.ref (ctOf X.K C))) (hb : Binds X.K fd ps []) (h : XA X B (a :: es) ta da)
    (hg : Gl X x := by rfl) (hdb : (x == ("__debug__" : Str)) = false := by decide) (he : starEach (a :: es) X.env = (false, eval a X.env) :: starEach es X.env := by rfl) (hpl : (backTo pos (starEach es X.env)).any (·.1) = false := by rfl) :
    XE X B (.Call (.Name x p) (a :: es) [] pos) (tMake (ctOf K C) (spOf K n fs) [] E0 ta) (dMake C n fs [] da) := by
  subst hK
  exact ⟨pe_make M G hr hg hm hb .nil pass0 h.pa hdb he hpl, se_make h.sa .nil⟩
theorem x_makeD {dvs : List V} {dds : List D} {ds : List Value} (K : PySem.W.Frag) (hK : X.K = K) (M : Mk X.K (ctOf X.K C) f) (G : FnOk X.prog X.w X.K X.mg X.base CX0 k f fd ps (spOf X.K n fs)) (hr : Room (k + 1) X.A) (hm : X.mg x = some (.ref (ctOf X.K C))) (hb : Binds X.K fd ps ds) (hd : Vals dvs ds) (od : Paired (fun v d => ∀ z F, Rp ⟨X.K, z⟩ F v d) dvs dds) (h : XA X B (a :: es) ta da)
    (hg : Gl X x := by rfl) (hdb : (x == ("__debug__" : Str)) = false := by decide) (he : starEach (a :: es) X.env = (false, eval a X.env) :: starEach es X.env := by rfl) (hpl : (backTo pos (starEach es X.env)).any (·.1) = false := by rfl) :
    XE X B (.Call (.Name x p) (a :: es) [] pos) (tMake (ctOf K C) (spOf K n fs) dvs E0 ta) (dMake C n fs dds da) := by
  subst hK
  exact ⟨pe_make M G hr hg hm hb hd pass0 h.pa hdb he hpl, se_make h.sa od⟩
theorem x_make0 {dvs : List V} {dds : List D} {ds : List Value} (K : PySem.W.Frag) (hK : X.K = K) (M : Mk X.K (ctOf X.K C) f) (G : FnOk X.prog X.w X.K X.mg X.base CX0 k f fd ps (spOf X.K n fs)) (hr : Room (k + 1) X.A) (hm : X.mg x = some (.ref (ctOf X.K C))) (hb : Binds X.K fd ps ds) (hd : Vals dvs ds) (od : Paired (fun v d => ∀ z F, Rp ⟨X.K, z⟩ F v d) dvs dds)
    (hg : Gl X x := by rfl) (hdb : (x == ("__debug__" : Str)) = false := by decide) :
    XE X B (.Call (.Name x p) [] [] pos) (tMake (ctOf K C) (spOf K n fs) dvs E0 tNil) (dMake C n fs dds dNil) := by
  subst hK
  exact ⟨pe_make0 M G hr hg hm hb hd pass0 hdb, se_make sa_nil od⟩
end
/-- a new thing that will not change -/
def dFz (de : DE) (γ : Env) (q : RS → Env → Prop) : Prop := de γ fun s γ1 => match s with
  | .new c => q (.val c.data) γ1
  | s => q s γ1
theorem x_fz {X : Cx} {B : Bs} {e : Expr} {te : TE} {de : DE} (h : XE X B e te de) : XE X B e te (dFz de) := ⟨h.pe, fun F H σ γ Q q R hq k => by
  refine h.se F H σ γ _ _ R hq fun v F1 H1 γ1 s R1 e1 o1 h1 => ?_
  obtain ⟨F2, R2, e2, o2⟩ := o1.fz R1
  cases s with
  | val d => exact k v F1 H1 γ1 _ R1 e1 o1 h1
  | own j c => exact k v F1 H1 γ1 _ R1 e1 o1 h1
  | new c => exact k v F2 H1 γ1 (.val c.data) R2 (e1.trans e2) o2 h1⟩
/-! ### methods -/
/-- what a method of the class is -/
inductive Disp (P : Program) (w : World) (K : PySem.W.Frag) (mg : Str → Option Value) (base : Heap) (CX : CXT) (km : Nat) (m : Str) (C : Addr) (sp : Sp) : Prop
  | mk {k : Nat} {f : Addr} {fd : FuncData} {ps : List Str} : Cls K C → Meth K C m f → FnOk P w K mg base CX k f fd ps sp → k ≤ km → Binds K fd ps [] → Disp P w K mg base CX km m C sp
def tMethP (P : Program) (w : World) (K : PySem.W.Frag) (mg : Str → Option Value) (base : Heap) (CX : CXT) (km : Nat) (m : Str) (E : L2.St → XK) (ta : TE) (t : TA) : TE := fun σ H Q => ta σ H fun x H1 => ∃ a C dx fs sp, x = .ref a ∧ H1 a = some (.ins C dx fs) ∧ fs.lookup m = none ∧ Disp P w K mg base CX km m C sp ∧
  t σ H1 fun vs H2 => sp (x :: vs) H2 Q (E σ)
section
variable {X : Cx} {CX : CXT} {km : Nat} {m : Str} {o e : Expr} {es : List Expr} {apos pos : Pos} {ta : TE} {t : TA} {E : L2.St → XK}
theorem run_fnS {k : Nat} {f : Addr} {fd : FuncData} {ps : List Str} {sp : Sp} {pins : List (Addr × Obj)} {σ : L2.St} {H : Hp} {s : Shared} {Q : VK} {us : List Value} {vs : List V} (F : FnOk X.prog X.w X.K X.mg X.base CX k f fd ps sp) (hr : Room k X.A) (hb : Binds X.K fd ps []) (hx : ∀ σ, PassesAt CX X σ (E σ))
    (I : Inv X pins σ H s) (r : Vals vs us) (h : sp vs H Q (E σ)) : wpAny (model X.prog X.w) X.A (call (.ref f) us) (EP X pins σ Q) X.xe s := by
  have hl : (us ++ []).length = ps.length := by rw [List.append_nil, ← r.length]; exact F.len _ _ _ _ h
  have hb' := hb s us I.kIn hl
  rw [List.append_nil] at hb'
  refine wpAny_call (codeAny_mono (F.run X.A X.stack s H ⟨us, []⟩ us vs Q (E σ) hr I.env0 hb' r h) fun r s' hq => ?_)
  cases r with
  | error e => exact hx σ pins H s e s' I hq
  | ok fl =>
    cases fl with
    | ret u => exact I.after hq
    | next => exact False.elim hq
    | brk => exact False.elim hq
    | cont => exact False.elim hq
theorem pe_methP {pl : Sem Bool} (he : PE X o ta) (hr : Room km X.A) (hx : ∀ σ, PassesAt CX X σ (E σ)) (ha : PA X (e :: es) t)
    (hst : starEach (e :: es) X.env = (false, eval e X.env) :: starEach es X.env := by rfl) (hpl : (backTo pos (starEach es X.env)).any (·.1) = false := by rfl)
    (ht : eval (.Call (.Attribute o m apos) (e :: es) [] pos) X.env = (do
      let ov ← eval o X.env
      standAt apos.atName
      let (f, first) ← holding [ov] (getMethod ov m pl)
      callWith pos f first (backTo pos (starEach (e :: es) X.env)) (backToKw pos (keywordEach [] X.env))) := by rfl) :
    PE X (.Call (.Attribute o m apos) (e :: es) [] pos) (tMethP X.prog X.w X.K X.mg X.base CX km m E ta t) := by
  refine ⟨fun pins s σ H Q I h => ?_⟩
  refine PySem.W.methodCall_KW (pl := pl) (thn (he.run pins s σ H _ I h) fun u s1 ⟨x, H1, I1, rx, a, C, dx, fs, sp, ex, ea, l, dp, q⟩ => ?_) ht
  subst ex
  obtain rfl : u = Value.ref a := rx
  obtain ⟨c, hm, F, hk, hb⟩ := dp
  refine getmeth_ok I1 ea c hm l ?_
  refine PySem.W.callWith_K (first := [.ref a]) (h₀ := X.base) I.ok.mod.kin hm.kp (thn (ha.run pos pins s1 σ H1 _ I1 q) fun us s2 ⟨vs, H2, I2, r, q2⟩ => ⟨I2.kIn, ?_⟩) hst hpl
  exact run_fnS (us := .ref a :: us) (vs := .ref a :: vs) F (hr.mono hk) hb hx I2 (.cons rfl r) q2
theorem pe_methP0 {pl : Sem Bool} (he : PE X o ta) (hr : Room km X.A) (hx : ∀ σ, PassesAt CX X σ (E σ))
    (ht : eval (.Call (.Attribute o m apos) [] [] pos) X.env = (do
      let ov ← eval o X.env
      standAt apos.atName
      let (f, first) ← holding [ov] (getMethod ov m pl)
      callWith pos f first (backTo pos (starEach [] X.env)) (backToKw pos (keywordEach [] X.env))) := by rfl) :
    PE X (.Call (.Attribute o m apos) [] [] pos) (tMethP X.prog X.w X.K X.mg X.base CX km m E ta tNil) := by
  refine ⟨fun pins s σ H Q I h => ?_⟩
  refine PySem.W.methodCall_KW (pl := pl) (thn (he.run pins s σ H _ I h) fun u s1 ⟨x, H1, I1, rx, a, C, dx, fs, sp, ex, ea, l, dp, q⟩ => ?_) ht
  subst ex
  obtain rfl : u = Value.ref a := rx
  obtain ⟨c, hm, F, hk, hb⟩ := dp
  refine getmeth_ok I1 ea c hm l ?_
  exact PySem.W.callWith_K0 (first := [.ref a]) I1.kIn hm.kp (run_fnS (us := [.ref a]) (vs := [.ref a]) F (hr.mono hk) hb hx I1 (.cons rfl .nil) q)
end
/-- classes, and what the method does there -/
abbrev MT := String → Option FS
abbrev MTX := String → Option FSX
def dMeth (m : Str) (n : Nat) (tb : MT) (de : DE) (da : DA) (γ : Env) (q : RS → Env → Prop) : Prop := de γ fun s γ1 => match s.data with
  | .obj C fl => fl.lookup m = none ∧ ∃ fs, tb C = some fs ∧ da γ1 fun rs γ2 => s.now γ2 fun s => (ownIx (s :: rs)).Nodup ∧ rs.length + 1 = n ∧ fs (argsOf 0 (s :: rs)) fun r as' => q r (upds γ2 (s :: rs) as')
  | _ => False
def dMethX (xc : DX) (m : Str) (n : Nat) (tb : MTX) (de : DE) (da : DA) (γ : Env) (q : RS → Env → Prop) : Prop := de γ fun s γ1 => match s.data with
  | .obj C fl => fl.lookup m = none ∧ ∃ fs, tb C = some fs ∧ da γ1 fun rs γ2 => s.now γ2 fun s => (ownIx (s :: rs)).Nodup ∧ rs.length + 1 = n ∧ fs (argsOf 0 (s :: rs)) (fun r as' => q r (upds γ2 (s :: rs) as')) fun nm xs as' => xc nm xs (upds γ2 (s :: rs) as')
  | _ => False
section
variable {P : Program} {w : World} {K : PySem.W.Frag} {mg : Str → Option Value} {base : Heap} {km : Nat} {B : Bs} {m : Str} {n : Nat} {te : TE} {de : DE} {ta : TA} {da : DA}
theorem se_meth {tb : MT} (hd : ∀ C fs, tb C = some fs → Disp P w K mg base CX0 km m (ctOf K C) (spOf K n fs)) (he : SE K B te de) (ha : SA K B ta da) : SE K B (tMethP P w K mg base CX0 km m (fun _ => E0) te ta) (dMeth m n tb de da) := fun F H σ γ Q q R hq k => by
  refine he F H σ γ _ _ R hq fun x F1 H1 γ1 s R1 e1 o1 h1 => ?_
  split at h1
  · rename_i C fl es
    obtain ⟨hl, fs, ht, h1⟩ := h1
    have r := o1.rs R1
    rw [es] at r
    obtain ⟨a, dx, fv, rfl, q2, q3⟩ := r.obj R1.fh
    obtain ⟨F2, R2, e2, o2⟩ := o1.fz R1
    refine ⟨a, _, dx, fv, _, rfl, q2, fs_none q3 hl, hd C fs ht, ?_⟩
    refine ha F2 H1 σ γ1 _ _ R2 h1 fun vs F3 H3 γ3 rs R3 e3 o3 h3 => ?_
    obtain ⟨s', o4, h4, h5, h6⟩ := o2.now e3 R3 h3
    have oo : Paired (RsOk K B F3 H3 σ γ3) (.ref a :: vs) (s' :: rs) := .cons o4 o3
    obtain ⟨m', hm, RE⟩ := R3.args (dvs := []) (dds := []) oo .nil h4
    simp only [List.append_nil, List.map_nil] at RE
    refine ⟨by simp only [List.length_cons]; rw [P_len o3]; omega, F3, m', _, _, _, RE, h6, fun r as' v F4 H4 hp R4 ok hk => ?_⟩
    obtain ⟨R5, e5, ok5⟩ := R3.called oo h4 (fun i v hv => hv) hm R4
    exact k v F4 H4 _ r R5 (((e1.trans e2).trans e3).trans e5) (ok5 v r hk ok) hp
  · exact h1.elim
theorem se_methX {ct : Nat → Addr} {W : WX} {xc : DX} {tb : MTX} (hd : ∀ C fs, tb C = some fs → Disp P w K mg base (L2N.CX P w) km m (ctOf K C) (spOfX K ct n fs)) (xo : XOk K ct B W xc) (he : SE K B te de) (ha : SA K B ta da) : SE K B (tMethP P w K mg base (L2N.CX P w) km m (WE W) te ta) (dMethX xc m n tb de da) := fun F H σ γ Q q R hq k => by
  refine he F H σ γ _ _ R hq fun x F1 H1 γ1 s R1 e1 o1 h1 => ?_
  split at h1
  · rename_i C fl es
    obtain ⟨hl, fs, ht, h1⟩ := h1
    have r := o1.rs R1
    rw [es] at r
    obtain ⟨a, dx, fv, rfl, q2, q3⟩ := r.obj R1.fh
    obtain ⟨F2, R2, e2, o2⟩ := o1.fz R1
    refine ⟨a, _, dx, fv, _, rfl, q2, fs_none q3 hl, hd C fs ht, ?_⟩
    refine ha F2 H1 σ γ1 _ _ R2 h1 fun vs F3 H3 γ3 rs R3 e3 o3 h3 => ?_
    obtain ⟨s', o4, h4, h5, h6⟩ := o2.now e3 R3 h3
    have oo : Paired (RsOk K B F3 H3 σ γ3) (.ref a :: vs) (s' :: rs) := .cons o4 o3
    have cc := call_core (W := WE W σ) (ct := ct) (n := n) (fs := fs) (dvs := []) (dds := []) (q := q) .nil R3 oo (fun F' H' γ' nm dd fs R' xd hx => xo F' H' σ γ' nm dd fs R' xd hx) h4 (by simp; omega) (by simpa using h6) fun v F' H' γ' s' R' e' o' hq => k v F' H' γ' s' R' (((e1.trans e2).trans e3).trans e') o' hq
    rw [List.append_nil] at cc
    exact cc
  · exact h1.elim
end
section
variable {X : Cx} {km : Nat} {B : Bs} {o a : Expr} {es : List Expr} {apos pos : Pos} {te : TE} {de : DE} {ta : TA} {da : DA} {n : Nat}
theorem x_meth (P : Program) (w : World) (K : PySem.W.Frag) (mg : Str → Option Value) (base : Heap) (hX : (X.prog, X.w, X.K, X.mg, X.base) = (P, w, K, mg, base)) (hr : Room km X.A) (m : Str) {tb : MT} {pl : Sem Bool} (hd : ∀ C fs, tb C = some fs → Disp P w K mg base CX0 km m (ctOf K C) (spOf K n fs)) (ho : XE X B o te de) (h : XA X B (a :: es) ta da)
    (hst : starEach (a :: es) X.env = (false, eval a X.env) :: starEach es X.env := by rfl) (hpl : (backTo pos (starEach es X.env)).any (·.1) = false := by rfl)
    (ht : eval (.Call (.Attribute o m apos) (a :: es) [] pos) X.env = (do
      let ov ← eval o X.env
      standAt apos.atName
      let (f, first) ← holding [ov] (getMethod ov m pl)
      callWith pos f first (backTo pos (starEach (a :: es) X.env)) (backToKw pos (keywordEach [] X.env))) := by rfl) :
    XE X B (.Call (.Attribute o m apos) (a :: es) [] pos) (tMethP P w K mg base CX0 km m (fun _ => E0) te ta) (dMeth m n tb de da) := by
  cases hX
  exact ⟨pe_methP ho.pe hr (fun _ _ _ _ _ _ h => pass0 _ _ _ _ _ _ h) h.pa hst hpl ht, se_meth hd ho.se h.sa⟩
theorem x_meth0 (P : Program) (w : World) (K : PySem.W.Frag) (mg : Str → Option Value) (base : Heap) (hX : (X.prog, X.w, X.K, X.mg, X.base) = (P, w, K, mg, base)) (hr : Room km X.A) (m : Str) {tb : MT} {pl : Sem Bool} (hd : ∀ C fs, tb C = some fs → Disp P w K mg base CX0 km m (ctOf K C) (spOf K n fs)) (ho : XE X B o te de)
    (ht : eval (.Call (.Attribute o m apos) [] [] pos) X.env = (do
      let ov ← eval o X.env
      standAt apos.atName
      let (f, first) ← holding [ov] (getMethod ov m pl)
      callWith pos f first (backTo pos (starEach [] X.env)) (backToKw pos (keywordEach [] X.env))) := by rfl) :
    XE X B (.Call (.Attribute o m apos) [] [] pos) (tMethP P w K mg base CX0 km m (fun _ => E0) te tNil) (dMeth m n tb de dNil) := by
  cases hX
  exact ⟨pe_methP0 ho.pe hr (fun _ _ _ _ _ _ h => pass0 _ _ _ _ _ _ h) ht, se_meth hd ho.se sa_nil⟩
theorem x_methX (P : Program) (w : World) (K : PySem.W.Frag) (mg : Str → Option Value) (base : Heap) (hX : (X.prog, X.w, X.K, X.mg, X.base) = (P, w, K, mg, base)) (hr : Room km X.A) (m : Str) {ct : Nat → Addr} {W : WX} {xc : DX} {tb : MTX} {pl : Sem Bool} (xo : XOk K ct B W xc) (tk : L2N.Takes X W) (hd : ∀ C fs, tb C = some fs → Disp P w K mg base (L2N.CX P w) km m (ctOf K C) (spOfX K ct n fs)) (ho : XE X B o te de) (h : XA X B (a :: es) ta da)
    (hst : starEach (a :: es) X.env = (false, eval a X.env) :: starEach es X.env := by rfl) (hpl : (backTo pos (starEach es X.env)).any (·.1) = false := by rfl)
    (ht : eval (.Call (.Attribute o m apos) (a :: es) [] pos) X.env = (do
      let ov ← eval o X.env
      standAt apos.atName
      let (f, first) ← holding [ov] (getMethod ov m pl)
      callWith pos f first (backTo pos (starEach (a :: es) X.env)) (backToKw pos (keywordEach [] X.env))) := by rfl) :
    XE X B (.Call (.Attribute o m apos) (a :: es) [] pos) (tMethP P w K mg base (L2N.CX P w) km m (WE W) te ta) (dMethX xc m n tb de da) := by
  cases hX
  exact ⟨pe_methP ho.pe hr (fun σ => L2N.passAt tk σ) h.pa hst hpl ht, se_methX hd xo ho.se h.sa⟩
theorem x_methX0 (P : Program) (w : World) (K : PySem.W.Frag) (mg : Str → Option Value) (base : Heap) (hX : (X.prog, X.w, X.K, X.mg, X.base) = (P, w, K, mg, base)) (hr : Room km X.A) (m : Str) {ct : Nat → Addr} {W : WX} {xc : DX} {tb : MTX} {pl : Sem Bool} (xo : XOk K ct B W xc) (tk : L2N.Takes X W) (hd : ∀ C fs, tb C = some fs → Disp P w K mg base (L2N.CX P w) km m (ctOf K C) (spOfX K ct n fs)) (ho : XE X B o te de)
    (ht : eval (.Call (.Attribute o m apos) [] [] pos) X.env = (do
      let ov ← eval o X.env
      standAt apos.atName
      let (f, first) ← holding [ov] (getMethod ov m pl)
      callWith pos f first (backTo pos (starEach [] X.env)) (backToKw pos (keywordEach [] X.env))) := by rfl) :
    XE X B (.Call (.Attribute o m apos) [] [] pos) (tMethP P w K mg base (L2N.CX P w) km m (WE W) te tNil) (dMethX xc m n tb de dNil) := by
  cases hX
  exact ⟨pe_methP0 ho.pe hr (fun σ => L2N.passAt tk σ) ht, se_methX hd xo ho.se sa_nil⟩
end
end DL

set_option Elab.async false
set_option linter.all false
set_option maxRecDepth 100000
set_option maxHeartbeats 2000000
namespace DL
open PySem PySem.Spec PyProof.Rows L2
open Evl (Ex ex_l ex_t)
/-! ### *e in a display -/
def seqD : D → (List D → Prop) → Prop
  | .lst ds, q => q ds
  | .tup ds, q => q ds
  | .scr ns, q => q (ns.map D.int)
  | _, _ => False
theorem seqD_of {d : D} {q : List D → Prop} (h : seqD d q) : ∃ ds, (d = .lst ds ∨ d = .tup ds ∨ (∃ ns, d = .scr ns ∧ ds = ns.map D.int)) ∧ q ds := by
  unfold seqD at h
  split at h
  · exact ⟨_, .inl rfl, h⟩
  · exact ⟨_, .inr (.inl rfl), h⟩
  · exact ⟨_, .inr (.inr ⟨_, rfl, rfl⟩), h⟩
  · exact h.elim
theorem vals_ok {K : PySem.W.Frag} {B : Bs} {F H : Hp} {σ : L2.St} {γ : Env} : ∀ {vs : List V} {ds : List D}, RpAll (B.kz K) F vs ds → Paired (RsOk K B F H σ γ) vs (ds.map RS.val)
  | _, _, .nil => .nil
  | _, _, .cons h t => .cons h (vals_ok t)
def dStar (de : DE) (dr : DA) (γ : Env) (q : List RS → Env → Prop) : Prop := de γ fun s γ1 => seqD s.data fun ds => dr γ1 fun rs γ2 => q (ds.map RS.val ++ rs) γ2
theorem sa_star {K : PySem.W.Frag} {B : Bs} {te : TE} {de : DE} {tr : TA} {dr : DA} (se : SE K B te de) (sr : SA K B tr dr) : SA K B (StX.tStar K te tr) (dStar de dr) := fun F H σ γ Q q R hq k => by
  refine se F H σ γ _ _ R hq fun x F1 H1 γ1 s R1 e1 o1 h1 => ?_
  obtain ⟨ds, hd, h1⟩ := seqD_of h1
  obtain ⟨F2, R2, e2, o2⟩ := o1.fz R1
  have rx := o2.rs R2
  rw [RS.fz_data] at rx
  obtain ⟨a, vs, rfl, hs, ra⟩ := rx.seq R2.fh hd
  refine ⟨a, vs, rfl, hs.symm, sr F2 H1 σ γ1 _ _ R2 h1 fun ws F3 H3 γ3 rs R3 e3 o3 h3 => ?_⟩
  exact k _ F3 H3 γ3 _ R3 ((e1.trans e2).trans e3) (P_app (vals_ok (ra.mono e3)) o3) h3
theorem xa_star {X : Cx} {B : Bs} {e : Expr} {es : List Expr} {p : Pos} {te : TE} {de : DE} {tr : TA} {dr : DA} (K : PySem.W.Frag) (hK : X.K = K) (he : XE X B e te de) (hr : XA X B es tr dr) (hs : starEach (.Starred e p :: es) X.env = (true, eval e X.env) :: starEach es X.env := by rfl) : XA X B (.Starred e p :: es) (StX.tStar K te tr) (dStar de dr) := by
  subst hK
  exact ⟨StX.pa_star he.pe hr.pa, sa_star he.se hr.sa⟩
/-! ### slices of tuples, t + u -/
section
variable {K : PySem.W.Frag}
theorem cut_whole {α : Type} {xs : List α} {lo hi : Option Int} (h : HT.sIx xs.length 0 lo = 0 ∧ HT.sIx xs.length xs.length hi = xs.length) : cut xs lo hi = xs := by
  unfold cut
  rw [h.1, h.2]
  simp
/-- the same, or a new one -/
theorem sd_tup : SlD K (rSlA K) fSlT := fun B F H σ γ x d lo hi Q q R rx hf k => by
  unfold fSlT at hf
  split at hf
  · rename_i xs
    have rf := rx.tupF
    obtain ⟨a, vs, rfl, h1, r1⟩ := rx.tup R.fh
    refine ⟨a, vs, rfl, h1, fun hw => ?_, fun _ p hp => ?_⟩
    · rw [r1.length] at hw
      rw [cut_whole hw] at hf
      exact vk R k rf hf
    · obtain ⟨R', ex, rp⟩ := R.newT hp (RpAll.of (cut_p r1.p))
      exact k _ _ _ (.val _) R' ex rp hf
  · exact hf.elim
def fCatT : D → D → (RS → Prop) → Prop
  | .tup xs, .tup ys, q => xs.length + ys.length ≤ 1000000 ∧ q (.val (.tup (xs ++ ys)))
  | _, _, _ => False
theorem od_catT : OpD K (rCatA K) fCatT := fun B F H σ γ x y d e Q q R rx ry hf k => by
  unfold fCatT at hf
  split at hf
  · rename_i xs ys
    have rfx := rx.tupF
    have rfy := ry.tupF
    obtain ⟨a, vs, rfl, h1, r1⟩ := rx.tup R.fh
    obtain ⟨b, ws, rfl, h2, r2⟩ := ry.tup R.fh
    refine ⟨a, b, vs, ws, rfl, rfl, h1, h2, sz_le (by rw [r1.length, r2.length]; exact hf.1), fun e => ?_, fun _ e => ?_, fun _ _ p hp => ?_⟩
    · subst e
      cases r1
      exact vk R k rfy hf.2
    · subst e
      cases r2
      rw [List.append_nil] at hf
      exact vk R k rfx hf.2
    · obtain ⟨R', ex, rp⟩ := R.newT hp (RpAll.of (P_app r1.p r2.p))
      exact k _ _ _ (.val _) R' ex rp hf.2
  · exact hf.elim
end
/-! ### == told by the data's form -/
theorem deq_self {d : D} (h : dOk d = true) : deq d d = true := by
  unfold dOk SeqAt.shaped at h
  simp only [Bool.and_eq_true] at h
  exact PySem.SeqAt.eqv_refl _ h.2.1
theorem deq_int {i j : Int} : deq (.int i) (.int j) = decide (i = j) := by
  unfold deq
  simp only [D.py, PyData.eqv]
  exact Bool.beq_eq_decide_eq i j
theorem deq_str {i j : Str} : deq (.str i) (.str j) = decide (i = j) := by
  unfold deq
  simp only [D.py, PyData.eqv]
  by_cases z : i = j
  · subst z; simp
  · rw [decide_eq_false z]; exact beq_eq_false_iff_ne.mpr z
theorem deq_tcons {x y : D} {xs ys : List D} : deq (.tup (x :: xs)) (.tup (y :: ys)) = (deq x y && deq (.tup xs) (.tup ys)) := by
  unfold deq
  simp only [D.py, pyAll, PyData.eqv, PyData.eqvAll]
theorem deq_tnil : deq (.tup []) (.tup []) = true := rfl
theorem deq_lcons {x y : D} {xs ys : List D} : deq (.lst (x :: xs)) (.lst (y :: ys)) = (deq x y && deq (.lst xs) (.lst ys)) := by
  unfold deq
  simp only [D.py, pyAll, PyData.eqv, PyData.eqvAll]
theorem deq_lnil : deq (.lst []) (.lst []) = true := rfl
theorem deq_tints (ns ms : List Int) : deq (.tup (ns.map D.int)) (.tup (ms.map D.int)) = decide (ns = ms) := deq_tup eqF_int (fun _ _ => trivial) fun _ _ => trivial
theorem dOk_tints (ns : List Int) : dOk (.tup (ns.map D.int)) = true := dOk_of (ok_tup fun x _ => ok_int x) (by decide)
theorem okN_str {s : Str} (h : (PyData.str s).canLay0 = true) : dOkN 0 (.str s) = true := by
  unfold dOkN
  simp only [D.pure, D.py, PyData.depth, h, Bool.true_and, decide_eq_true_eq]
  omega
theorem okN_tup {n : Nat} {xs : List D} (h : ∀ x ∈ xs, dOkN n x = true) : dOkN (n + 1) (.tup xs) = true := by
  have := ok_tup (f := fun d : D => d) (xs := xs) h
  rwa [List.map_id'] at this
theorem okN_lst {n : Nat} {xs : List D} (h : ∀ x ∈ xs, dOkN n x = true) : dOkN (n + 1) (.lst xs) = true := by
  have := ok_lst (f := fun d : D => d) (xs := xs) h
  rwa [List.map_id'] at this
/-! ### written texts told apart -/
theorem ofS_inj {a b : String} : (Str.ofString a = Str.ofString b) = (a = b) := by
  refine propext ⟨fun h => ?_, fun h => by rw [h]⟩
  rw [Str.ofString_eq_toList, Str.ofString_eq_toList] at h
  have h2 : a.toList.map Char.toNat = b.toList.map Char.toNat := by
    injection h with h
    simpa using congrArg Array.toList h
  have inj : ∀ {x y : List Char}, x.map Char.toNat = y.map Char.toNat → x = y := fun {x} => by
    induction x with
    | nil => intro y h; cases y with
      | nil => rfl
      | cons c y => simp at h
    | cons d x ih => intro y h; cases y with
      | nil => simp at h
      | cons c y =>
        simp only [List.map_cons, List.cons.injEq] at h
        have e : d = c := Char.toNat_inj.mp h.1
        rw [e, ih h.2]
  exact String.toList_inj.mp (inj h2)
theorem ofS_beq {a b : String} : (Str.ofString a == Str.ofString b) = (a == b) := by
  by_cases h : a = b
  · subst h; simp
  · rw [beq_eq_false_iff_ne.mpr h]
    exact beq_eq_false_iff_ne.mpr fun z => h (by rwa [ofS_inj] at z)
theorem allV_app {ds : List D} {rs : List RS} : allV (ds.map RS.val ++ rs) = allV rs := by
  induction ds with
  | nil => rfl
  | cons d ds ih => exact ih
theorem allV_vals {ds : List D} : allV (ds.map RS.val) = True := by
  induction ds with
  | nil => rfl
  | cons d ds ih => exact ih
theorem data_app {ds : List D} {rs : List RS} : (ds.map RS.val ++ rs).map RS.data = ds ++ rs.map RS.data := by
  induction ds with
  | nil => rfl
  | cons d ds ih => simp only [List.map_cons, List.cons_append, ih]; rfl
theorem data_vals {ds : List D} : (ds.map RS.val).map RS.data = ds := by
  induction ds with
  | nil => rfl
  | cons d ds ih => simp only [List.map_cons, ih]; rfl
end DL

set_option Elab.async false
set_option linter.all false
set_option maxRecDepth 100000
set_option maxHeartbeats 2000000
namespace DL
open PySem PySem.Spec PyProof.Rows L2
open Evl (Ex ex_l ex_t)
/-! ### lists that are lent; what comes back holds no list -/
mutual
def D.nol : D → Bool
  | .lst _ => false | .scr _ => false | .fr _ => false
  | .tup xs => nolAll xs | .obj _ fs => nolF fs | .dct kd => nolK kd
  | _ => true
def nolAll : List D → Bool
  | [] => true
  | x :: xs => x.nol && nolAll xs
def nolF : List (Str × D) → Bool
  | [] => true
  | (_, x) :: xs => x.nol && nolF xs
def nolK : List (Key × D) → Bool
  | [] => true
  | (_, x) :: xs => x.nol && nolK xs
end
theorem nolK_map {α : Type} {f : α → Key × D} (h : ∀ x, (f x).2.nol = true) : ∀ xs : List α, nolK (xs.map f) = true
  | [] => rfl
  | x :: xs => by rw [List.map_cons, show nolK (f x :: xs.map f) = ((f x).2.nol && nolK (xs.map f)) from rfl, h x, nolK_map h xs]; rfl
theorem nolAll_map {α : Type} {f : α → D} (h : ∀ x, (f x).nol = true) : ∀ xs : List α, nolAll (xs.map f) = true
  | [] => rfl
  | x :: xs => by rw [List.map_cons, nolAll, h x, nolAll_map h xs]; rfl
theorem nol_ints (ns : List Int) : nolAll (ns.map D.int) = true := nolAll_map (fun _ => rfl) ns
theorem nol_strs (ns : List Str) : nolAll (ns.map D.str) = true := nolAll_map (fun _ => rfl) ns
section
variable {K : PySem.W.Frag} {z : Addr → Prop} {F F' : Hp}
mutual
theorem Rp.off (ht : ∀ a xs, F a = some (.tup xs) → F' a = some (.tup xs)) (hk : ∀ a kv, F a = some (.dK kv) → F' a = some (.dK kv)) (hi : ∀ a C dx fs, F a = some (.ins C dx fs) → F dx = some (.own a) → F' a = some (.ins C dx fs) ∧ F' dx = some (.own a)) (hs : ∀ a vs, SqT K F a vs → SqT K F' a vs) : ∀ {v : V} {d : D}, Rp ⟨K, z⟩ F v d → d.nol = true → Rp ⟨K, z⟩ F' v d
  | _, _, .non, _ => .non
  | _, _, .bl b, _ => .bl b
  | _, _, .int b, _ => .int b
  | _, _, .str b, _ => .str b
  | _, _, .ref b, _ => .ref b
  | _, _, .ty b, _ => .ty b
  | _, _, .kls b, _ => .kls b
  | _, _, .lst h a, n => absurd n (by simp [D.nol])
  | _, _, .scr h, n => absurd n (by simp [D.nol])
  | _, _, .dct h a, n => .dct (hk _ _ h) (RpKs.off ht hk hi hs a n)
  | _, _, .fr h a, n => absurd n (by simp [D.nol])
  | _, _, .tup h a, n => .tup (hs _ _ h) (RpAll.off ht hk hi hs a n)
  | _, _, .obj h1 h2 a, n => .obj (hi _ _ _ _ h1 h2).1 (hi _ _ _ _ h1 h2).2 (RpFs.off ht hk hi hs a n)
theorem RpAll.off (ht : ∀ a xs, F a = some (.tup xs) → F' a = some (.tup xs)) (hk : ∀ a kv, F a = some (.dK kv) → F' a = some (.dK kv)) (hi : ∀ a C dx fs, F a = some (.ins C dx fs) → F dx = some (.own a) → F' a = some (.ins C dx fs) ∧ F' dx = some (.own a)) (hs : ∀ a vs, SqT K F a vs → SqT K F' a vs) : ∀ {v : List V} {d : List D}, RpAll ⟨K, z⟩ F v d → nolAll d = true → RpAll ⟨K, z⟩ F' v d
  | _, _, .nil, _ => .nil
  | _, _, .cons h t, n => .cons (Rp.off ht hk hi hs h (Bool.and_eq_true_iff.mp n).1) (RpAll.off ht hk hi hs t (Bool.and_eq_true_iff.mp n).2)
theorem RpFs.off (ht : ∀ a xs, F a = some (.tup xs) → F' a = some (.tup xs)) (hk : ∀ a kv, F a = some (.dK kv) → F' a = some (.dK kv)) (hi : ∀ a C dx fs, F a = some (.ins C dx fs) → F dx = some (.own a) → F' a = some (.ins C dx fs) ∧ F' dx = some (.own a)) (hs : ∀ a vs, SqT K F a vs → SqT K F' a vs) : ∀ {v : List (Str × V)} {d : List (Str × D)}, RpFs ⟨K, z⟩ F v d → nolF d = true → RpFs ⟨K, z⟩ F' v d
  | _, _, .nil, _ => .nil
  | _, _, .cons h t, n => .cons (Rp.off ht hk hi hs h (Bool.and_eq_true_iff.mp n).1) (RpFs.off ht hk hi hs t (Bool.and_eq_true_iff.mp n).2)
theorem RpKs.off (ht : ∀ a xs, F a = some (.tup xs) → F' a = some (.tup xs)) (hk : ∀ a kv, F a = some (.dK kv) → F' a = some (.dK kv)) (hi : ∀ a C dx fs, F a = some (.ins C dx fs) → F dx = some (.own a) → F' a = some (.ins C dx fs) ∧ F' dx = some (.own a)) (hs : ∀ a vs, SqT K F a vs → SqT K F' a vs) : ∀ {v : List (Key × V)} {d : List (Key × D)}, RpKs ⟨K, z⟩ F v d → nolK d = true → RpKs ⟨K, z⟩ F' v d
  | _, _, .nil, _ => .nil
  | _, _, .cons h t, n => .cons (Rp.off ht hk hi hs h (Bool.and_eq_true_iff.mp n).1) (RpKs.off ht hk hi hs t (Bool.and_eq_true_iff.mp n).2)
end
end
/-- owned lists alone are lent -/
def lentL : List RS → Prop
  | [] => True
  | .val _ :: r => lentL r
  | .own _ (.lst _) :: r => lentL r
  | _ :: _ => False
section
variable {K : PySem.W.Frag} {B : Bs} {F H : Hp} {σ : L2.St} {γ : Env}
theorem Rep.freezeL (R : Rep K B F H σ γ) {i : Nat} {p : Option Nat} {ds : List D} (e : look γ i = .own p (.lst ds)) : ∃ a vs, σ[i]? = some (some (.ref a)) ∧ H a = some (.lst vs) ∧ Rep K B (upd F a (.lst vs)) H σ (put γ i (.val (.lst ds))) ∧ Ex F (upd F a (.lst vs)) ∧ Rp (B.kz K) (upd F a (.lst vs)) (.ref a) (.lst ds) := by
  obtain ⟨a, hs, hg, fa, ok⟩ := R.own e
  have R0 : Rep K B F H σ (put γ i .no) := R.told (fun _ _ => trivial) (fun _ _ z => by cases z)
  have na : ∀ (j : Nat) q c', (put γ i .no)[j]? = some (.own q c') → σ[j]? ≠ some (some (.ref a)) := fun j q c' h1 h2 => by
    rcases get_put h1 with ⟨_, z⟩ | ⟨n, z⟩
    · cases z
    · exact n (R.nd j i a q c' p _ z hg h2 hs)
  have b5 := R.b5 i a p _ hg hs
  obtain ⟨vs, h1, h2⟩ := ok
  obtain ⟨R', ex⟩ := R0.freeze h1 fa b5 fun i q c' hg => ⟨na i q c' hg, fun x _ z => by cases z⟩
  have rp : Rp (B.kz K) (upd F a (.lst vs)) (.ref a) (.lst ds) := .lst upd_same (h2.mono ex)
  have q := R'.told (i := i) (t := .val (.lst ds)) (fun s hs' => by rw [hs] at hs'; cases hs'; exact ⟨_, rfl, rp⟩) (fun _ _ z => by cases z)
  have pp : put (put γ i .no) i (.val (.lst ds)) = put γ i (.val (.lst ds)) := by rw [put_set, put_set, put_set, List.set_set]
  rw [pp] at q
  exact ⟨a, vs, hs, h1, q, ex, rp⟩
theorem Rep.lendL {B : Bs} {H : Hp} {σ : L2.St} : ∀ {vs : List V} {rs : List RS} {F : Hp} {γ : Env}, Rep K B F H σ γ → Paired (fun v r => (∃ d, r = .val d ∧ Rp (B.kz K) F v d) ∨ ∃ j ds, r = .own j (.lst ds) ∧ σ[j]? = some (some v) ∧ (∃ p, look γ j = .own p (.lst ds)) ∨ r = .own j (.lst ds) ∧ Rp (B.kz K) F v (.lst ds)) vs rs →
    ∃ F', Ex F F' ∧ Ex F' H ∧ RpAll (B.kz K) F' vs (rs.map RS.data) ∧ ∀ b, F' b = F b ∨ ∃ xs, H b = some (.lst xs)
  | _, _, F, γ, R, .nil => ⟨F, Evl.Ex.refl F, R.fh, .nil, fun _ => .inl rfl⟩
  | _, _, F, γ, R, @Paired.cons _ _ _ v r vs rs h t => by
    have step : ∃ F1 γ1, Rep K B F1 H σ γ1 ∧ Ex F F1 ∧ Rp (B.kz K) F1 v r.data ∧ (∀ b, F1 b = F b ∨ ∃ xs, H b = some (.lst xs)) ∧ ∀ j p ds, look γ j = .own p (.lst ds) → look γ1 j = .own p (.lst ds) ∨ ∃ a, σ[j]? = some (some (.ref a)) ∧ Rp (B.kz K) F1 (.ref a) (.lst ds) := by
      rcases h with ⟨d, rfl, h⟩ | ⟨j, ds, ⟨rfl, hs, p, hp⟩ | ⟨rfl, h⟩⟩
      · exact ⟨F, γ, R, Evl.Ex.refl F, h, fun _ => .inl rfl, fun j p c h => .inl h⟩
      · obtain ⟨a, ws, hs', ha, R1, e1, r1⟩ := R.freezeL hp
        rw [hs] at hs'
        cases hs'
        refine ⟨_, _, R1, e1, r1, fun b => ?_, fun i p' c' hl => ?_⟩
        · by_cases hb : b = a
          · subst hb; exact .inr ⟨ws, ha⟩
          · exact .inl (upd_ne hb)
        · by_cases e : i = j
          · subst e
            rw [hp] at hl
            cases hl
            exact .inr ⟨a, hs, r1⟩
          · refine .inl (look_of ?_)
            have := of_look hl (by intro z; cases z)
            rw [put_set, List.getElem?_set_ne (Ne.symm e)]
            exact this
      · exact ⟨F, γ, R, Evl.Ex.refl F, h, fun _ => .inl rfl, fun j p c h => .inl h⟩
    obtain ⟨F1, γ1, R1, e1, r1, d1, hk⟩ := step
    obtain ⟨F2, e2, e3, r2, d2⟩ := Rep.lendL (vs := vs) (rs := rs) R1 (P_mono (fun v r h => by
      rcases h with ⟨d, rfl, h⟩ | ⟨j, c, ⟨rfl, hs, p, hp⟩ | ⟨rfl, h⟩⟩
      · exact .inl ⟨d, rfl, h.mono e1⟩
      · rcases hk j p c hp with z | ⟨a, z1, z2⟩
        · exact .inr ⟨j, c, .inl ⟨rfl, hs, p, z⟩⟩
        · rw [hs] at z1
          cases z1
          exact .inr ⟨j, c, .inr ⟨rfl, z2⟩⟩
      · exact .inr ⟨j, c, .inr ⟨rfl, h.mono e1⟩⟩) t)
    refine ⟨F2, e1.trans e2, e3, .cons (r1.mono e2) r2, fun b => ?_⟩
    rcases d2 b with z | z
    · rw [z]; exact d1 b
    · exact .inr z
theorem lentP : ∀ {vs : List V} {rs : List RS}, Paired (RsOk K B F H σ γ) vs rs → lentL rs → Paired (fun v r => (∃ d, r = .val d ∧ Rp (B.kz K) F v d) ∨ ∃ j ds, r = .own j (.lst ds) ∧ σ[j]? = some (some v) ∧ (∃ p, look γ j = .own p (.lst ds)) ∨ r = .own j (.lst ds) ∧ Rp (B.kz K) F v (.lst ds)) vs rs
  | _, _, .nil, _ => .nil
  | _, .val d :: _, .cons h t, n => .cons (.inl ⟨d, rfl, h⟩) (lentP t n)
  | _, .own j (.lst ds) :: _, .cons ⟨hs, p, hg⟩ t, n => .cons (.inr ⟨j, ds, .inl ⟨rfl, hs, p, look_of hg⟩⟩) (lentP t n)
/-- what stood stays as it was, what is new may stay -/
def newF (H1 F1 F3 : Hp) : Hp := fun a => match H1 a with
  | none => F3 a
  | some _ => F1 a
theorem newF_old {H1 F1 F3 : Hp} {a : Addr} {o : HO} (h : H1 a = some o) : newF H1 F1 F3 a = F1 a := by unfold newF; rw [h]
theorem newF_new {H1 F1 F3 : Hp} {a : Addr} (h : H1 a = none) : newF H1 F1 F3 a = F3 a := by unfold newF; rw [h]
/-- behind a call to which lists were lent -/
theorem lend_back {F1 H1 F2 F3 H3 : Hp} (R1 : Rep K B F1 H1 σ γ) (fh : Ex F3 H3) (eH : Ex H1 H3) (s3 : ∀ b o, H1 b = some o → F3 b = F2 b) (s2 : ∀ b, F2 b = F1 b ∨ ∃ xs, H1 b = some (.lst xs)) :
    Rep K B (newF H1 F1 F3) H3 σ γ ∧ Ex F1 (newF H1 F1 F3) ∧ (∀ v d, Rp (B.kz K) F3 v d → d.nol = true → Rp (B.kz K) (newF H1 F1 F3) v d) ∧ (∀ v d, RpAll (B.kz K) F3 v d → nolAll d = true → RpAll (B.kz K) (newF H1 F1 F3) v d) ∧ ∀ v d, RpFs (B.kz K) F3 v d → nolF d = true → RpFs (B.kz K) (newF H1 F1 F3) v d := by
  have eF : Ex F1 (newF H1 F1 F3) := fun a o e => by rw [newF_old (R1.fh a o e)]; exact e
  have same : ∀ a o, F3 a = some o → (∀ xs, o ≠ .lst xs) → newF H1 F1 F3 a = some o := fun a o e n => by
    cases h : H1 a with
    | none => rw [newF_new h]; exact e
    | some o' =>
      rw [newF_old h]
      rcases s2 a with z | ⟨xs, z⟩
      · rw [← z, ← s3 a o' h]; exact e
      · have := fh a o e
        rw [eH a _ z] at this
        cases this
        exact absurd rfl (n xs)
  have ht : ∀ a xs, F3 a = some (.tup xs) → newF H1 F1 F3 a = some (.tup xs) := fun a xs e => same a _ e fun _ z => by cases z
  have hk : ∀ a kv, F3 a = some (.dK kv) → newF H1 F1 F3 a = some (.dK kv) := fun a kv e => same a _ e fun _ z => by cases z
  have hi : ∀ a C dx fs, F3 a = some (.ins C dx fs) → F3 dx = some (.own a) → newF H1 F1 F3 a = some (.ins C dx fs) ∧ newF H1 F1 F3 dx = some (.own a) := fun a C dx fs e1 e2 => ⟨same a _ e1 (fun _ z => by cases z), same dx _ e2 (fun _ z => by cases z)⟩
  have hs : ∀ a vs, SqT K F3 a vs → SqT K (newF H1 F1 F3) a vs := fun a vs h => by
    rcases h with (h | ⟨o, h⟩) | h
    · exact .inl (.inl (same a _ h fun _ z => by cases z))
    · exact .inl (.inr ⟨o, same a _ h fun _ z => by cases z⟩)
    · exact .inr h
  refine ⟨R1.later (fun a o e => ?_) eH eF fun b o e => newF_old e, eF, fun v d r n => Rp.off ht hk hi hs r n, fun v d r n => RpAll.off ht hk hi hs r n, fun v d r n => RpFs.off ht hk hi hs r n⟩
  cases h : H1 a with
  | none => rw [newF_new h] at e; exact fh a o e
  | some o' => rw [newF_old h] at e; exact eH a o (R1.fh a o e)
end
/-- what comes back -/
def lendN : RS → (RS → Prop) → Prop
  | .val d, q => d.nol = true ∧ q (.val d)
  | .new (.lst ds), q => nolAll ds = true ∧ q (.new (.lst ds))
  | .new (.ins C fs), q => nolF fs = true ∧ q (.new (.ins C fs))
  | _, _ => False
def dCallN (n : Nat) (fs : FS) (da : DA) (γ : Env) (q : RS → Env → Prop) : Prop := da γ fun rs γ1 => lentL rs ∧ rs.length = n ∧ fs (rs.map fun r => Sx.val r.data) fun r _ => lendN r fun r => q r γ1
def dMakeL (C : String) (n : Nat) (fs : FS) (dds : List D) (da : DA) (γ : Env) (q : RS → Env → Prop) : Prop := da γ fun rs γ1 => lentL rs ∧ rs.length + dds.length + 1 = n ∧
  fs (.own (some 0) (.ins C []) :: ((rs.map fun r => Sx.val r.data) ++ dds.map Sx.val)) fun r as' => r = .val .non ∧ match as' with
    | .own _ (.ins C' fs') :: _ => C' = C ∧ nolF fs' = true ∧ q (.new (.ins C fs')) γ1
    | _ => False
section
variable {K : PySem.W.Frag} {B : Bs}
theorem se_callLN {n : Nat} {fs : FS} {E : XK} {ta : TA} {da : DA} (h : SA K B ta da) : SE K B (tCall (spOf K n fs) [] E ta) (dCallN n fs da) := fun F H σ γ Q q R hq k => by
  refine h F H σ γ _ _ R hq fun vs F1 H1 γ1 rs R1 e1 o1 ⟨h0, h2, h3⟩ => ?_
  obtain ⟨F2, e2, e3, all, s2⟩ := Rep.lendL R1 (lentP o1 h0)
  have RE : Rep K (entry F2 H1 [] R1.zn (vs ++ [])) F2 H1 ((vs ++ []).map some) (rs.map fun r => Sx.val r.data) := by
    have none : ∀ {i : Nat} {p : Option Nat} {c : OC}, (rs.map fun r => Sx.val r.data)[i]? ≠ some (.own p c) := fun {i p c} h => by
      rw [List.getElem?_map] at h
      cases q : rs[i]? with
      | none => rw [q] at h; cases h
      | some d => rw [q] at h; cases h
    rw [List.append_nil]
    refine ⟨e3, by rw [List.length_map, List.length_map, P_len o1], fun i s t hs hg => ?_, fun i j a p c q c' h1 => absurd h1 none, fun b o e => ⟨fun _ => e, o, e⟩, Evl.Ex.refl F2, fun b o _ _ => rfl, fun i a p c h1 => absurd h1 none, fun i a p c h1 => absurd h1 none, fun b o e => ⟨o, e⟩, fun a o e => ⟨o, e, .refl o⟩⟩
    rw [List.getElem?_map] at hs hg
    cases q : rs[i]? with
    | none => rw [q] at hg; cases hg
    | some d =>
      rw [q] at hg
      cases hg
      obtain ⟨v, hv, r⟩ := P_get all.p (show (rs.map RS.data)[i]? = some d.data by rw [List.getElem?_map, q]; rfl)
      rw [hv] at hs
      exact ⟨v, (Option.some.inj hs).symm, r⟩
  refine ⟨by rw [List.append_nil, P_len o1]; exact h2, F2, [], _, _, _, RE, h3, fun r as' v F3 H3 hp R3 ok hk => ?_⟩
  have eH : Ex H1 H3 := fun b o e => (R3.b1 b o e).1 (by simp [entry])
  have s3 : ∀ b o, H1 b = some o → F3 b = F2 b := fun b o e => R3.b3 b o e (by simp [entry])
  obtain ⟨R4, e4, c1, c2, c3⟩ := lend_back R1 R3.fh eH s3 s2
  unfold lendN at hp
  split at hp
  · exact k v _ H3 γ1 (.val _) R4 (e1.trans e4) (c1 _ _ ok hp.1) hp.2
  · rename_i ds
    obtain ⟨a, ea, N⟩ := ok
    obtain ⟨ws, hl, hr⟩ := N.ok
    have ha : H1 a = none := N.bn
    obtain ⟨f1, f2, f3, f4⟩ := R1.fresh ha
    have fn : newF H1 F1 F3 a = none := by rw [newF_new ha]; exact N.fa
    exact k v _ H3 γ1 (.new (.lst ds)) R4 (e1.trans e4) ⟨a, ea, fn, ⟨ws, hl, c2 _ _ hr hp.1⟩, f3, .inr f2, f4⟩ hp.2
  · rename_i C fs'
    obtain ⟨a, ea, N⟩ := ok
    obtain ⟨dx, fv, g1, g2, g3, g4, g5, g6⟩ := N.ok
    have ha : H1 a = none := N.bn
    have hd : H1 dx = none := g4 ha
    obtain ⟨f1, f2, f3, f4⟩ := R1.fresh ha
    obtain ⟨d1, d2, d3, d4⟩ := R1.fresh hd
    have fn : newF H1 F1 F3 a = none := by rw [newF_new ha]; exact N.fa
    have fd : newF H1 F1 F3 dx = none := by rw [newF_new hd]; exact g3
    exact k v _ H3 γ1 (.new (.ins C fs')) R4 (e1.trans e4) ⟨a, ea, fn, ⟨dx, fv, g1, g2, fd, fun _ => d3, .inr d2, c3 _ _ g6 hp.1⟩, f3, .inr f2, f4⟩ hp.2
  · exact hp.elim
end
section
variable {X : Cx} {B : Bs} {a : Expr} {es : List Expr} {ta : TA} {da : DA} {k n : Nat} {f : Addr} {fd : FuncData} {ps : List Str} {fs : FS} {x : Str} {p pos : Pos}
theorem x_callLN (K : PySem.W.Frag) (hK : X.K = K) (G : FnOk X.prog X.w X.K X.mg X.base CX0 k f fd ps (spOf X.K n fs)) (hr : Room k X.A) (hm : X.mg x = some (.ref f)) (hk : PySem.W.keepIn X.K (.ref f) = true) (hb : Binds X.K fd ps []) (h : XA X B (a :: es) ta da)
    (hg : Gl X x := by rfl) (hdb : (x == ("__debug__" : Str)) = false := by decide) (he : starEach (a :: es) X.env = (false, eval a X.env) :: starEach es X.env := by rfl) (hpl : (backTo pos (starEach es X.env)).any (·.1) = false := by rfl) :
    XE X B (.Call (.Name x p) (a :: es) [] pos) (tCall (spOf K n fs) [] E0 ta) (dCallN n fs da) := by
  subst hK
  exact ⟨pe_call G hr hg hm hk hb .nil pass0 h.pa hdb he hpl, se_callLN h.sa⟩
end
section
variable {K : PySem.W.Frag} {B : Bs}
theorem se_makeL {C : String} {n : Nat} {fs : FS} {dvs : List V} {dds : List D} {E : XK} {ta : TA} {da : DA} (h : SA K B ta da) (od : Paired (fun v d => ∀ z F, Rp ⟨K, z⟩ F v d) dvs dds) : SE K B (tMake (ctOf K C) (spOf K n fs) dvs E ta) (dMakeL C n fs dds da) := fun F H σ γ Q q R hq k => by
  refine h F H σ γ _ _ R hq fun vs F1 H1 γ1 rs R1 e1 o1 ⟨h0, h2, h3⟩ x dx hx hdx ne => ?_
  obtain ⟨F2, e2, e3, all0, s2⟩ := Rep.lendL R1 (lentP o1 h0)
  have all : RpAll (B.kz K) F2 (vs ++ dvs) (rs.map RS.data ++ dds) := RpAll.of (P_app all0.p (P_mono (fun v d z => z _ _) od))
  let Z : ZN (upd (upd H1 dx (.own x)) x (.ins (ctOf K C) dx [])) := ⟨B.z, fun a ha => by
    obtain ⟨o, e⟩ := R1.znp a ha
    have n1 : a ≠ x := fun z => by subst z; rw [hx] at e; cases e
    have n2 : a ≠ dx := fun z => by subst z; rw [hdx] at e; cases e
    exact ⟨o, by rw [upd_ne n1, upd_ne n2]; exact e⟩⟩
  have RE := make_entry (B := B) (C := C) e3 all hx hdx ne Z rfl
  rw [List.map_append] at RE
  have hm : (rs.map fun r => Sx.val r.data) = (rs.map RS.data).map Sx.val := by rw [List.map_map]; rfl
  rw [hm] at h3
  refine ⟨by simp only [List.length_cons, List.length_append]; rw [P_len o1, P_len od]; omega, F2, _, Z, _, _, RE, h3, fun r as' v F3 H3 ⟨hr, hp⟩ R3 ok hk => ?_⟩
  subst hr
  have h2' : ∀ b o, H1 b = some o → (upd (upd H1 dx (.own x)) x (.ins (ctOf K C) dx [])) b = some o ∧ b ∉ [x, dx] := fun b o e => by
    have n1 : b ≠ x := fun z => by subst z; rw [hx] at e; cases e
    have n2 : b ≠ dx := fun z => by subst z; rw [hdx] at e; cases e
    exact ⟨by rw [upd_ne n1, upd_ne n2]; exact e, by simp [n1, n2]⟩
  have eH : Ex H1 H3 := fun b o e => (R3.b1 b o (h2' b o e).1).1 (h2' b o e).2
  have s3 : ∀ b o, H1 b = some o → F3 b = F2 b := fun b o e => R3.b3 b o (h2' b o e).1 (h2' b o e).2
  obtain ⟨R4, e4, c1, c2, c3⟩ := lend_back R1 R3.fh eH s3 s2
  split at hp
  · rename_i p C' fs' rest _
    obtain ⟨hC, hn, hp⟩ := hp
    subst hC
    obtain ⟨a, ea, fa, dx', fv, q1, q2, q3, q4, q5, q6⟩ := R3.sl 0 _ _ rfl rfl
    cases ea
    obtain ⟨o', g1, fs2, g2⟩ := R3.bd x _ (show (entry F2 (upd (upd H1 dx (.own x)) x (.ins (ctOf K C') dx [])) [x, dx] Z (.ref x :: (vs ++ dvs))).H x = some (.ins (ctOf K C') dx []) from upd_same)
    subst g2
    rw [g1] at q1
    cases q1
    obtain ⟨f1, f2, f3, f4⟩ := R1.fresh hx
    obtain ⟨d1, d2, d3, d4⟩ := R1.fresh hdx
    have ok' : Rp _ F3 v .non := ok
    cases ok'
    refine ⟨rfl, k _ _ H3 γ1 (.new (.ins C' fs')) R4 (e1.trans e4) ⟨x, rfl, by rw [newF_new hx]; exact fa, ⟨dx, fv, g1, q2, by rw [newF_new hdx]; exact q3, fun _ => d3, .inr d2, c3 _ _ q6 hn⟩, f3, .inr f2, f4⟩ hp⟩
  · exact hp.elim
end
section
variable {X : Cx} {B : Bs} {a : Expr} {es : List Expr} {ta : TA} {da : DA} {k n : Nat} {C : String} {f : Addr} {fd : FuncData} {ps : List Str} {fs : FS} {x : Str} {p pos : Pos}
theorem x_makeL (K : PySem.W.Frag) (hK : X.K = K) (M : Mk X.K (ctOf X.K C) f) (G : FnOk X.prog X.w X.K X.mg X.base CX0 k f fd ps (spOf X.K n fs)) (hr : Room (k + 1) X.A) (hm : X.mg x = some (.ref (ctOf X.K C))) (hb : Binds X.K fd ps []) (h : XA X B (a :: es) ta da)
    (hg : Gl X x := by rfl) (hdb : (x == ("__debug__" : Str)) = false := by decide) (he : starEach (a :: es) X.env = (false, eval a X.env) :: starEach es X.env := by rfl) (hpl : (backTo pos (starEach es X.env)).any (·.1) = false := by rfl) :
    XE X B (.Call (.Name x p) (a :: es) [] pos) (tMake (ctOf K C) (spOf K n fs) [] E0 ta) (dMakeL C n fs [] da) := by
  subst hK
  exact ⟨pe_make M G hr hg hm hb .nil pass0 h.pa hdb he hpl, se_makeL h.sa .nil⟩
theorem x_makeLD {dvs : List V} {dds : List D} {ds : List Value} (K : PySem.W.Frag) (hK : X.K = K) (M : Mk X.K (ctOf X.K C) f) (G : FnOk X.prog X.w X.K X.mg X.base CX0 k f fd ps (spOf X.K n fs)) (hr : Room (k + 1) X.A) (hm : X.mg x = some (.ref (ctOf X.K C))) (hb : Binds X.K fd ps ds) (hd : Vals dvs ds) (od : Paired (fun v d => ∀ z F, Rp ⟨X.K, z⟩ F v d) dvs dds) (h : XA X B (a :: es) ta da)
    (hg : Gl X x := by rfl) (hdb : (x == ("__debug__" : Str)) = false := by decide) (he : starEach (a :: es) X.env = (false, eval a X.env) :: starEach es X.env := by rfl) (hpl : (backTo pos (starEach es X.env)).any (·.1) = false := by rfl) :
    XE X B (.Call (.Name x p) (a :: es) [] pos) (tMake (ctOf K C) (spOf K n fs) dvs E0 ta) (dMakeL C n fs dds da) := by
  subst hK
  exact ⟨pe_make M G hr hg hm hb hd pass0 h.pa hdb he hpl, se_makeL h.sa od⟩
end
end DL

set_option Elab.async false
set_option linter.all false
set_option maxRecDepth 100000
set_option maxHeartbeats 2000000
namespace DL
open PySem PySem.Spec PyProof.Rows L2
open Evl (Ex ex_l ex_t)
/-! ### raise C(), an own class without an __init__ -/
theorem pmk_own0 {X : Cx} {C : Addr} {bmB : List Value} {B newId initId : String} {x : Str} {p pos : Pos} (F : ExcBaseFacts B newId initId bmB) (q : PySem.W.excIn X.K C bmB newId = true) (gC : X.mg x = some (.ref C)) (kC : PySem.W.keepIn X.K (.ref C) = true) (r : Raises X (.ref C)) (hg : Gl X x)
    (hdb : (x == ("__debug__" : Str)) = false := by decide) : L2N.PMk X (.Call (.Name x p) [] [] pos) (fun _ H Q => Q (.ref C) none H) := by
  intro pins s σ H Q I h
  refine wpAny_Call_Name_kw (ld_glob I hg gC ?_ hdb)
  refine PySem.W.callWith_K0 I.kIn kC ?_
  show wpAny _ _ (call (.ref C) []) _ _ _
  obtain ⟨bm, N, nm, qn, bs, hdct, sn, sub, ab, col, dd, k0, k1, k2, k3, k5, mN, hC, hN, hni, T⟩ := exc_obj I.kIn q
  refine wpAny_call_exc_subT F T hC hN hni (fun h' e hm => ?_) (by show 0 ≤ sizeLine; rw [sizeLine_eq]; omega)
  exact L2N.mk_of I hm r h (I.hok.gone hm.new)
def dRaise0 (xc : DX) (nm : Nat) (d : DEnds) (γ : Env) : Prop := xc nm none γ
theorem s_raise0 {X : Cx} {B : Bs} {ct : Nat → Addr} {W : WX} {xc : DX} {nm : Nat} {x : Str} {p pos pos2 : Pos} {bmB : List Value} {BB newId initId : String} (hc : X.calm = true) (xo : XOk X.K ct B W xc) (tk : L2N.Takes X W) (F : ExcBaseFacts BB newId initId bmB) (q : PySem.W.excIn X.K (ct nm) bmB newId = true) (gC : X.mg x = some (.ref (ct nm))) (kC : PySem.W.keepIn X.K (.ref (ct nm)) = true) (r : Raises X (.ref (ct nm))) (hg : Gl X x := by rfl)
    (hdb : (x == ("__debug__" : Str)) = false := by decide) : XS X B (.Raise (some (.Call (.Name x p) [] [] pos)) none pos2) (fun _ σ H => W (.ref (ct nm)) none σ H) (dRaise0 xc nm) := ⟨L2N.ps_raise hc tk (pmk_own0 F q gC kC r hg hdb), fun F H σ γ E d R hq k => xo F H σ γ nm none none R trivial hq⟩
/-! ### a number of the module -/
theorem x_gint {X : Cx} {B : Bs} {x : Str} {i : Int} {t : Tok} {pos : Pos} (hm : X.mg x = some (.int i t)) (hg : Gl X x := by rfl) (hd : (x == ("__debug__" : Str)) = false := by decide) : XE X B (.Name x pos) (tC (.int i)) (dC (.int i)) := x_glob hg hm ⟨_, rfl⟩ (fun _ _ => .int i) hd
end DL

set_option Elab.async false
set_option linter.all false
set_option maxRecDepth 100000
set_option maxHeartbeats 2000000
namespace DL
open PySem PySem.Spec PyProof.Rows L2
open Evl (Ex ex_l ex_t)
/-! ### [e for .. in .. for .. in ..] -/
def dLc2 (di : DI) (dg : DG) (dt : DT) (di1 : DI) (dg1 : DG) (dt1 : DT) (de : DE) (vs vs1 : List Nat) (γ : Env) (q : RS → Env → Prop) : Prop := di γ fun n y γ1 => ∃ I : Nat → List D → Env → Prop, I 0 [] (wipeG γ1 vs) ∧
  (∀ i acc γ2, i < n → I i acc γ2 → ∀ x, y i x → dg x γ2 fun γ3 => dt γ3 fun b γ4 => (b = true → di1 γ4 fun n1 y1 γ5 => ∃ I1 : Nat → List D → Env → Prop, I1 0 acc (wipeG γ5 vs1) ∧
    (∀ j acc1 γ6, j < n1 → I1 j acc1 γ6 → ∀ x1, y1 j x1 → dg1 x1 γ6 fun γ7 => dt1 γ7 fun b1 γ8 => (b1 = true → de γ8 fun s γ9 => s.kept ∧ acc1.length < 1000000 ∧ I1 (j + 1) (acc1 ++ [s.data]) (wipeG γ9 vs1)) ∧ (b1 = false → I1 (j + 1) acc1 (wipeG γ8 vs1))) ∧
    ∀ acc1 γ6, I1 n1 acc1 γ6 → I (i + 1) acc1 (wipeG γ6 vs)) ∧ (b = false → I (i + 1) acc (wipeG γ4 vs))) ∧
  ∀ acc γ2, I n acc γ2 → q (.new (.lst acc)) (restore γ1 γ2 vs)
/-- between turns: the list at L holds acc -/
structure LSt (K : PySem.W.Frag) (B : Bs) (F1 : Hp) (L : Addr) (σ : L2.St) (acc : List D) (γ : Env) (H : Hp) (F : Hp) (va : List V) : Prop where
  R : Rep K B F H σ γ
  e : Ex F1 F
  h : H L = some (.lst va)
  f : F L = none
  r : RpAll (B.kz K) F va acc
  na : ∀ (j : Nat) p c, γ[j]? = some (.own p c) → σ[j]? ≠ some (some (.ref L))
section
variable {K : PySem.W.Frag} {B : Bs} {F1 H F : Hp} {L : Addr} {σ : L2.St} {acc : List D} {γ : Env} {va : List V}
theorem LSt.off (S : LSt K B F1 L σ acc γ H F va) : L ∉ ownsOf σ γ H := fun z => by
  obtain ⟨j, a, p, c, h1, h2, h3⟩ := mem_owns.mp z
  rcases h3 with rfl | ⟨C, fs, h3⟩
  · exact S.na j p c h2 h1
  · obtain ⟨_, ok⟩ := S.R.ownObj h2 h1
    cases c with
    | lst ds => obtain ⟨_, q1, _⟩ := ok; rw [h3] at q1; cases q1
    | dct ds => obtain ⟨_, q1, _⟩ := ok; rw [h3] at q1; cases q1
    | ins C' fs' =>
      obtain ⟨dx, fv, q1, q2, _⟩ := ok
      rw [h3] at q1
      injection q1 with q1
      injection q1 with _ q1 _
      rw [← q1, S.h] at q2; cases q2
/-- what goes on over a base taken here keeps the list -/
theorem LSt.keep (S : LSt K B F1 L σ acc γ H F va) {F' H' : Hp} {σ' : L2.St} {γ' : Env} (R' : Rep K (B.re F H σ γ) F' H' σ' γ') (ex : Ex F F') : LSt K B F1 L σ' acc γ' H' F' va := by
  have nL := S.off
  refine ⟨S.R.back R', S.e.trans ex, (R'.b1 L _ S.h).1 nL, (R'.b3 L _ S.h nL).trans S.f, S.r.mono ex, fun j p c h1 h2 => ?_⟩
  rcases R'.b5 j L p c h1 h2 with z | z
  · exact nL z
  · have z' : H L = none := z
    rw [S.h] at z'; cases z'
theorem wipeG_own {vs : List Nat} {j : Nat} {p : Option Nat} {c : OC} (h : (wipeG γ vs)[j]? = some (.own p c)) : γ[j]? = some (.own p c) := by
  induction vs with
  | nil => exact h
  | cons v vs ih =>
    unfold wipeG at h
    rcases get_put h with ⟨_, e⟩ | ⟨_, e⟩
    · cases e
    · exact ih e
theorem LSt.wipe (S : LSt K B F1 L σ acc γ H F va) (vs : List Nat) : LSt K B F1 L (L2.wipe σ vs) acc (wipeG γ vs) H F va := ⟨S.R.wipe vs, S.e, S.h, S.f, S.r, fun j p c h1 h2 => by
  rw [wipe_get] at h2
  split at h2
  · cases h2
  · exact S.na j p c (wipeG_own h1) h2⟩
theorem LSt.add (S : LSt K B F1 L σ acc γ H F va) (bm : B.H L = none) {v : V} {d : D} (rv : Rp (B.kz K) F v d) : LSt K B F1 L σ (acc ++ [d]) γ (upd H L (.lst (va ++ [v]))) F (va ++ [v]) :=
  ⟨S.R.poke (o' := .lst (va ++ [v])) S.h (fun x z => by cases z) S.f (.inr bm) S.na ⟨_, rfl⟩, S.e, upd_same, S.f, RpAll.of (P_app S.r.p (.cons rv .nil)), S.na⟩
theorem wipe_sub {σ : L2.St} {vs vs1 : List Nat} (h : ∀ i ∈ vs1, i ∈ vs) : L2.wipe (L2.wipe σ vs1) vs = L2.wipe σ vs := by
  apply List.ext_getElem?
  intro j
  have hl : (L2.wipe σ vs1).length = σ.length := by
    have := fun k => wipe_get σ k vs1
    rcases Nat.lt_trichotomy (L2.wipe σ vs1).length σ.length with c | c | c
    · have q := this (L2.wipe σ vs1).length
      rw [List.getElem?_eq_none (Nat.le_refl _)] at q
      split at q
      · cases q
      · rw [List.getElem?_eq_getElem c] at q; cases q
    · exact c
    · have q := this σ.length
      rw [List.getElem?_eq_getElem c] at q
      split at q
      · omega
      · rw [List.getElem?_eq_none (Nat.le_refl _)] at q; cases q
  rw [wipe_get, wipe_get, wipe_get, hl]
  by_cases c : j ∈ vs ∧ j < σ.length
  · rw [if_pos c, if_pos c]
  · rw [if_neg c, if_neg c]
    by_cases c1 : j ∈ vs1 ∧ j < σ.length
    · exact absurd ⟨h j c1.1, c1.2⟩ c
    · rw [if_neg c1]
end
theorem se_lc2 {K : PySem.W.Frag} {B : Bs} {wi wi1 : TI} {di di1 : DI} {g g1 : TG} {dg dg1 : DG} {tt tt1 : TT} {dt dt1 : DT} {te : TE} {de : DE} {vs vs1 ix ix1 : List Nat} (hi : SI K B wi di) (hg : ∀ B, SG K B g dg ix) (ht : ∀ B, ST K B tt dt) (hi1 : ∀ B, SI K B wi1 di1) (hg1 : ∀ B, SG K B g1 dg1 ix1) (ht1 : ∀ B, ST K B tt1 dt1) (he : ∀ B, SE K B te de) (hs : ∀ i ∈ ix, i ∈ vs) (hs1 : ∀ i ∈ ix1, i ∈ vs1) (hv : ∀ i ∈ vs1, i ∈ vs) :
    SE K B (tLc2 wi g tt wi1 g1 tt1 te vs vs1) (dLc2 di dg dt di1 dg1 dt1 de vs vs1) := fun F H σ γ Q q R hq k => by
  refine hi F H σ γ _ _ R hq fun J F1 H1 γ1 n y R1 e1 jo ⟨I, i0, it, ie⟩ => ?_
  intro L hL
  obtain ⟨f1, f2, f3, f4⟩ := R1.fresh hL
  have S0 : LSt K B F1 L (L2.wipe σ vs) [] (wipeG γ1 vs) (upd H1 L (.lst [])) F1 [] := LSt.wipe ⟨R1.alloc _ hL, Evl.Ex.refl F1, upd_same, f1, .nil, f4⟩ vs
  refine ⟨fun i m H' => m = n - i ∧ i ≤ n ∧ ∃ F' γ' acc va, LSt K B F1 L (L2.wipe σ vs) acc γ' H' F' va ∧ I i acc γ', ⟨n, by omega, by omega, F1, _, [], [], S0, i0⟩, fun i m H' ⟨hm, hin, F2, γ2, acc, va, S2, i2⟩ => ?_⟩
  by_cases hlt : i < n
  · refine .inr ⟨jo.go B F2 H' _ γ2 i S2.R S2.e hlt, fun H3 => ∃ F' γ' acc va, LSt K B F1 L (L2.wipe σ vs) acc γ' H3 F' va ∧ I (i + 1) acc γ', fun H3 h => ⟨n - (i + 1), by omega, rfl, by omega, h⟩, fun x H3 hy => ?_⟩
    obtain ⟨F3, dd, R3, e3, rx, yx⟩ := jo.yl _ F2 H' _ γ2 i x H3 S2.R.re S2.e hlt hy rfl
    refine hg _ F3 H3 _ γ2 x dd _ _ R3 rx (it i acc γ2 hlt i2 dd yx) fun σ4 γ4 R4 o4 h4 => ?_
    have w4 : L2.wipe σ4 vs = L2.wipe σ vs := wipe_off o4 hs
    refine ⟨w4, ht _ F3 H3 σ4 γ4 _ _ R4 h4 fun b F5 H5 γ5 R5 e5 h5 => ?_⟩
    have S5 := S2.keep R5 (e3.trans e5)
    cases b with
    | false =>
      have S6 := S5.wipe vs
      rw [w4] at S6
      exact ⟨F5, _, acc, va, S6, h5.2 rfl⟩
    | true =>
      show wi1 σ4 H5 _
      refine hi1 _ F5 H5 σ4 γ5 _ _ S5.R.re (h5.1 rfl) fun J1 F6 H6 γ6 n1 y1 R6 e6 jo1 ⟨I1, j0, jt, je⟩ => ?_
      have S6 := S5.keep R6 e6
      have z6 : (B.re F5 H5 σ4 γ5).z = B.z := rfl
      refine ⟨fun j k' H7 => k' = n1 - j ∧ j ≤ n1 ∧ ∃ F' γ' acc va, LSt K B F6 L (L2.wipe σ4 vs1) acc γ' H7 F' va ∧ Ex F1 F6 ∧ I1 j acc γ', ⟨n1, by omega, by omega, F6, _, acc, va, LSt.wipe ⟨S6.R, Evl.Ex.refl F6, S6.h, S6.f, S6.r, S6.na⟩ vs1, S6.e, j0⟩, fun j k' H7 ⟨hk', hj, F7, γ7, acc7, va7, S7, e17, i7⟩ => ?_⟩
      by_cases hlt1 : j < n1
      · refine .inr ⟨jo1.go B F7 H7 _ γ7 j S7.R S7.e hlt1, fun H8 => ∃ F' γ' acc va, LSt K B F6 L (L2.wipe σ4 vs1) acc γ' H8 F' va ∧ Ex F1 F6 ∧ I1 (j + 1) acc γ', fun H8 h => ⟨n1 - (j + 1), by omega, rfl, by omega, h⟩, fun x1 H8 hy1 => ?_⟩
        obtain ⟨F8, d8, R8, e8, rx8, yx8⟩ := jo1.yl _ F7 H7 _ γ7 j x1 H8 S7.R.re S7.e hlt1 hy1 rfl
        refine hg1 _ F8 H8 _ γ7 x1 d8 _ _ R8 rx8 (jt j acc7 γ7 hlt1 i7 d8 yx8) fun σ9 γ9 R9 o9 h9 => ?_
        have w9 : L2.wipe σ9 vs1 = L2.wipe σ4 vs1 := wipe_off o9 hs1
        refine ⟨w9, ht1 _ F8 H8 σ9 γ9 _ _ R9 h9 fun b1 F10 H10 γ10 R10 e10 h10 => ?_⟩
        cases b1 with
        | false =>
          have S11 := (S7.keep R10 (e8.trans e10)).wipe vs1
          rw [w9] at S11
          exact ⟨F10, _, acc7, va7, S11, e17, h10.2 rfl⟩
        | true =>
          show te σ9 H10 _
          refine he _ F10 H10 σ9 γ10 _ _ R10 (h10.1 rfl) fun v F11 H11 γ11 s R11 e11 o11 ⟨hk, hlen, h12⟩ => ?_
          obtain ⟨F12, R12, e12, o12⟩ := o11.fz R11
          have rv := o12.kp hk
          have S12 := S7.keep R12 (((e8.trans e10).trans e11).trans e12)
          refine ⟨va7, S12.h, Nat.lt_of_lt_of_le (show va7.length < 1000001 by rw [S12.r.length]; omega) (by decide), ?_⟩
          have S13 := (S12.add f2 rv).wipe vs1
          rw [w9] at S13
          exact ⟨F12, _, _, _, S13, e17, h12⟩
      · obtain rfl : j = n1 := by omega
        refine .inl ⟨jo1.st B F7 H7 _ γ7 j S7.R S7.e (Nat.le_refl _), ?_⟩
        have S14 := S7.wipe vs
        rw [wipe_sub hv, w4] at S14
        exact ⟨F7, _, acc7, va7, ⟨S14.R, e17.trans S14.e, S14.h, S14.f, S14.r, S14.na⟩, je acc7 γ7 i7⟩
  · obtain rfl : i = n := by omega
    refine .inl ⟨jo.st B F2 H' _ γ2 i S2.R S2.e (Nat.le_refl _), ?_⟩
    have R3 : Rep K B F2 H' σ (restore γ1 γ2 vs) := Rep.rest R1 S2.R S2.e rfl
    refine k _ F2 H' _ (.new (.lst acc)) R3 (e1.trans S2.e) ⟨L, rfl, S2.f, ⟨va, S2.h, S2.r⟩, f3, .inr f2, fun j p c h1 h2 => ?_⟩ (ie acc γ2 i2)
    rcases restore_get h1 with ⟨_, z⟩ | ⟨nj, z⟩
    · unfold keepV at z
      split at z <;> cases z
    · exact S2.na j p c z (by rw [wipe_get, if_neg fun q => nj q.1]; exact h2)
section
variable {X : Cx} {B : Bs} {elt tg iter tg1 iter1 : Expr} {ifs ifs1 : List Expr} {scope : Scope} {pos spos : Pos} {wi wi1 : TI} {di di1 : DI} {g g1 : TG} {dg dg1 : DG} {tt tt1 : TT} {dt dt1 : DT} {te : TE} {de : DE} {ix ix1 : List Nat}
theorem x_lc2 (own : List (Str × Nat)) (vs1 : List Nat) (hc : X.calm = true) (hN : X.N.Nodup) (hi : XI X B tg iter wi di) (ok : BlkOk X.N X.env.scope scope own)
    (hg : ∀ (B : Bs) (s : Shared) (H : Hp) (C : Addr) (cl : List (Str × Addr)) (fp : List Addr), XG (X.blk s H scope (compEnvC scope cl C X.env) fp) B tg g dg ix) (ht : ∀ (B : Bs) (s : Shared) (H : Hp) (C : Addr) (cl : List (Str × Addr)) (fp : List Addr), XTs (X.blk s H scope (compEnvC scope cl C X.env) fp) B ifs tt dt)
    (hi1 : ∀ (B : Bs) (s : Shared) (H : Hp) (C : Addr) (cl : List (Str × Addr)) (fp : List Addr), XI (X.blk s H scope (compEnvC scope cl C X.env) fp) B tg1 iter1 wi1 di1)
    (hg1 : ∀ (B : Bs) (s : Shared) (H : Hp) (C : Addr) (cl : List (Str × Addr)) (fp : List Addr), XG (X.blk s H scope (compEnvC scope cl C X.env) fp) B tg1 g1 dg1 ix1) (ht1 : ∀ (B : Bs) (s : Shared) (H : Hp) (C : Addr) (cl : List (Str × Addr)) (fp : List Addr), XTs (X.blk s H scope (compEnvC scope cl C X.env) fp) B ifs1 tt1 dt1)
    (he : ∀ (B : Bs) (s : Shared) (H : Hp) (C : Addr) (cl : List (Str × Addr)) (fp : List Addr), XE (X.blk s H scope (compEnvC scope cl C X.env) fp) B elt te de) (hix : ∀ i ∈ ix, i ∈ own.map (·.2)) (hix1 : ∀ i ∈ ix1, i ∈ vs1) (hv : ∀ i ∈ vs1, i ∈ own.map (·.2)) (hs : ∀ x, foldedSetIterable iter X.env x = pure x := by intro _; rfl) (hs1 : ∀ env x, foldedSetIterable iter1 env x = pure x := by intro _ _; rfl) :
    XE X B (.ListComp elt [⟨tg, iter, ifs, 0⟩, ⟨tg1, iter1, ifs1, 0⟩] scope pos) (tLc2 wi g tt wi1 g1 tt1 te (own.map (·.2)) vs1) (dLc2 di dg dt di1 dg1 dt1 de (own.map (·.2)) vs1) :=
  ⟨pe_lc2 hc hN hi.pi ok hv (fun s H C cl fp => (hg B s H C cl fp).pg) (fun s H C cl fp => (ht B s H C cl fp).pt) (fun s H C cl fp => (hi1 B s H C cl fp).pi) (fun s H C cl fp => (hg1 B s H C cl fp).pg) (fun s H C cl fp => (ht1 B s H C cl fp).pt) (fun s H C cl fp => (he B s H C cl fp).pe) hs hs1,
    se_lc2 hi.si (fun B => (hg B X.s_0 X.H_0 0 [] []).sg) (fun B => (ht B X.s_0 X.H_0 0 [] []).st) (fun B => (hi1 B X.s_0 X.H_0 0 [] []).si) (fun B => (hg1 B X.s_0 X.H_0 0 [] []).sg) (fun B => (ht1 B X.s_0 X.H_0 0 [] []).st) (fun B => (he B X.s_0 X.H_0 0 [] []).se) hix hix1 hv⟩
theorem s_setLc2 (i : Nat) (own : List (Str × Nat)) (vs1 : List Nat) {y : Str} {py : Pos} (hc : X.calm = true) (hN : X.N.Nodup) (hi : XI X B tg iter wi di) (ok : BlkOk X.N X.env.scope scope own)
    (hg : ∀ (B : Bs) (s : Shared) (H : Hp) (C : Addr) (cl : List (Str × Addr)) (fp : List Addr), XG (X.blk s H scope (compEnvC scope cl C X.env) fp) B tg g dg ix) (ht : ∀ (B : Bs) (s : Shared) (H : Hp) (C : Addr) (cl : List (Str × Addr)) (fp : List Addr), XTs (X.blk s H scope (compEnvC scope cl C X.env) fp) B ifs tt dt)
    (hi1 : ∀ (B : Bs) (s : Shared) (H : Hp) (C : Addr) (cl : List (Str × Addr)) (fp : List Addr), XI (X.blk s H scope (compEnvC scope cl C X.env) fp) B tg1 iter1 wi1 di1)
    (hg1 : ∀ (B : Bs) (s : Shared) (H : Hp) (C : Addr) (cl : List (Str × Addr)) (fp : List Addr), XG (X.blk s H scope (compEnvC scope cl C X.env) fp) B tg1 g1 dg1 ix1) (ht1 : ∀ (B : Bs) (s : Shared) (H : Hp) (C : Addr) (cl : List (Str × Addr)) (fp : List Addr), XTs (X.blk s H scope (compEnvC scope cl C X.env) fp) B ifs1 tt1 dt1)
    (he : ∀ (B : Bs) (s : Shared) (H : Hp) (C : Addr) (cl : List (Str × Addr)) (fp : List Addr), XE (X.blk s H scope (compEnvC scope cl C X.env) fp) B elt te de) (hix : ∀ i ∈ ix, i ∈ own.map (·.2)) (hix1 : ∀ i ∈ ix1, i ∈ vs1) (hv : ∀ i ∈ vs1, i ∈ own.map (·.2)) (hsw : swapsWith (.ListComp elt [⟨tg, iter, ifs, 0⟩, ⟨tg1, iter1, ifs1, 0⟩] scope pos) (some (.Name y py)) spos.line X.env = pure true)
    (hy : X.N[i]? = some y := by rfl) (hyl : X.env.scope.names.lookup y = some .local := by rfl) (hs : ∀ x, foldedSetIterable iter X.env x = pure x := by intro _; rfl) (hs1 : ∀ env x, foldedSetIterable iter1 env x = pure x := by intro _ _; rfl) :
    XS X B (.Assign [.Name y py] (.ListComp elt [⟨tg, iter, ifs, 0⟩, ⟨tg1, iter1, ifs1, 0⟩] scope pos) spos) (tAsg (tLc2 wi g tt wi1 g1 tt1 te (own.map (·.2)) vs1) (gName i)) (dAsg i (dLc2 di dg dt di1 dg1 dt1 de (own.map (·.2)) vs1)) :=
  ⟨ps_setLc2 hc hN hy hyl hsw hi.pi ok hv (fun s H C cl fp => (hg B s H C cl fp).pg) (fun s H C cl fp => (ht B s H C cl fp).pt) (fun s H C cl fp => (hi1 B s H C cl fp).pi) (fun s H C cl fp => (hg1 B s H C cl fp).pg) (fun s H C cl fp => (ht1 B s H C cl fp).pt) (fun s H C cl fp => (he B s H C cl fp).pe) hs hs1,
    sa_name (se_lc2 hi.si (fun B => (hg B X.s_0 X.H_0 0 [] []).sg) (fun B => (ht B X.s_0 X.H_0 0 [] []).st) (fun B => (hi1 B X.s_0 X.H_0 0 [] []).si) (fun B => (hg1 B X.s_0 X.H_0 0 [] []).sg) (fun B => (ht1 B X.s_0 X.H_0 0 [] []).st) (fun B => (he B X.s_0 X.H_0 0 [] []).se) hix hix1 hv)⟩
end
end DL

set_option Elab.async false
set_option linter.all false
set_option maxRecDepth 100000
set_option maxHeartbeats 2000000
namespace DL
open PySem PySem.Spec PyProof.Rows L2
/-! ### loops told by the few slots that change -/
def puts (γ : Env) : List (Nat × Sx) → Env
  | [] => γ
  | (i, s) :: r => puts (put γ i s) r
theorem for_up {V : Type} (U : V → List (Nat × Sx)) (P : Nat → V → Prop) (v0 : V) {n : Nat} {y : Nat → D → Prop} {γ1 : Env} {dg : DG} {db : DS} {d : DEnds} (e0 : puts γ1 (U v0) = γ1) (h0 : P 0 v0)
    (hs : ∀ i v, i < n → P i v → ∀ x, y i x → dg x (puts γ1 (U v)) fun γ3 => db { nx := fun γ => ∃ v', puts γ1 (U v') = γ ∧ P (i + 1) v', ct := fun γ => ∃ v', puts γ1 (U v') = γ ∧ P (i + 1) v', bk := d.nx, rt := d.rt } γ3)
    (hd : ∀ v, P n v → d.nx (puts γ1 (U v))) : ForOk n y γ1 dg db d :=
  for_ok (fun i γ => ∃ v, puts γ1 (U v) = γ ∧ P i v) ⟨v0, e0, h0⟩ (fun i γ2 hi ⟨v, e, hp⟩ x hx => by subst e; exact hs i v hi hp x hx) (fun γ2 ⟨v, e, hp⟩ => by subst e; exact hd v hp)
/-- a comprehension told by what it has made -/
theorem lc_a {n : Nat} {y : Nat → D → Prop} {γ1 : Env} {dg : DG} {dt : DT} {de : DE} {vs : List Nat} {q : RS → Env → Prop} (hn : n ≤ 1000000) (A : Nat → List D) (h0 : A 0 = [])
    (hs : ∀ i x, i < n → y i x → dg x (wipeG γ1 vs) fun γ3 => dt γ3 fun b γ4 => (b = true → de γ4 fun s γ5 => s.kept ∧ A i ++ [s.data] = A (i + 1) ∧ wipeG γ5 vs = wipeG γ1 vs) ∧ (b = false → A i = A (i + 1) ∧ wipeG γ4 vs = wipeG γ1 vs))
    (hf : q (.new (.lst (A n))) (restore γ1 (wipeG γ1 vs) vs)) : LcOk n y γ1 dg dt de vs q :=
  lc_ok hn (fun i acc γ => acc = A i ∧ γ = wipeG γ1 vs) ⟨h0.symm, rfl⟩ (fun i acc γ hi ⟨e1, e2⟩ x hx => by
    subst e1; subst e2
    exact hs i x hi hx) fun acc γ ⟨e1, e2⟩ => by subst e1; subst e2; exact hf
theorem take_snoc {α : Type} {l : List α} {i : Nat} {x : α} (h : l[i]? = some x) : l.take i ++ [x] = l.take (i + 1) := by
  rw [List.take_add_one, h]; rfl
theorem rev_get {α : Type} {l : List α} {i : Nat} (h : i < l.length) : l.reverse[i]? = l[l.length - 1 - i]? := by
  rw [List.getElem?_reverse h]
theorem deq_lcn {x : D} {xs : List D} : deq (.lst (x :: xs)) (.lst []) = false := by simp [deq, PyData.eqv, D.py, pyAll, PyData.eqvAll]
theorem deq_lnc {x : D} {xs : List D} : deq (.lst []) (.lst (x :: xs)) = false := by simp [deq, PyData.eqv, D.py, pyAll, PyData.eqvAll]
theorem mapD_get {ns : List Int} {i : Nat} {x : D} (h : (ns.map D.int)[i]? = some x) : ∃ a, ns[i]? = some a ∧ x = .int a := by
  rw [List.getElem?_map] at h
  cases e : ns[i]? with
  | none => rw [e] at h; cases h
  | some a => rw [e] at h; cases h; exact ⟨a, rfl, rfl⟩
/-- two clauses -/
def Lc2In (I : List D → Env → Prop) (acc : List D) (n1 : Nat) (y1 : Nat → D → Prop) (γ5 : Env) (dg1 : DG) (dt1 : DT) (de : DE) (vs vs1 : List Nat) : Prop := ∃ I1 : Nat → List D → Env → Prop, I1 0 acc (wipeG γ5 vs1) ∧
    (∀ j acc1 γ6, j < n1 → I1 j acc1 γ6 → ∀ x1, y1 j x1 → dg1 x1 γ6 fun γ7 => dt1 γ7 fun b1 γ8 => (b1 = true → de γ8 fun s γ9 => s.kept ∧ acc1.length < 1000000 ∧ I1 (j + 1) (acc1 ++ [s.data]) (wipeG γ9 vs1)) ∧ (b1 = false → I1 (j + 1) acc1 (wipeG γ8 vs1))) ∧
    ∀ acc1 γ6, I1 n1 acc1 γ6 → I acc1 (wipeG γ6 vs)
def Lc2Ok (n : Nat) (y : Nat → D → Prop) (γ1 : Env) (dg : DG) (dt : DT) (di1 : DI) (dg1 : DG) (dt1 : DT) (de : DE) (vs vs1 : List Nat) (q : RS → Env → Prop) : Prop := ∃ I : Nat → List D → Env → Prop, I 0 [] (wipeG γ1 vs) ∧
  (∀ i acc γ2, i < n → I i acc γ2 → ∀ x, y i x → dg x γ2 fun γ3 => dt γ3 fun b γ4 => (b = true → di1 γ4 fun n1 y1 γ5 => Lc2In (I (i + 1)) acc n1 y1 γ5 dg1 dt1 de vs vs1) ∧ (b = false → I (i + 1) acc (wipeG γ4 vs))) ∧
  ∀ acc γ2, I n acc γ2 → q (.new (.lst acc)) (restore γ1 γ2 vs)
theorem dLc2_eq {di : DI} {dg : DG} {dt : DT} {di1 : DI} {dg1 : DG} {dt1 : DT} {de : DE} {vs vs1 : List Nat} {γ : Env} {q : RS → Env → Prop} : dLc2 di dg dt di1 dg1 dt1 de vs vs1 γ q = di γ fun n y γ1 => Lc2Ok n y γ1 dg dt di1 dg1 dt1 de vs vs1 q := rfl
theorem lc2_a {n : Nat} {y : Nat → D → Prop} {γ1 : Env} {dg : DG} {dt : DT} {di1 : DI} {dg1 : DG} {dt1 : DT} {de : DE} {vs vs1 : List Nat} {q : RS → Env → Prop} (A : Nat → List D) (h0 : A 0 = [])
    (hs : ∀ i x, i < n → y i x → dg x (wipeG γ1 vs) fun γ3 => dt γ3 fun b γ4 => (b = true → di1 γ4 fun n1 y1 γ5 => Lc2In (fun acc γ => acc = A (i + 1) ∧ γ = wipeG γ1 vs) (A i) n1 y1 γ5 dg1 dt1 de vs vs1) ∧ (b = false → A i = A (i + 1) ∧ wipeG γ4 vs = wipeG γ1 vs))
    (hf : q (.new (.lst (A n))) (restore γ1 (wipeG γ1 vs) vs)) : Lc2Ok n y γ1 dg dt di1 dg1 dt1 de vs vs1 q :=
  ⟨fun i acc γ => acc = A i ∧ γ = wipeG γ1 vs, ⟨h0.symm, rfl⟩, fun i acc γ hi ⟨e1, e2⟩ x hx => by
    subst e1; subst e2
    exact hs i x hi hx, fun acc γ ⟨e1, e2⟩ => by subst e1; subst e2; exact hf⟩
theorem lc2_in {I : List D → Env → Prop} {acc : List D} {n1 : Nat} {y1 : Nat → D → Prop} {γ5 : Env} {dg1 : DG} {dt1 : DT} {de : DE} {vs vs1 : List Nat} (A : Nat → List D) (h0 : A 0 = acc)
    (hs : ∀ j x1, j < n1 → y1 j x1 → dg1 x1 (wipeG γ5 vs1) fun γ7 => dt1 γ7 fun b1 γ8 => (b1 = true → de γ8 fun s γ9 => s.kept ∧ (A j).length < 1000000 ∧ A j ++ [s.data] = A (j + 1) ∧ wipeG γ9 vs1 = wipeG γ5 vs1) ∧ (b1 = false → A j = A (j + 1) ∧ wipeG γ8 vs1 = wipeG γ5 vs1))
    (hf : I (A n1) (wipeG (wipeG γ5 vs1) vs)) : Lc2In I acc n1 y1 γ5 dg1 dt1 de vs vs1 :=
  ⟨fun j acc γ => acc = A j ∧ γ = wipeG γ5 vs1, ⟨h0.symm, rfl⟩, fun j acc γ hj ⟨e1, e2⟩ x hx => by
    subst e1; subst e2
    exact hs j x hj hx, fun acc γ ⟨e1, e2⟩ => by subst e1; subst e2; exact hf⟩
theorem ok_bl (b : Bool) : dOkN 0 (.bl b) = true := by
  unfold dOkN
  simp only [D.pure, D.py, PyData.canLay0, PyData.depth, Bool.true_and, decide_eq_true_eq]
  omega
theorem cut_mid {α : Type} {xs : List α} {i j : Nat} (h : i ≤ j) : cut xs (some (i : Int)) (some (j : Int)) = (xs.drop i).take (j - i) := by
  unfold cut
  rw [HT.sIx_nat, HT.sIx_nat]
  by_cases c : i ≤ xs.length
  · rw [Nat.min_eq_left c, List.take_eq_take_iff, List.length_drop]
    omega
  · rw [Nat.min_eq_right (a := i) (by omega), List.drop_of_length_le (Nat.le_refl _), List.drop_of_length_le (by omega), List.take_nil, List.take_nil]
theorem rg_up {n m : Nat} (hm : 0 < m) (h1 : m < 1000000) (h2 : n < 1000000000) : RgC 0 (n : Int) (m : Int) ((n + m - 1) / m) := by
  have e : Builtin.Range.rangeSize 0 (n : Int) (m : Int) = ((n + m - 1) / m : Nat) := by
    unfold Builtin.Range.rangeSize
    rw [if_pos (by omega)]
    by_cases c : n = 0
    · subst c
      rw [if_neg (by omega), Nat.div_eq_of_lt (by omega)]
      rfl
    · rw [if_pos (by omega), show (n : Int) - 0 - 1 = ((n - 1 : Nat) : Int) by omega, show n + m - 1 = (n - 1) + m by omega, Nat.add_div_right _ hm]
      push_cast
      rfl
  refine ⟨by omega, by omega, ?_, e⟩
  have hle : (n + m - 1) / m ≤ n + m - 1 := Nat.div_le_self _ _
  unfold Builtin.Range.small
  rw [e]
  generalize (n + m - 1) / m = k at hle
  simp only [Builtin.Range.rangeFitsLong, Bool.and_eq_true, Bool.or_eq_true, decide_eq_true_eq, beq_iff_eq]
  refine ⟨⟨⟨⟨by omega, by omega⟩, by omega, by omega⟩, by omega, by omega⟩, .inr ?_⟩
  rw [if_pos (by omega)]
  simp only [Bool.and_eq_true, decide_eq_true_eq]
  omega
end DL

set_option Elab.async false
set_option linter.all false
set_option maxRecDepth 100000
set_option maxHeartbeats 2000000
/-! ### sorted(xs), any data that are alike -/
namespace DL
open PySem PySem.Spec PyProof.Rows L2
open Evl (Ex ex_l ex_t)
/-- not above -/
def dle (a b : D) : Bool := !PySem.W.dataLt b.py a.py
/-- they can be sorted -/
structure SrtOk (ds : List D) : Prop where
  pure : pureAll ds = true
  len : ds.length ≤ 1000000
  ak : PySem.W.AllAlike (ds.map D.py)
  srt : PySem.W.Sortable (ds.map D.py)
  dep : ∀ d ∈ ds, d.py.depth ≤ 60
def rSortedD (K : PySem.W.Frag) : List V → Hp → VK → Prop := fun vs H Q => ∃ (a : Addr) (xs : List V) (ds : List D), vs = [V.ref a] ∧ SqL K H a xs ∧ DpAll K H xs (pyAll ds) ∧ SrtOk ds ∧
  ∀ (ys : List V) (p : Addr), (∀ G : V → D → Prop, Paired G xs ds → Paired G ys (ds.mergeSort dle)) → H p = none → Q (.ref p) (upd H p (.lst ys))
theorem pyAll_eq : ∀ ds : List D, pyAll ds = ds.map D.py
  | [] => rfl
  | d :: ds => by rw [pyAll, pyAll_eq ds]; rfl
theorem dpAll_p {K : PySem.W.Frag} {H : Hp} : ∀ {vs : List V} {ds : List D}, DpAll K H vs (pyAll ds) → Paired (fun v (d : D) => Dp K H v d.py) vs ds
  | [], [], _ => .nil
  | [], d :: ds, h => by rw [pyAll] at h; cases h
  | v :: vs, [], h => by rw [pyAll] at h; cases h
  | v :: vs, d :: ds, h => by
    rw [pyAll] at h
    cases h with
    | cons a b => exact .cons a (dpAll_p b)
theorem pr_zip {α β : Type} {G : α → β → Prop} : ∀ {l : List α} {m : List β}, Paired G l m → ∀ p ∈ l.zip m, G p.1 p.2
  | _, _, .nil, p, h => by simp at h
  | _, _, .cons a b, p, h => by
    rcases List.mem_cons.mp h with rfl | h
    · exact a
    · exact pr_zip b p h
theorem pr_of_zip {α β : Type} {G : α → β → Prop} : ∀ {z : List (α × β)}, (∀ p ∈ z, G p.1 p.2) → Paired G (z.map Prod.fst) (z.map Prod.snd)
  | [], _ => .nil
  | p :: z, h => .cons (h p List.mem_cons_self) (pr_of_zip fun q hq => h q (List.mem_cons_of_mem _ hq))
theorem each_zip {α β γ : Type} {R : α → β → Prop} {S : γ → α × β → Prop} : ∀ {us : List γ} {l : List α} {m : List β}, us.length = l.length → l.length = m.length → (∀ (i : Nat) u a b, us[i]? = some u → l[i]? = some a → m[i]? = some b → S u (a, b)) → PySem.W.EachIs S us (l.zip m)
  | [], [], [], _, _, _ => .nil
  | [], [], _ :: _, _, h, _ => by simp at h
  | [], _ :: _, _, h, _, _ => by simp at h
  | _ :: _, [], _, h, _, _ => by simp at h
  | _ :: _, _ :: _, [], _, h, _ => by simp at h
  | u :: us, a :: l, b :: m, h1, h2, k => .cons (k 0 u a b rfl rfl rfl) (each_zip (R := R) (by simpa using h1) (by simpa using h2) fun i x y z e1 e2 e3 => k (i + 1) x y z (by simpa using e1) (by simpa using e2) (by simpa using e3))
theorem each_vals {z : List (V × D)} : ∀ {us : List Value} {zs : List (V × D)}, PySem.W.EachIs (fun u (p : V × D) => RelV p.1 u) us zs → Vals (zs.map Prod.fst) us
  | _, _, .nil => .nil
  | _, _, .cons a b => .cons a (each_vals (z := z) b)
theorem vals_each : ∀ {vs : List V} {us : List Value}, Vals vs us → vs.length = us.length ∧ ∀ (i : Nat) v u, vs[i]? = some v → us[i]? = some u → RelV v u
  | _, _, .nil => ⟨rfl, fun i v u h => by simp at h⟩
  | _, _, .cons a b => by
    obtain ⟨h1, h2⟩ := vals_each b
    refine ⟨by simp [h1], fun i v u e1 e2 => ?_⟩
    cases i with
    | zero => simp at e1 e2; subst e1; subst e2; exact a
    | succ i => exact h2 i v u (by simpa using e1) (by simpa using e2)
theorem cr_sortedD {X : Cx} (hu : X.A.units + 64 < cLine) : CallR X (.builtin "sorted") (rSortedD X.K) := by
  intro pins s σ H vs us Q I r h
  obtain ⟨a, xs, ds, rfl, hs, hd, ok, q⟩ := h
  obtain ⟨its, rv, hl, hz⟩ := I.list hs
  rw [Vals.ref1 r]
  obtain ⟨e1, e2⟩ := vals_each rv
  have pd := dpAll_p hd
  have e3 := P_len pd
  have hlen : (xs.zip ds).length = ds.length := by rw [List.length_zip, e3, Nat.min_self]
  have hmap : (xs.zip ds).map (fun p => p.2.py) = ds.map D.py := by
    have : (xs.zip ds).map Prod.snd = ds := List.map_snd_zip (by omega)
    conv => rhs; rw [← this, List.map_map]
    rfl
  refine PySem.W.sorted_data (R := fun u (p : V × D) => RelV p.1 u) (enc := fun p : V × D => p.2.py) (bs := xs.zip ds) hl.isList
    (each_zip (R := fun _ _ => True) (by rw [← e1]) e3 fun i u a b h1 h2 h3 => e2 i a u h2 h1)
    (each_zip (R := fun _ _ => True) (by rw [← e1]) e3 fun i u a b h1 h2 h3 => ?_) (by rw [hmap]; exact ok.ak) (by rw [hmap]; exact ok.srt) (by rw [hlen]; exact sz_le ok.len) (fun b hb => ?_) fun out h1 h2 => ?_
  · obtain ⟨d', hd', g⟩ := P_getL pd h2
    rw [h3] at hd'
    cases hd'
    exact Dp.reads I _ _ _ g (e2 i a u h2 h1)
  · have := ok.dep b.2 (List.of_mem_zip hb).2
    omega
  · obtain ⟨ep, he'⟩ := PyProof.Rows.sortedAll_at s.heap its out.toArray
    have hsnd : ((xs.zip ds).mergeSort (PySem.W.dataLe false fun p : V × D => p.2.py)).map Prod.snd = ds.mergeSort dle := by
      have e := List.map_mergeSort (r := PySem.W.dataLe false fun p : V × D => p.2.py) (s := dle) (f := Prod.snd) (l := xs.zip ds) (fun a _ b _ => rfl)
      rw [e, List.map_snd_zip (by omega)]
    have hperm := List.mergeSort_perm (xs.zip ds) (PySem.W.dataLe false fun p : V × D => p.2.py)
    generalize (xs.zip ds).mergeSort (PySem.W.dataLe false fun p : V × D => p.2.py) = Z at h2 hsnd hperm
    have hv := each_vals (z := Z) h2
    have hzl : (Z.map Prod.fst).length ≤ sizeLine := by
      rw [List.length_map, hperm.length_eq, hlen]
      exact sz_le ok.len
    refine ⟨.ref _, upd H (s.heap.objs.size + 1) (.lst (Z.map Prod.fst)), I.laid (t' := s.toks) (fun _ _ => PyProof.Rows.sortedAll_old) (Nat.le_succ _) ⟨hzl, out, ep, hv, he'⟩, rfl, q _ _ (fun G g => ?_) (I.hok.fresh (Nat.le_succ _))⟩
    rw [← hsnd]
    exact pr_of_zip fun p hp => pr_zip g p (hperm.mem_iff.mp hp)
def fSorted : List D → (RS → Prop) → Prop
  | [.lst ds], q => SrtOk ds ∧ q (.new (.lst (ds.mergeSort dle)))
  | _, _ => False
theorem cd_sorted {K : PySem.W.Frag} : CallD K (rSortedD K) fSorted := fun B F H σ γ xs ds Q q R rx hf k => by
  unfold fSorted at hf
  split at hf
  · rename_i es
    obtain ⟨x, rfl, r⟩ := one_rs rx
    obtain ⟨a, vs, rfl, ha, ra⟩ := r.lst R.fh
    obtain ⟨ok, hq⟩ := hf
    refine ⟨a, vs, es, rfl, SqL.of ha, ra.dp R.fh ok.pure, ok, fun ys p g hp => ?_⟩
    obtain ⟨R', o⟩ := R.newL hp (RpAll.of (g _ ra.p))
    exact k _ F _ _ R' (Evl.Ex.refl F) o hq
  · exact hf.elim
/-! sorted, in plain words -/
theorem py_map {α : Type} (f : α → D) (xs : List α) : (xs.map f).map D.py = xs.map fun x => (f x).py := List.map_map
theorem sort_map {α : Type} {f : α → D} {le : α → α → Bool} (h : ∀ a b, dle (f a) (f b) = le a b) (xs : List α) : (xs.map f).mergeSort dle = (xs.mergeSort le).map f := (List.map_mergeSort (fun a _ b _ => (h a b).symm)).symm
theorem srtOk_of {α : Type} {f : α → D} {xs : List α} (hp : ∀ x, (f x).pure = true) (hl : xs.length ≤ 1000000) (ha : ∀ x y, PySem.W.alike (f x).py (f y).py = true) (hs : (∀ b, ∃ x r, (f b).py = .tuple (x :: r)) ∨ ∀ b, (f b).py ≠ .none ∧ ∀ xs, (f b).py ≠ .tuple xs) (hd : ∀ x, (f x).py.depth ≤ 60) : SrtOk (xs.map f) := by
  refine ⟨pureAll_map f hp xs, by simpa using hl, by rw [py_map]; exact PySem.W.AllAlike.of ha, ?_, fun d h => ?_⟩
  · rw [py_map]
    rcases hs with h | h
    · exact PySem.W.Sortable.tuples h
    · exact PySem.W.Sortable.others h
  · obtain ⟨x, _, rfl⟩ := List.mem_map.mp h
    exact hd x
theorem srtOk_ints {ns : List Int} (h : ns.length ≤ 1000000) : SrtOk (ns.map D.int) := srtOk_of (fun _ => rfl) h (fun _ _ => rfl) (.inr fun b => ⟨PyData.noConfusion, fun xs => PyData.noConfusion⟩) (fun _ => Nat.zero_le _)
theorem dle_int (a b : Int) : dle (.int a) (.int b) = decide (a ≤ b) := by
  unfold dle
  rw [show (D.int b).py = .int b from rfl, show (D.int a).py = .int a from rfl, PySem.W.dataLt_int]
  exact PySem.W.not_lt_int a b
theorem dle_str (a b : Str) : dle (.str a) (.str b) = decide (a.cps.toList ≤ b.cps.toList) := by
  unfold dle
  rw [show (D.str b).py = .str b from rfl, show (D.str a).py = .str a from rfl, PySem.W.dataLt_str]
  exact PySem.W.not_lt_str _ _
theorem sort_ints (ns : List Int) : (ns.map D.int).mergeSort dle = (ns.mergeSort fun a b => decide (a ≤ b)).map D.int := sort_map dle_int ns
end DL

set_option Elab.async false
set_option linter.all false
set_option maxRecDepth 100000
set_option maxHeartbeats 2000000
/-! ### order of numbers or texts; in -/
namespace DL
open PySem PySem.Spec PyProof.Rows L2
open Evl (Ex ex_l ex_t)
def rOr (r s : R2) : R2 := fun x y H Q => r x y H Q ∨ s x y H Q
theorem op_or2 {X : Cx} {f : Value → Value → Sem Value} {r s : R2} (h1 : OpR X f r) (h2 : OpR X f s) : OpR X f (rOr r s) := by
  intro pins s' σ H x y v u Q I rx ry h
  rcases h with h | h
  · exact h1 pins s' σ H x y v u Q I rx ry h
  · exact h2 pins s' σ H x y v u Q I rx ry h
theorem od_or {K : PySem.W.Frag} {r s : R2} {f g e : D → D → (RS → Prop) → Prop} (h1 : OpD K r f) (h2 : OpD K s g) (h : ∀ a b q, e a b q → f a b q ∨ g a b q) : OpD K (rOr r s) e := fun B F H σ γ x y d e' Q q R rx ry hf k => by
  rcases h _ _ _ hf with z | z
  · exact .inl (h1 B F H σ γ x y d e' Q q R rx ry z k)
  · exact .inr (h2 B F H σ γ x y d e' Q q R rx ry z k)
/-- texts by code points -/
def slt (i j : Str) : Bool := decide (i.cps.toList < j.cps.toList)
def fSS (g : Str → Str → Bool) : D → D → (RS → Prop) → Prop
  | .str i, .str j, q => q (.val (.bl (g i j)))
  | _, _, _ => False
theorem od_SS {K : PySem.W.Frag} {g : Str → Str → Bool} : OpD K (fun x y H Q => ∃ i j, x = .str i ∧ y = .str j ∧ Q (.bl (g i j)) H) (fSS g) := fun B F H σ γ x y d e Q q R rx ry hf k => by
  unfold fSS at hf
  split at hf
  · exact ⟨_, _, rx.str, ry.str, vk R k (.bl _) hf⟩
  · exact hf.elim
def fV2 (g : Int → Int → Bool) (h : Str → Str → Bool) : D → D → (RS → Prop) → Prop
  | .int i, .int j, q => q (.val (.bl (g i j)))
  | .str i, .str j, q => q (.val (.bl (h i j)))
  | _, _, _ => False
theorem od_V2 {K : PySem.W.Frag} {g : Int → Int → Bool} {h : Str → Str → Bool} {r s : R2} (h1 : OpD K r (fI0 fun i j => .bl (g i j))) (h2 : OpD K s (fSS h)) : OpD K (rOr r s) (fV2 g h) := od_or h1 h2 fun a b q e => by
  unfold fV2 at e
  split at e
  · exact .inl e
  · exact .inr e
  · exact e.elim
abbrev fLtV := fV2 (fun i j => decide (i < j)) slt
abbrev fGtV := fV2 (fun i j => decide (j < i)) fun i j => slt j i
abbrev fLeV := fV2 (fun i j => decide (i ≤ j)) fun i j => !slt j i
abbrev fGeV := fV2 (fun i j => decide (j ≤ i)) fun i j => !slt i j
section
variable {X : Cx} {K : PySem.W.Frag}
theorem op_ltV : OpR X (compareOp .Lt) (rOr (rI0 fun i j => .bl (decide (i < j))) fun x y H Q => ∃ i j, x = .str i ∧ y = .str j ∧ Q (.bl (slt i j)) H) := op_or2 op_lt op_lt_str
theorem op_gtV : OpR X (compareOp .Gt) (rOr (rI0 fun i j => .bl (decide (j < i))) fun x y H Q => ∃ i j, x = .str i ∧ y = .str j ∧ Q (.bl (slt j i)) H) := op_or2 op_gt op_gt_str
theorem op_leV : OpR X (compareOp .LtE) (rOr (rI0 fun i j => .bl (decide (i ≤ j))) fun x y H Q => ∃ i j, x = .str i ∧ y = .str j ∧ Q (.bl (!slt j i)) H) := op_or2 op_le op_le_str
theorem op_geV : OpR X (compareOp .GtE) (rOr (rI0 fun i j => .bl (decide (j ≤ i))) fun x y H Q => ∃ i j, x = .str i ∧ y = .str j ∧ Q (.bl (!slt i j)) H) := op_or2 op_ge op_ge_str
theorem od_ltV : OpD K (rOr (rI0 fun i j => .bl (decide (i < j))) fun x y H Q => ∃ i j, x = .str i ∧ y = .str j ∧ Q (.bl (slt i j)) H) fLtV := od_V2 od_lt od_SS
theorem od_gtV : OpD K (rOr (rI0 fun i j => .bl (decide (j < i))) fun x y H Q => ∃ i j, x = .str i ∧ y = .str j ∧ Q (.bl (slt j i)) H) fGtV := od_V2 od_gt od_SS
theorem od_leV : OpD K (rOr (rI0 fun i j => .bl (decide (i ≤ j))) fun x y H Q => ∃ i j, x = .str i ∧ y = .str j ∧ Q (.bl (!slt j i)) H) fLeV := od_V2 od_le od_SS
theorem od_geV : OpD K (rOr (rI0 fun i j => .bl (decide (j ≤ i))) fun x y H Q => ∃ i j, x = .str i ∧ y = .str j ∧ Q (.bl (!slt i j)) H) fGeV := od_V2 od_ge od_SS
end
/-! in a list or tuple of flat things -/
def D.flt : D → Bool
  | .non => true | .int _ => true | .str _ => true | _ => false
def fInQ (neg : Bool) (d e : D) (q : RS → Prop) : Prop := d.flt = true ∧ seqD e fun ds => ds.all D.flt = true ∧ q (.val (.bl (if neg then !ds.any (fun x => deq x d) else ds.any fun x => deq x d)))
theorem flt_v {K : KZ} {F : Hp} {v : V} {d : D} (r : Rp K F v d) (h : d.flt = true) : flatV v = true ∧ ∀ {w : V} {e : D}, Rp K F w e → e.flt = true → eqV w v = deq e d := by
  cases r <;> first | (exfalso; simp [D.flt] at h; done) | skip
  all_goals
    refine ⟨rfl, fun {w e} s he => ?_⟩
    cases s <;> first | (exfalso; simp [D.flt] at he; done) | (simp [eqV, deq, D.py, PyData.eqv])
theorem flt_all {K : KZ} {F : Hp} {v : V} {d : D} (r : Rp K F v d) (h : d.flt = true) : ∀ {vs : List V} {ds : List D}, RpAll K F vs ds → ds.all D.flt = true → vs.all flatV = true ∧ inV v vs = ds.any fun x => deq x d
  | _, _, .nil, _ => ⟨rfl, rfl⟩
  | _, _, .cons a b, e => by
    simp only [List.all_cons, Bool.and_eq_true] at e
    obtain ⟨h1, h2⟩ := flt_all r h b e.2
    obtain ⟨h3, _⟩ := flt_v a e.1
    have h4 := (flt_v r h).2 a e.1
    unfold inV at h2 ⊢
    exact ⟨by simp [h1, h3], by simp [h2, h4]⟩
theorem od_inQ {K : PySem.W.Frag} {neg : Bool} : OpD K (rIn K neg) (fInQ neg) := fun B F H σ γ x y d e Q q R rx ry hf k => by
  obtain ⟨hd, hf⟩ := hf
  obtain ⟨ds, he, h1, hq⟩ := seqD_of hf
  obtain ⟨a, vs, rfl, hs, ra⟩ := ry.seq R.fh he
  have rx' : Rp (B.kz K) F x d := by
    rcases rx with r | ⟨a, rfl, ⟨_, _, e, _⟩ | ⟨_, _, _, _, e, _⟩ | ⟨_, _, e, _⟩⟩
    · exact r
    all_goals (subst e; cases hd)
  obtain ⟨h2, h3⟩ := flt_all rx' hd ra h1
  refine ⟨a, vs, rfl, hs, (flt_v rx' hd).1, h2, ?_⟩
  rw [h3]
  exact vk R k (.bl _) hq
/-! one sign in a text -/
def fInC (neg : Bool) : D → D → (RS → Prop) → Prop
  | .str x, .str z, q => ∃ c, x = ⟨#[c]⟩ ∧ q (.val (.bl (if neg then !decide (c ∈ z.cps.toList) else decide (c ∈ z.cps.toList))))
  | _, _, _ => False
theorem od_inC {K : PySem.W.Frag} : OpD K (fun x y H Q => ∃ (c : Nat) (z : Str), x = .str ⟨#[c]⟩ ∧ y = .str z ∧ Q (.bl (decide (c ∈ z.cps.toList))) H) (fInC false) := fun B F H σ γ x y d e Q q R rx ry hf k => by
  unfold fInC at hf
  split at hf
  · obtain ⟨c, rfl, hq⟩ := hf
    exact ⟨c, _, rx.str, ry.str, vk R k (.bl _) hq⟩
  · exact hf.elim
theorem od_ninC {K : PySem.W.Frag} : OpD K (fun x y H Q => ∃ (c : Nat) (z : Str), x = .str ⟨#[c]⟩ ∧ y = .str z ∧ Q (.bl (!decide (c ∈ z.cps.toList))) H) (fInC true) := fun B F H σ γ x y d e Q q R rx ry hf k => by
  unfold fInC at hf
  split at hf
  · obtain ⟨c, rfl, hq⟩ := hf
    exact ⟨c, _, rx.str, ry.str, vk R k (.bl _) hq⟩
  · exact hf.elim
/-! a tuple of the module -/
theorem x_gtup {X : Cx} {B : Bs} {x : Str} {pos : Pos} {a : Addr} {vs : List V} {ds : List D} (hm : X.mg x = some (.ref a)) (ht : SqT X.K (fun _ => none) a vs) (hd : ∀ z F, RpAll ⟨X.K, z⟩ F vs ds) (hg : Gl X x := by rfl) (hdb : (x == ("__debug__" : Str)) = false := by decide) : XE X B (.Name x pos) (tC (.ref a)) (dC (.tup ds)) :=
  x_glob hg hm rfl (fun z F => .tup (ex_t (H := fun _ => none) (fun _ _ h => by cases h) ht) (hd z F)) hdb
end DL

set_option Elab.async false
set_option linter.all false
set_option maxRecDepth 100000
set_option maxHeartbeats 2000000
/-! ### dicts whose keys are numbers or texts -/
namespace DL
open PySem PySem.Spec PyProof.Rows L2
open Evl (Ex ex_l ex_t)
def keyD : D → Option Key
  | .int i => some (.inl i)
  | .str x => some (.inr x)
  | _ => none
def vlk (kd : List (Key × D)) (k : Key) : Option D := (kd.find? fun kv => decide (kv.1 = k)).map (·.2)
def ptk (kd : List (Key × D)) (k : Key) (d : D) : List (Key × D) :=
  if (kd.any fun kv => decide (kv.1 = k)) = true then kd.map (fun kv => if kv.1 = k then (kv.1, d) else kv) else kd ++ [(k, d)]
section
variable {K : KZ} {F F' H : Hp}
theorem ks_any {k : Key} : ∀ {kv : List (Key × V)} {kd : List (Key × D)}, RpKs K F kv kd → (kv.any fun p => decide (p.1 = k)) = kd.any fun p => decide (p.1 = k)
  | _, _, .nil => rfl
  | _, _, .cons a b => by simp only [List.any_cons, ks_any (k := k) b]
theorem ks_val {k : Key} : ∀ {kv : List (Key × V)} {kd : List (Key × D)}, RpKs K F kv kd → (valV kv k = none ∧ vlk kd k = none) ∨ ∃ v d, valV kv k = some v ∧ vlk kd k = some d ∧ Rp K F v d
  | _, _, .nil => .inl ⟨rfl, rfl⟩
  | _, _, @RpKs.cons _ _ n v vs d ds a b => by
    by_cases e : n = k
    · refine .inr ⟨v, d, ?_, ?_, a⟩
      · simp [valV, List.find?_cons, e]
      · simp [vlk, List.find?_cons, e]
    · rcases ks_val (k := k) b with ⟨h1, h2⟩ | ⟨v', d', h1, h2, h3⟩
      · refine .inl ⟨?_, ?_⟩
        · unfold valV at h1 ⊢; simpa [List.find?_cons, e] using h1
        · unfold vlk at h2 ⊢; simpa [List.find?_cons, e] using h2
      · refine .inr ⟨v', d', ?_, ?_, h3⟩
        · unfold valV at h1 ⊢; simpa [List.find?_cons, e] using h1
        · unfold vlk at h2 ⊢; simpa [List.find?_cons, e] using h2
theorem ks_map {k : Key} {v : V} {d : D} (r : Rp K F v d) : ∀ {kv : List (Key × V)} {kd : List (Key × D)}, RpKs K F kv kd → RpKs K F (kv.map fun p => if p.1 = k then (p.1, v) else p) (kd.map fun p => if p.1 = k then (p.1, d) else p)
  | _, _, .nil => .nil
  | _, _, @RpKs.cons _ _ n v vs d ds a b => by
    simp only [List.map_cons]
    by_cases e : n = k
    · rw [if_pos e, if_pos e]; exact .cons r (ks_map r b)
    · rw [if_neg e, if_neg e]; exact .cons a (ks_map r b)
theorem ks_app : ∀ {kv kv' : List (Key × V)} {kd kd' : List (Key × D)}, RpKs K F kv kd → RpKs K F kv' kd' → RpKs K F (kv ++ kv') (kd ++ kd')
  | _, _, _, _, .nil, h => h
  | _, _, _, _, .cons a b, h => .cons a (ks_app b h)
theorem ks_put {k : Key} {v : V} {d : D} {kv : List (Key × V)} {kd : List (Key × D)} (r : Rp K F v d) (h : RpKs K F kv kd) : RpKs K F (putK kv k v) (ptk kd k d) := by
  unfold putK ptk
  rw [ks_any h]
  split
  · exact ks_map r h
  · exact ks_app h (.cons r .nil)
theorem ks_len : ∀ {kv : List (Key × V)} {kd : List (Key × D)}, RpKs K F kv kd → kv.length = kd.length
  | _, _, .nil => rfl
  | _, _, .cons _ t => by rw [List.length_cons, List.length_cons, ks_len t]
theorem key_v {v : V} {d : D} {k : Key} (h : keyD d = some k) (r : Rs K F H v d) : v = kV k := by
  cases d <;> first | (exfalso; simp [keyD] at h; done) | skip
  · cases h; exact r.int
  · cases h; exact r.str
end
def rDGet : R2 := fun x y H Q => ∃ a v, x = .ref a ∧ DGet H a y (some v) ∧ Q v H
def rDIn (neg : Bool) : R2 := fun y x H Q => ∃ a o, x = .ref a ∧ DGet H a y o ∧ Q (.bl (if neg then !o.isSome else o.isSome)) H
def fDGet (d e : D) (q : RS → Prop) : Prop := match d with
  | .dct kd => ∃ k v, keyD e = some k ∧ vlk kd k = some v ∧ q (.val v)
  | _ => False
def fDIn (neg : Bool) (e d : D) (q : RS → Prop) : Prop := match d with
  | .dct kd => ∃ k, keyD e = some k ∧ q (.val (.bl (if neg then !(vlk kd k).isSome else (vlk kd k).isSome)))
  | _ => False
theorem od_dget {K : PySem.W.Frag} : OpD K rDGet fDGet := fun B F H σ γ x y d e Q q R rx ry hf k => by
  unfold fDGet at hf
  split at hf
  · obtain ⟨kk, v, h1, h2, hq⟩ := hf
    obtain ⟨a, kv, rfl, ha, ra⟩ := rx.dct R.fh
    have hy := key_v h1 ry
    subst hy
    rcases ks_val (k := kk) ra with ⟨_, z⟩ | ⟨u, d', g1, g2, g3⟩
    · rw [h2] at z; cases z
    · rw [h2] at g2; cases g2
      exact ⟨a, u, rfl, by rw [← g1]; exact DGet.k ha, vk R k g3 hq⟩
  · exact hf.elim
theorem od_din {K : PySem.W.Frag} {neg : Bool} : OpD K (rDIn neg) (fDIn neg) := fun B F H σ γ x y d e Q q R rx ry hf k => by
  unfold fDIn at hf
  split at hf
  · rename_i kd
    obtain ⟨kk, h1, hq⟩ := hf
    obtain ⟨a, kv, rfl, ha, ra⟩ := ry.dct R.fh
    have hy := key_v h1 rx
    subst hy
    refine ⟨a, _, rfl, DGet.k ha, ?_⟩
    have e : (valV kv kk).isSome = (vlk kd kk).isSome := by
      rcases ks_val (k := kk) ra with ⟨z1, z2⟩ | ⟨u, d', g1, g2, g3⟩
      · rw [z1, z2]; rfl
      · rw [g1, g2]; rfl
    rw [e]
    exact vk R k (.bl _) hq
  · exact hf.elim
section
variable {X : Cx} {B : Bs} {a b : Expr} {ta tb : TE} {da db : DE} {pos : Pos}
theorem x_dget (hu : X.A.units + 1 < cLine) (ha : XE X B a ta da) (hb : XE X B b tb db) (hs : NoSl b := by exact fun _ _ => rfl) : XE X B (.Subscript a b pos) (tOp rDGet ta tb) (d2 fDGet da db) := ⟨pe_dget hu ha.pe hb.pe hs, se_op od_dget ha.se hb.se⟩
theorem x_din (hu : X.A.units + 1 < cLine) (ha : XE X B a ta da) (hb : XE X B b tb db) (hm : behindInMarks .In b = false := by first | exact nomark _ | rfl) : XE X B (.Compare a [.In] [b] pos) (tOp (rDIn false) ta tb) (d2 (fDIn false) da db) := ⟨pe_cmp (pc_din hu ha.pe hb.pe) hm, se_op od_din ha.se hb.se⟩
theorem x_dnin (hu : X.A.units + 1 < cLine) (ha : XE X B a ta da) (hb : XE X B b tb db) (hm : behindInMarks .NotIn b = false := by first | exact nomark _ | rfl) : XE X B (.Compare a [.NotIn] [b] pos) (tOp (rDIn true) ta tb) (d2 (fDIn true) da db) := ⟨pe_cmp (pc_dnotin hu ha.pe hb.pe) hm, se_op od_din ha.se hb.se⟩
end
/-! new ones -/
def dDNew (γ : Env) (q : RS → Env → Prop) : Prop := q (.new (.dct [])) γ
theorem Rep.newK {K : PySem.W.Frag} {B : Bs} {F H : Hp} {σ : L2.St} {γ : Env} {p : Addr} {kv : List (Key × V)} {kd : List (Key × D)} (R : Rep K B F H σ γ) (hp : H p = none) (h : RpKs (B.kz K) F kv kd) : Rep K B F (upd H p (.dK kv)) σ γ ∧ RsOk K B F (upd H p (.dK kv)) σ γ (.ref p) (.new (.dct kd)) := by
  obtain ⟨f1, f2, f3, f4⟩ := R.fresh hp
  exact ⟨R.alloc _ hp, p, rfl, f1, ⟨kv, upd_same, h⟩, f3, .inr f2, f4⟩
theorem x_dnew {X : Cx} {B : Bs} {pos : Pos} : XE X B (.Dict [] [] pos) tDNewK dDNew := ⟨pe_dnewK, fun F H σ γ Q q R hq k => fun p hp => by
  obtain ⟨R', o⟩ := R.newK hp .nil
  exact k _ F _ γ _ R' (Evl.Ex.refl F) o hq⟩
def fLenD : List D → (RS → Prop) → Prop
  | [.dct kd], q => q (.val (.int kd.length))
  | _, _ => False
theorem cd_lenD {K : PySem.W.Frag} : CallD K (fun xs H Q => ∃ a kvs, xs = [V.ref a] ∧ H a = some (.dK kvs) ∧ Q (.int kvs.length) H) fLenD := fun B F H σ γ xs ds Q q R rx hf k => by
  unfold fLenD at hf
  split at hf
  · obtain ⟨x, rfl, r⟩ := one_rs rx
    obtain ⟨a, kv, rfl, ha, ra⟩ := r.dct R.fh
    refine ⟨a, kv, rfl, ha, ?_⟩
    rw [ks_len ra]
    exact vk R k (.int _) hf
  · exact hf.elim
/-! d[k] = e -/
section
variable {K : PySem.W.Frag} {B : Bs} {F F' H H' : Hp} {σ : L2.St} {γ : Env}
theorem Rep.writeK (R : Rep K B F H σ γ) {j : Nat} {p : Option Nat} {ds ds' : List (Key × D)} {a : Addr} {vs vs' : List (Key × V)} (hl : look γ j = .own p (.dct ds)) (hs : σ[j]? = some (some (.ref a))) (ha : H a = some (.dK vs)) (r : RpKs (B.kz K) F vs' ds') :
    Rep K B F (upd H a (.dK vs')) σ (put γ j (.own p (.dct ds'))) := by
  obtain ⟨a', hs', hg, fa, ok⟩ := R.own hl
  obtain rfl : a = a' := by rw [hs] at hs'; cases hs'; rfl
  have ne_own : ∀ {b x : Addr}, H b = some (.own x) → b ≠ a := fun h e => by
    subst e
    rw [ha] at h; cases h
  have key : ∀ {i : Nat} {q : Option Nat} {c : OC}, (put γ j (.own p (.dct ds')))[i]? = some (.own q c) → ∃ c0, γ[i]? = some (.own q c0) ∧ ((i = j ∧ c = .dct ds') ∨ (i ≠ j ∧ c0 = c)) := fun h => by
    rcases get_put h with ⟨rfl, e⟩ | ⟨n, e⟩
    · injection e with e1 e2
      subst e1; subst e2
      exact ⟨_, hg, .inl ⟨rfl, rfl⟩⟩
    · exact ⟨_, e, .inr ⟨n, rfl⟩⟩
  refine ⟨fun b o e => ?_, by rw [put_len]; exact R.len, fun i s t h1 h2 => ?_, fun i i' b q c q' c' h1 h2 h3 h4 => ?_, fun b o e => ?_, R.b2, R.b3, fun i b q c h1 h2 => ?_, fun i b q c h1 h2 => ?_, fun b o e => ?_, fun b o e => ?_⟩
  · have n : b ≠ a := fun z => by subst z; rw [fa] at e; cases e
    rw [upd_ne n]; exact R.fh b o e
  · rcases get_put h2 with ⟨rfl, rfl⟩ | ⟨n, e⟩
    · rw [hs] at h1; cases h1
      exact ⟨a, rfl, fa, vs', upd_same, r⟩
    · have q := R.sl i s t h1 e
      cases t with
      | no => trivial
      | val d => exact q
      | own q' c =>
        obtain ⟨b, e', f, ok'⟩ := q
        subst e'
        have nb : b ≠ a := fun z => by subst z; exact n (R.nd i j b q' c p (.dct ds) e hg h1 hs)
        exact ⟨b, rfl, f, ok'.heap (upd_ne nb) fun dx hd => upd_ne (ne_own hd)⟩
  · obtain ⟨_, y1, _⟩ := key h1
    obtain ⟨_, y2, _⟩ := key h2
    exact R.nd i i' b q _ q' _ y1 y2 h3 h4
  · obtain ⟨x1, o', x2⟩ := R.b1 b o e
    by_cases hb : b = a
    · subst hb
      rw [upd_same]
      refine ⟨fun n => ?_, _, rfl⟩
      rcases R.b5 j b p _ hg hs with z | z
      · exact absurd z n
      · rw [e] at z; cases z
    · rw [upd_ne hb]; exact ⟨x1, o', x2⟩
  · obtain ⟨_, y1, _⟩ := key h1
    exact R.b4 i b q _ y1 h2
  · obtain ⟨_, y1, _⟩ := key h1
    exact R.b5 i b q _ y1 h2
  · obtain ⟨o', x2⟩ := R.bN b o e
    by_cases hb : b = a
    · subst hb; exact ⟨_, upd_same⟩
    · rw [upd_ne hb]; exact ⟨o', x2⟩
  · obtain ⟨o', x2, kn⟩ := R.bd b o e
    by_cases hb : b = a
    · subst hb
      rw [ha] at x2
      cases x2
      exact ⟨_, upd_same, kn.trans ⟨_, rfl⟩⟩
    · rw [upd_ne hb]; exact ⟨o', x2, kn⟩end
def dSetK (j : Nat) (de dk : DE) (d : DEnds) (γ : Env) : Prop := de γ fun s γ1 => s.kept ∧ (∃ p kd, look γ1 j = .own p (.dct kd)) ∧ dk γ1 fun t γ2 => match look γ2 j, keyD t.data with
  | .own p (.dct kd), some k => kd.length < 1000000 ∧ d.nx (put γ2 j (.own p (.dct (ptk kd k s.data))))
  | _, _ => False
theorem ss_setK {K : PySem.W.Frag} {B : Bs} {te ti : TE} {de di : DE} {j : Nat} (he : SE K B te de) (hi : SE K B ti di) : SS K B (sDPut (tVar j) ti te) (dSetK j de di) := fun F H σ γ E d R hq k => by
  refine he F H σ γ _ _ R hq fun v F1 H1 γ1 s R1 e1 o1 ⟨hk, ⟨p0, kd0, hl⟩, q⟩ => ?_
  obtain ⟨F2, R2, e2, o2⟩ := o1.fz R1
  have rv : Rp (B.kz K) F2 v s.data := kept_rp o2 hk
  obtain ⟨a, hs, hg, fa, vs, ha, ra⟩ := R2.own hl
  refine ⟨_, hs, hi F2 H1 σ γ1 _ _ R2 q fun v3 F3 H3 γ3 t R3 e3 o3 q3 => ?_⟩
  split at q3
  · rename_i p1 kd1 kk hl1 es
    obtain ⟨a1, hs1, hg1, fa1, vs1, ha1, ra1⟩ := R3.own hl1
    rw [hs] at hs1; cases hs1
    obtain ⟨hlen, q4⟩ := q3
    have hy := key_v es (o3.rs R3)
    subst hy
    exact ⟨a, _, rfl, DPut.k ha1 (Nat.lt_of_lt_of_le (by rw [ks_len ra1]; exact hlen) (by decide)), k.nx F3 _ _ _ (R3.writeK hl1 hs ha1 (ks_put (Rp.mono e3 rv) ra1)) ((e1.trans e2).trans e3) q4⟩
  · exact q3.elim
theorem s_setK {X : Cx} {B : Bs} {e ei : Expr} {te ti : TE} {de di : DE} {p3 apos pos : Pos} {o : Str} (j : Nat) (hu : X.A.units + 1 < cLine) (he : XE X B e te de) (hi : XE X B ei ti di)
    (hN : X.N[j]? = some o := by rfl) (hv : Vis X.env.scope o := by first | exact Or.inl rfl | exact Or.inr (Or.inl rfl) | exact Or.inr (Or.inr rfl)) (hd : (o == ("__debug__" : Str)) = false := by decide) (hcd : (o == ("__classdict__" : Str)) = false := by decide)
    (hs : swapsWith e (some (.Subscript (.Name o apos) ei p3)) pos.line X.env = pure false := by rfl) :
    XS X B (.Assign [.Subscript (.Name o apos) ei p3] e pos) (sDPut (tVar j) ti te) (dSetK j de di) := ⟨ps_dput hu (pe_var hN hv hd hcd) hi.pe he.pe hs, ss_setK he.se hi.se⟩
end DL

set_option Elab.async false
set_option linter.all false
set_option maxRecDepth 100000
set_option maxHeartbeats 2000000
/-! ### own classes: constants, properties, operators, C(..) whose __init__ may raise elsewhere -/
namespace DL
open PySem PySem.Spec PyProof.Rows L2
open Evl (Ex ex_l ex_t)
/-! o.F, a number of the class -/
def ConOk (K : PySem.W.Frag) (f : Str) (tab : String → Option Int) : Prop := ∀ C i, tab C = some i → Cls K (ctOf K C) ∧ ∃ u, Con K (ctOf K C) f (.int i) u
def fCon (f : Str) (tab : String → Option Int) : D → (RS → Prop) → Prop
  | .obj C fs, q => fs.lookup f = none ∧ ∃ i, tab C = some i ∧ q (.val (.int i))
  | _, _ => False
def rCon (K : PySem.W.Frag) (f : Str) : V → Hp → VK → Prop := fun x H Q => ∃ a C dx fs v u, x = .ref a ∧ H a = some (.ins C dx fs) ∧ Cls K C ∧ Con K C f v u ∧ fs.lookup f = none ∧ Q v H
theorem ud_con {K : PySem.W.Frag} {f : Str} {tab : String → Option Int} (ht : ConOk K f tab) : UnD K (rCon K f) (fCon f tab) := fun B F H σ γ x d Q q R rx hf k => by
  unfold fCon at hf
  split at hf
  · rename_i C fs
    obtain ⟨hl, i, hi, hq⟩ := hf
    obtain ⟨a, dx, fv, rfl, h2, h3⟩ := rx.obj R.fh
    obtain ⟨c, u, hc⟩ := ht C i hi
    exact ⟨a, _, dx, fv, _, u, rfl, h2, c, hc, fs_none h3 hl, vk R k (.int i) hq⟩
  · exact hf.elim
theorem x_con {X : Cx} {B : Bs} {e : Expr} {te : TE} {de : DE} {tab : String → Option Int} {pos : Pos} (f : Str) (ht : ConOk X.K f tab) (h : XE X B e te de) (hb : attributeBase e f X.env (eval e X.env) = eval e X.env := by rfl) : XE X B (.Attribute e f pos) (tUn (rCon X.K f) te) (d1 (fCon f tab) de) := ⟨by
    have := pe_con h.pe hb (pos := pos)
    exact this, se_un (ud_con ht) h.se⟩
/-! o.p, a property -/
inductive PDisp (P : Program) (w : World) (K : PySem.W.Frag) (mg : Str → Option Value) (base : Heap) (km : Nat) (f : Str) (C : Addr) (sp : Sp) : Prop
  | mk {k : Nat} {p g : Addr} {fd : FuncData} {ps : List Str} : Cls K C → PropOf K C f p g → FnOk P w K mg base CX0 k g fd ps sp → k + 1 ≤ km → Binds K fd ps [] → PDisp P w K mg base km f C sp
def tPropP (P : Program) (w : World) (K : PySem.W.Frag) (mg : Str → Option Value) (base : Heap) (km : Nat) (f : Str) (ta : TE) : TE := fun σ H Q => ta σ H fun x H1 => ∃ a C dx fs sp, x = .ref a ∧ H1 a = some (.ins C dx fs) ∧ PDisp P w K mg base km f C sp ∧ sp [x] H1 Q E0
theorem pe_propP {X : Cx} {km : Nat} {f : Str} {e : Expr} {pos : Pos} {ta : TE} (he : PE X e ta) (hr : Room km X.A) (hab : attributeBase e f X.env (eval e X.env) = eval e X.env) : PE X (.Attribute e f pos) (tPropP X.prog X.w X.K X.mg X.base km f ta) := by
  refine ⟨fun pins s σ H Q I h => ?_⟩
  refine attr_of hab (thn (he.run pins s σ H _ I h) fun u s1 ⟨x, H1, I1, rx, a, C, dx, fs, sp, ex, ea, dp, q⟩ => ?_)
  subst ex
  obtain rfl : u = Value.ref a := rx
  obtain ⟨c, hp, F, hk, hb⟩ := dp
  exact getprop_ok (dvs := []) (ds := []) I1 ea c hp F (hr.mono hk) hb .nil pass0 q
def dProp (tb : MT) (l : DA) (γ : Env) (q : RS → Env → Prop) : Prop := l γ fun rs γ1 => match rs with
  | [s] => (match s.data with
    | .obj C fl => ∃ fs, tb C = some fs ∧ fs (argsOf 0 [s]) fun r as' => q r (upds γ1 [s] as')
    | _ => False)
  | _ => False
theorem own1 (s : RS) : (ownIx [s]).Nodup := by cases s <;> simp [ownIx]
section
variable {P : Program} {w : World} {K : PySem.W.Frag} {mg : Str → Option Value} {base : Heap} {km : Nat} {B : Bs}
theorem se_prop {f : Str} {te : TE} {de : DE} {tb : MT} (hd : ∀ C fs, tb C = some fs → PDisp P w K mg base km f (ctOf K C) (spOf K 1 fs)) (he : SE K B te de) : SE K B (tPropP P w K mg base km f te) (dProp tb (dCons de dNil)) := fun F H σ γ Q q R hq k => by
  have sl := sa_cons he (sa_nil (K := K) (B := B))
  have := sl F H σ γ (fun vs H1 => ∃ x, vs = [x] ∧ ∃ a C dx fs sp, x = .ref a ∧ H1 a = some (.ins C dx fs) ∧ PDisp P w K mg base km f C sp ∧ sp [x] H1 Q E0) _ R hq fun vs F1 H1 γ1 rs R1 e1 o1 h1 => by
    split at h1
    · rename_i s
      split at h1
      · rename_i C fl es
        obtain ⟨fs, ht, h6⟩ := h1
        cases o1 with
        | cons o2 o3 => cases o3 with
          | nil =>
            rename_i x
            have r := o2.rs R1
            rw [es] at r
            obtain ⟨a, dx, fv, rfl, q2, q3⟩ := r.obj R1.fh
            refine ⟨_, rfl, a, _, dx, fv, _, rfl, q2, hd C fs ht, ?_⟩
            have oo : Paired (RsOk K B F1 H1 σ γ1) [.ref a] [s] := .cons o2 .nil
            obtain ⟨m', hm, RE⟩ := R1.args (dvs := []) (dds := []) oo .nil (own1 s)
            simp only [List.append_nil, List.map_nil] at RE
            refine ⟨rfl, F1, m', _, _, _, RE, h6, fun r as' v F4 H4 hp R4 ok hk => ?_⟩
            obtain ⟨R5, e5, ok5⟩ := R1.called oo (own1 s) (fun i v hv => hv) hm R4
            exact k v F4 H4 _ r R5 (e1.trans e5) (ok5 v r hk ok) hp
      · exact h1.elim
    · exact h1.elim
  unfold tPropP
  refine Eq.mp ?_ this
  unfold tCons tNil
  congr 1
  funext x H1
  simp
end
theorem x_prop {X : Cx} {B : Bs} {e : Expr} {te : TE} {de : DE} {km : Nat} {pos : Pos} (P : Program) (w : World) (K : PySem.W.Frag) (mg : Str → Option Value) (base : Heap) (hX : (X.prog, X.w, X.K, X.mg, X.base) = (P, w, K, mg, base)) (hr : Room km X.A) (f : Str) {tb : MT} (hd : ∀ C fs, tb C = some fs → PDisp P w K mg base km f (ctOf K C) (spOf K 1 fs)) (h : XE X B e te de)
    (hab : attributeBase e f X.env (eval e X.env) = eval e X.env := by rfl) : XE X B (.Attribute e f pos) (tPropP P w K mg base km f te) (dProp tb (dCons de dNil)) := by
  cases hX
  exact ⟨pe_propP h.pe hr hab, se_prop hd h.se⟩
/-! a op b, the class's own -/
structure OpTy (K : PySem.W.Frag) (C : Addr) (op : Operator) (T : String) : Prop where
  h1 : ∃ fo, PySem.W.findIn K (.type T) (PySem.dunder op.info.2) = some fo
  h2 : ∃ ro, PySem.W.findIn K (.type T) (PySem.dunderR op.info.2) = some ro
  sub : PySem.W.subIn K (.type T) (.ref C) = some false
structure OpCl (K : PySem.W.Frag) (C : Addr) (op : Operator) (f : Addr) : Prop where
  self : PySem.W.selfFirst K C = true
  at_ : PySem.W.findIn K (.ref C) (PySem.dunder op.info.2) = some (some (.ref f))
  fn : PySem.W.isFn K (.ref f) = true
  rr : PySem.W.findIn K (.ref C) (PySem.dunderR op.info.2) = some none
inductive ODisp (P : Program) (w : World) (K : PySem.W.Frag) (mg : Str → Option Value) (base : Heap) (CX : CXT) (km : Nat) (op : Operator) (C : Addr) (sp : Sp) : Prop
  | mk {k : Nat} {f : Addr} {fd : FuncData} {ps : List Str} : OpCl K C op f → FnOk P w K mg base CX k f fd ps sp → k ≤ km → Binds K fd ps [] → ODisp P w K mg base CX km op C sp
/-- what stands to the right -/
def Rgt (K : PySem.W.Frag) (C : Addr) (op : Operator) (H : Hp) (y : V) : Prop := ((∃ i, y = .int i) ∧ OpTy K C op "int") ∨ ((∃ x, y = .str x) ∧ OpTy K C op "str") ∨ ∃ b dx fs, y = .ref b ∧ H b = some (.ins C dx fs)
def tOpO (P : Program) (w : World) (K : PySem.W.Frag) (mg : Str → Option Value) (base : Heap) (CX : CXT) (km : Nat) (op : Operator) (E : L2.St → XK) (ta tb : TE) : TE := fun σ H Q => ta σ H fun x H1 => tb σ H1 fun y H2 => ∃ a C dx fs sp, x = .ref a ∧ H2 a = some (.ins C dx fs) ∧ ODisp P w K mg base CX km op C sp ∧ Rgt K C op H2 y ∧ sp [x, y] H2 Q (E σ)
theorem back_of {X : Cx} {pins : List (Addr × Obj)} {σ : L2.St} {Q : VK} {v : Value} {s' : Shared} (h : EP X pins σ Q v s') : PySem.W.CmpBack (EP X pins σ Q) v s' := by
  have h0 := h
  obtain ⟨x, H', I, r, q⟩ := h
  cases x <;> first | (obtain ⟨t, rfl⟩ := r; exact h0) | (cases r; exact h0)
theorem pe_opO {X : Cx} {CX : CXT} {km : Nat} {op : Operator} {E : L2.St → XK} {a b : Expr} {pos : Pos} {ta tb : TE} (ha : PE X a ta) (hb : PE X b tb) (hr : Room km X.A) (hx : ∀ σ, PassesAt CX X σ (E σ)) : PE X (.BinOp a op b pos) (tOpO X.prog X.w X.K X.mg X.base CX km op E ta tb) := by
  refine ⟨fun pins s σ H Q I h => ?_⟩
  refine wpAny_BinOp (binT ha hb I h fun v u s2 x y H2 I2 rx ry ⟨p, C, dx, fs, sp, ex, ea, dp, rg, q⟩ => ?_)
  subst ex
  obtain rfl : v = Value.ref p := rx
  obtain ⟨oc, F, hk, hbd⟩ := dp
  obtain ⟨mA, O, _⟩ := ins_get I2.hok ea
  obtain ⟨od, J, _⟩ := O.look
  obtain ⟨m, fr⟩ := I2.fr
  have cl := wpAny_mono (run_fnS (us := [.ref p, u]) (vs := [.ref p, y]) F (hr.mono hk) hbd hx I2 (.cons rfl (.cons ry .nil)) q) (fun v s' hv => back_of hv) fun _ _ e => e
  rcases rg with ⟨⟨i, rfl⟩, ot⟩ | ⟨⟨i, rfl⟩, ot⟩ | ⟨b', dx', fs', rfl, eb⟩
  · obtain ⟨t, rfl⟩ := ry
    obtain ⟨fo, h1⟩ := ot.h1
    obtain ⟨ro, h2⟩ := ot.h2
    exact PySem.W.ksp_binT (T := "int") fr I2.mod.kin J rfl oc.self oc.at_ oc.fn oc.rr (.inl rfl) h1 h2 ot.sub cl
  · obtain ⟨t, rfl⟩ := ry
    obtain ⟨fo, h1⟩ := ot.h1
    obtain ⟨ro, h2⟩ := ot.h2
    exact PySem.W.ksp_binT (T := "str") fr I2.mod.kin J rfl oc.self oc.at_ oc.fn oc.rr (.inl rfl) h1 h2 ot.sub cl
  · obtain rfl : u = Value.ref b' := ry
    obtain ⟨mB, O2, _⟩ := ins_get I2.hok eb
    obtain ⟨od2, J2, _⟩ := O2.look
    exact PySem.W.binop_K fr I2.mod.kin J J2.type oc.self oc.at_ oc.fn cl
def rgtD (C : String) : D → Prop
  | .int _ => True
  | .str _ => True
  | .obj C' _ => C' = C
  | _ => False
def dOpO (tb : MT) (l : DA) (γ : Env) (q : RS → Env → Prop) : Prop := l γ fun rs γ1 => match rs with
  | [s, t] => (match s.data with
    | .obj C fl => ∃ fs, tb C = some fs ∧ rgtD C t.data ∧ (ownIx [s, t]).Nodup ∧ fs (argsOf 0 [s, t]) fun r as' => q r (upds γ1 [s, t] as')
    | _ => False)
  | _ => False
def dOpOX (xc : DX) (tb : MTX) (l : DA) (γ : Env) (q : RS → Env → Prop) : Prop := l γ fun rs γ1 => match rs with
  | [s, t] => (match s.data with
    | .obj C fl => ∃ fs, tb C = some fs ∧ rgtD C t.data ∧ (ownIx [s, t]).Nodup ∧ fs (argsOf 0 [s, t]) (fun r as' => q r (upds γ1 [s, t] as')) fun nm xs as' => xc nm xs (upds γ1 [s, t] as')
    | _ => False)
  | _ => False
def OpTys (K : PySem.W.Frag) (C : Addr) (op : Operator) : Prop := OpTy K C op "int" ∧ OpTy K C op "str"
theorem rgt_of {K : KZ} {F H : Hp} {C : String} {op : Operator} {y : V} {d : D} (e : Ex F H) (ot : OpTys K.fr (ctOf K.fr C) op) (r : Rs K F H y d) (h : rgtD C d) : Rgt K.fr (ctOf K.fr C) op H y := by
  unfold rgtD at h
  split at h
  · exact .inl ⟨⟨_, r.int⟩, ot.1⟩
  · exact .inr (.inl ⟨⟨_, r.str⟩, ot.2⟩)
  · subst h
    obtain ⟨a, dx, fv, rfl, h2, _⟩ := r.obj e
    exact .inr (.inr ⟨a, dx, fv, rfl, h2⟩)
  · exact h.elim
section
variable {P : Program} {w : World} {K : PySem.W.Frag} {mg : Str → Option Value} {base : Heap} {km : Nat} {B : Bs} {op : Operator} {te tf : TE} {de df : DE}
theorem se_opO {tb : MT} (hd : ∀ C fs, tb C = some fs → ODisp P w K mg base CX0 km op (ctOf K C) (spOf K 2 fs) ∧ OpTys K (ctOf K C) op) (he : SE K B te de) (hf : SE K B tf df) : SE K B (tOpO P w K mg base CX0 km op (fun _ => E0) te tf) (dOpO tb (dCons de (dCons df dNil))) := fun F H σ γ Q q R hq k => by
  have sl := sa_cons he (sa_cons hf (sa_nil (K := K) (B := B)))
  have := sl F H σ γ (fun vs H2 => ∃ x y, vs = [x, y] ∧ ∃ a C dx fs sp, x = .ref a ∧ H2 a = some (.ins C dx fs) ∧ ODisp P w K mg base CX0 km op C sp ∧ Rgt K C op H2 y ∧ sp [x, y] H2 Q E0) _ R hq fun vs F1 H1 γ1 rs R1 e1 o1 h1 => by
    split at h1
    · rename_i s t
      split at h1
      · rename_i C fl es
        obtain ⟨fs, ht, hg, hn, h6⟩ := h1
        cases o1 with
        | cons o2 o3 => cases o3 with
          | cons o3 o4 => cases o4 with
            | nil =>
              rename_i x y
              have r := o2.rs R1
              rw [es] at r
              obtain ⟨a, dx, fv, rfl, q2, q3⟩ := r.obj R1.fh
              obtain ⟨d1, d2⟩ := hd C fs ht
              refine ⟨_, _, rfl, a, _, dx, fv, _, rfl, q2, d1, rgt_of R1.fh d2 (o3.rs R1) hg, ?_⟩
              have oo : Paired (RsOk K B F1 H1 σ γ1) [.ref a, y] [s, t] := .cons o2 (.cons o3 .nil)
              obtain ⟨m', hm, RE⟩ := R1.args (dvs := []) (dds := []) oo .nil hn
              simp only [List.append_nil, List.map_nil] at RE
              refine ⟨rfl, F1, m', _, _, _, RE, h6, fun r as' v F4 H4 hp R4 ok hk => ?_⟩
              obtain ⟨R5, e5, ok5⟩ := R1.called oo hn (fun i v hv => hv) hm R4
              exact k v F4 H4 _ r R5 (e1.trans e5) (ok5 v r hk ok) hp
      · exact h1.elim
    · exact h1.elim
  unfold tOpO
  refine Eq.mp ?_ this
  unfold tCons tNil
  congr 1
  funext x H1
  congr 1
  funext y H2
  exact propext ⟨fun ⟨x', y', e, h⟩ => by cases e; exact h, fun h => ⟨x, y, rfl, h⟩⟩
theorem se_opOX {ct : Nat → Addr} {W : WX} {xc : DX} {tb : MTX} (hd : ∀ C fs, tb C = some fs → ODisp P w K mg base (L2N.CX P w) km op (ctOf K C) (spOfX K ct 2 fs) ∧ OpTys K (ctOf K C) op) (xo : XOk K ct B W xc) (he : SE K B te de) (hf : SE K B tf df) : SE K B (tOpO P w K mg base (L2N.CX P w) km op (WE W) te tf) (dOpOX xc tb (dCons de (dCons df dNil))) := fun F H σ γ Q q R hq k => by
  have sl := sa_cons he (sa_cons hf (sa_nil (K := K) (B := B)))
  have := sl F H σ γ (fun vs H2 => ∃ x y, vs = [x, y] ∧ ∃ a C dx fs sp, x = .ref a ∧ H2 a = some (.ins C dx fs) ∧ ODisp P w K mg base (L2N.CX P w) km op C sp ∧ Rgt K C op H2 y ∧ sp [x, y] H2 Q (WE W σ)) _ R hq fun vs F1 H1 γ1 rs R1 e1 o1 h1 => by
    split at h1
    · rename_i s t
      split at h1
      · rename_i C fl es
        obtain ⟨fs, ht, hg, hn, h6⟩ := h1
        cases o1 with
        | cons o2 o3 => cases o3 with
          | cons o3 o4 => cases o4 with
            | nil =>
              rename_i x y
              have r := o2.rs R1
              rw [es] at r
              obtain ⟨a, dx, fv, rfl, q2, q3⟩ := r.obj R1.fh
              obtain ⟨d1, d2⟩ := hd C fs ht
              refine ⟨_, _, rfl, a, _, dx, fv, _, rfl, q2, d1, rgt_of R1.fh d2 (o3.rs R1) hg, ?_⟩
              have oo : Paired (RsOk K B F1 H1 σ γ1) [.ref a, y] [s, t] := .cons o2 (.cons o3 .nil)
              have cc := call_core (W := WE W σ) (ct := ct) (n := 2) (fs := fs) (dvs := []) (dds := []) (q := q) .nil R1 oo (fun F' H' γ' nm dd fs R' xd hx => xo F' H' σ γ' nm dd fs R' xd hx) hn rfl (by simpa using h6) fun v F' H' γ' s' R' e' o' hq => k v F' H' γ' s' R' (e1.trans e') o' hq
              exact cc
      · exact h1.elim
    · exact h1.elim
  unfold tOpO
  refine Eq.mp ?_ this
  unfold tCons tNil
  congr 1
  funext x H1
  congr 1
  funext y H2
  exact propext ⟨fun ⟨x', y', e, h⟩ => by cases e; exact h, fun h => ⟨x, y, rfl, h⟩⟩
end
section
variable {X : Cx} {B : Bs} {a b : Expr} {te tf : TE} {de df : DE} {km : Nat} {op : Operator} {pos : Pos}
theorem x_opO (P : Program) (w : World) (K : PySem.W.Frag) (mg : Str → Option Value) (base : Heap) (hX : (X.prog, X.w, X.K, X.mg, X.base) = (P, w, K, mg, base)) (hr : Room km X.A) {tb : MT} (hd : ∀ C fs, tb C = some fs → ODisp P w K mg base CX0 km op (ctOf K C) (spOf K 2 fs) ∧ OpTys K (ctOf K C) op) (ha : XE X B a te de) (hb : XE X B b tf df) :
    XE X B (.BinOp a op b pos) (tOpO P w K mg base CX0 km op (fun _ => E0) te tf) (dOpO tb (dCons de (dCons df dNil))) := by
  cases hX
  exact ⟨pe_opO ha.pe hb.pe hr (fun _ _ _ _ _ _ h => pass0 _ _ _ _ _ _ h), se_opO hd ha.se hb.se⟩
theorem x_opOX (P : Program) (w : World) (K : PySem.W.Frag) (mg : Str → Option Value) (base : Heap) (hX : (X.prog, X.w, X.K, X.mg, X.base) = (P, w, K, mg, base)) (hr : Room km X.A) {ct : Nat → Addr} {W : WX} {xc : DX} {tb : MTX} (xo : XOk K ct B W xc) (tk : L2N.Takes X W) (hd : ∀ C fs, tb C = some fs → ODisp P w K mg base (L2N.CX P w) km op (ctOf K C) (spOfX K ct 2 fs) ∧ OpTys K (ctOf K C) op) (ha : XE X B a te de) (hb : XE X B b tf df) :
    XE X B (.BinOp a op b pos) (tOpO P w K mg base (L2N.CX P w) km op (WE W) te tf) (dOpOX xc tb (dCons de (dCons df dNil))) := by
  cases hX
  exact ⟨pe_opO ha.pe hb.pe hr (fun σ => L2N.passAt tk σ), se_opOX hd xo ha.se hb.se⟩
end
/-! C(..), __init__ may raise, not here -/
def dMakeN (C : String) (n : Nat) (fs : FSX) (dds : List D) (da : DA) (γ : Env) (q : RS → Env → Prop) : Prop := da γ fun rs γ1 => allV rs ∧ rs.length + dds.length + 1 = n ∧
  fs (.own (some 0) (.ins C []) :: ((rs.map RS.data).map Sx.val ++ dds.map Sx.val)) (fun r as' => r = .val .non ∧ match as' with
    | .own _ (.ins C' fs') :: _ => C' = C ∧ q (.new (.ins C fs')) γ1
    | _ => False) fun _ _ _ => False
theorem se_makeN {K : PySem.W.Frag} {B : Bs} {ct : Nat → Addr} {C : String} {n : Nat} {fs : FSX} {dvs : List V} {dds : List D} {ta : TA} {da : DA} (h : SA K B ta da) (od : Paired (fun v d => ∀ z F, Rp ⟨K, z⟩ F v d) dvs dds) : SE K B (tMake (ctOf K C) (spOfX K ct n fs) dvs E0 ta) (dMakeN C n fs dds da) := fun F H σ γ Q q R hq k => by
  refine h F H σ γ _ _ R hq fun vs F1 H1 γ1 rs R1 e1 o1 ⟨h0, h2, h3⟩ x dx hx hdx ne => ?_
  have all : RpAll (B.kz K) F1 (vs ++ dvs) (rs.map RS.data ++ dds) := RpAll.of (P_app (allV_rp o1 h0).p (P_mono (fun v d z => z _ _) od))
  let Z : ZN (upd (upd H1 dx (.own x)) x (.ins (ctOf K C) dx [])) := ⟨B.z, fun a ha => by
    obtain ⟨o, e⟩ := R1.znp a ha
    have n1 : a ≠ x := fun z => by subst z; rw [hx] at e; cases e
    have n2 : a ≠ dx := fun z => by subst z; rw [hdx] at e; cases e
    exact ⟨o, by rw [upd_ne n1, upd_ne n2]; exact e⟩⟩
  have RE := make_entry (C := C) R1.fh all hx hdx ne Z rfl
  rw [List.map_append] at RE
  refine ⟨by simp only [List.length_cons, List.length_append]; rw [P_len o1, P_len od]; omega, F1, _, Z, _, _, _, RE, h3, fun r as' v F3 H3 ⟨hr, hp⟩ R3 ok hk => ?_, fun nm xs dd as' F2 H2 hx => hx.elim⟩
  subst hr
  split at hp
  · rename_i p C' fs' rest
    obtain ⟨rfl, hp⟩ := hp
    obtain ⟨R4, e4, o4⟩ := make_exit R1 hx hdx ne rfl R3
    have ok' : Rp _ F3 v .non := ok
    cases ok'
    exact ⟨rfl, k _ F3 H3 γ1 _ R4 (e1.trans e4) o4 hp⟩
  · exact hp.elim
theorem x_makeN {X : Cx} {B : Bs} {ct : Nat → Addr} {a : Expr} {es : List Expr} {ta : TA} {da : DA} {k n : Nat} {C : String} {f : Addr} {fd : FuncData} {ps : List Str} {fs : FSX} {x : Str} {p pos : Pos} (K : PySem.W.Frag) (hK : X.K = K) (M : Mk X.K (ctOf X.K C) f) (G : FnOk X.prog X.w X.K X.mg X.base (L2N.CX X.prog X.w) k f fd ps (spOfX X.K ct n fs)) (hr : Room (k + 1) X.A) (hm : X.mg x = some (.ref (ctOf X.K C))) (hb : Binds X.K fd ps []) (h : XA X B (a :: es) ta da)
    (hg : Gl X x := by rfl) (hdb : (x == ("__debug__" : Str)) = false := by decide) (he : starEach (a :: es) X.env = (false, eval a X.env) :: starEach es X.env := by rfl) (hpl : (backTo pos (starEach es X.env)).any (·.1) = false := by rfl) :
    XE X B (.Call (.Name x p) (a :: es) [] pos) (tMake (ctOf K C) (spOfX K ct n fs) [] E0 ta) (dMakeN C n fs [] da) := by
  subst hK
  exact ⟨pe_make M G hr hg hm hb .nil passN h.pa hdb he hpl, se_makeN h.sa .nil⟩
end DL

set_option Elab.async false
set_option linter.all false
set_option maxRecDepth 100000
set_option maxHeartbeats 2000000
/-! ### enumerate(a tuple) -/
namespace PySem
open Sem (wp)
theorem dl_enum_new {v : Value} {ob : Obj} {Hh : Heap → Prop} (B : Begins v ob Hh) : Meets (Builtin.«enumerate.__new__» ⟨[.type "enumerate", v], []⟩) fun _ R s' => Hh s'.heap ∧
    R (.ok (.ret (.ref (s'.heap.push ob).objs.size))) { s' with heap := (s'.heap.push ob).push ⟨.type "enumerate", none, .fields #[.none, .bool false, .ref s'.heap.objs.size, rawInt 0, .none, .none], #[]⟩ } := .of_wp fun P w A R s' hh => by
  obtain ⟨hp, gs, dr, tk, os⟩ := s'
  obtain ⟨h1, hh⟩ := hh
  have hsub := sub_enumerate
  have go : ∀ {A' : Around} {E' Q' : Value → Shared → Prop}, Q' (.ref hp.objs.size) ⟨hp.push ob, gs, dr, tk, os⟩ → wpAny (model P w) A' (pyIter v) Q' E' ⟨hp, gs, dr, tk, os⟩ := fun q => B.iter P w _ _ ⟨hp, gs, dr, tk, os⟩ _ h1 q
  wp_walk using go
  refine wpAny_stack_any fun _ => wpAny_pure ?_
  split
  · rename_i cc _ _ _ _ _
    cases (cc == Value.type "enumerate") <;> (wp_walk using go; exact ⟨_, rfl, hh⟩)
  · wp_walk using go
    exact ⟨_, rfl, hh⟩
theorem dl_enum_call {P : Program} {w : World} {A : Around} {E : Value → Shared → Prop} {s' : Shared} {v : Value} {ob : Obj} {Hh : Heap → Prop} {Q : Value → Shared → Prop} (B : Begins v ob Hh) (h1 : Hh s'.heap)
    (k : ∀ g : Heap, IsEnum g (s'.heap.objs.size + 1) s'.heap.objs.size 0 .none → g.get? s'.heap.objs.size = some ob → g.objs.size = s'.heap.objs.size + 2 → (∀ b o, s'.heap.get? b = some o → g.get? b = some o) → Q (.ref (s'.heap.objs.size + 1)) { s' with heap := g }) :
    wpAny (model P w) A (call (.type "enumerate") [v]) Q E s' := by
  have z1 : (s'.heap.push ob).objs.size = s'.heap.objs.size + 1 := Heap.size_push ..
  refine callType_new F.called_enumerate (by decide) (F.typeCall_enumerate_1 v) (F.newCall_enumerate_1 v) (fun x => F.args_object_init_2 x v) F.entry_enumerate_new (dl_enum_new B) ⟨h1, ?_⟩
  show _ ∧ _
  have at1 := Heap.get?_push_size (s'.heap.push ob) (o := ⟨.type "enumerate", none, .fields #[.none, .bool false, .ref s'.heap.objs.size, rawInt 0, .none, .none], #[]⟩) rfl
  rw [z1] at at1 ⊢
  exact ⟨⟨_, at1, rfl⟩, k _ at1 (Heap.get?_push_of_some _ (Heap.get?_push_size _ B.free)) (by rw [Heap.size_push, z1]) fun b o x => Heap.get?_push_of_some _ (Heap.get?_push_of_some _ x)⟩
end PySem
namespace DL
open PySem PySem.Spec PyProof.Rows L2
open Evl (Ex ex_l ex_t)
/-- the items of the tuple at a, counted -/
def ItT (K : PySem.W.Frag) (a : Addr) : It :=
  ⟨fun i H => ∃ (ws : List V) (y : V), SqT K H a ws ∧ ws[i]? = some y, fun i H v H' => ∃ t y, v = .ref t ∧ H t = none ∧ H' = upd H t (.tup [.int (i : Nat), y]) ∧ ∀ ws, SqT K H a ws → ws[i]? = some y, fun i H => ∃ ws : List V, SqT K H a ws ∧ ws.length ≤ i⟩
theorem turn_enT {P : Program} {w : World} {K : PySem.W.Frag} {els : List Expr} {k0 : Nat} {tp : Pos} (a e j : Addr) :
    Turn P w K (.Tuple els k0 tp) (ItT K a) [e, j] e (fun i h => (∃ u, IsEnum h e j ((i : Nat) : Int) u) ∧ h.IsTupleIter j a i ∧ e ≠ j ∧ a ≠ j ∧ a ≠ e) where
  mem := List.mem_cons_self
  obj := fun i h st b hb => by
    obtain ⟨⟨u, he⟩, ⟨o, ho, _, hd⟩, _⟩ := st
    have hb2 : b = e ∨ b = j := by simpa using hb
    rcases hb2 with rfl | rfl
    · exact ⟨_, he, fun v q => nomatch q⟩
    · exact ⟨o, ho, fun v q => by rw [hd] at q; cases q⟩
  keep := fun i h h' st kk => by
    obtain ⟨⟨u, he⟩, hj, n1, n2, n3⟩ := st
    exact ⟨⟨u, kk e (by simp) _ he⟩, hj.at fun o q => kk j (by simp) o q, n1, n2, n3⟩
  item := by
    rintro X rfl rfl rfl hc i pins s σ H E I hf ⟨⟨u, he⟩, hj, n1, n2, n3⟩ ⟨ws, y, hq, hy⟩
    obtain ⟨its, rv, tp', _⟩ := I.tuple hq
    obtain ⟨z, hz, rz⟩ := rv.get hy
    have iz : i < its.length := (List.getElem?_eq_some_iff.mp hz).1
    have he1 : e < s.heap.objs.size := Heap.lt_size he
    have hj1 : j < s.heap.objs.size := let ⟨_, q, _⟩ := hj; Heap.lt_size q
    have D := Draws.tuple (prog := X.prog) (w := X.w) (A := X.A.in1) (I.ok.hd hc) j a n2 its.toArray
    refine wpAny_pyNext_enum_itemC D he ⟨hj, tp'⟩ (by simpa using iz) n1 (by simp; exact ⟨n1, Ne.symm n3⟩) fun x g tk hx ho st1 hT hsz hk => ?_
    have ex : x = z := by
      have hx' : its[i]? = some x := by simpa using hx
      rw [hz] at hx'
      exact (Option.some.inj hx').symm
    subst ex
    refine ⟨_, rfl, wpAny_letOwnedTupleGo_enum (s := { s with heap := g, toks := tk + 1 }) ho fun g2 he2 sb => ?_⟩
    have hT2 : g2.get? s.heap.objs.size = some { cls := .type "tuple", data := .seq #[.int i tk, x] } := (sb.2 _ (Nat.ne_of_gt he1)).trans hT
    have nw : ObjOk X.prog X.w (upd H s.heap.objs.size (.tup [.int (i : Nat), y])) g2 s.heap.objs.size (.tup [.int (i : Nat), y]) := ⟨by show 2 ≤ sizeLine; decide, [.int i tk, x], .cons ⟨_, rfl⟩ (.cons rz .nil), ⟨_, hT2, rfl, _, rfl⟩⟩
    have I2 : Inv X pins σ (upd H s.heap.objs.size (.tup [.int (i : Nat), y])) { s with heap := g2, toks := tk + 1 } := I.turnedNew (ch := [e, j]) (fun b ob hb q => by
      have m1 : b ≠ e := fun r => hb (by simp [r])
      have m2 : b ≠ j := fun r => hb (by simp [r])
      exact (sb.2 b m1).trans (hk b ob m1 m2 q)) hf (Nat.le_refl _) nw
    refine ⟨.ref s.heap.objs.size, _, I2, rfl, ⟨_, y, rfl, I.hok.fresh (Nat.le_refl _), rfl, fun vs hv => by rw [I.tuple_inj hv hq]; exact hy⟩, ⟨⟨x, ?_⟩, st1.1.at fun o q => (sb.2 j (Ne.symm n1)).trans q, n1, n2, n3⟩, fun b hb => ?_⟩
    · rw [show ((i + 1 : Nat) : Int) = (i : Int) + 1 by omega]
      exact he2
    · have hb1 : b < s.heap.objs.size := by
        have hb2 : b = e ∨ b = j := by simpa using hb
        rcases hb2 with rfl | rfl
        · exact he1
        · exact hj1
      rw [upd_ne (Nat.ne_of_lt hb1)]
      exact (hf b hb).1
  done := by
    rintro X rfl rfl rfl hc i pins s σ H E I hf ⟨⟨u, he⟩, hj, n1, n2, n3⟩ ⟨ws, hq, hy⟩
    obtain ⟨its, rv, tp', _⟩ := I.tuple hq
    obtain ⟨f0, f1, f2, f3, f4, f5⟩ := hf j (by simp)
    have lw := rv.length
    have none_ : its.toArray[i]? = none := by simp; omega
    have D : Draws X.prog X.w X.A.in1 j [j, a] i (fun _ _ => True) (fun k h => k = i ∧ h.IsTupleIter j a i ∧ h.IsTuple a its.toArray) := {
      live := fun _ _ st => let ⟨o, ho, _⟩ := st.2.1; ⟨o, ho⟩
      frame := fun _ _ _ st hk => ⟨st.1, st.2.1.at fun o q => hk j (by simp) o q, st.2.2.at fun o q => hk a (by simp) o q⟩
      item := fun k s' Q' E' hk st _ => absurd hk (by have := st.1; omega)
      done := fun s' Q' E' st hE => wpAny_nextOf_tuple_end (I.ok.hd hc) st.2.1 st.2.2 none_ hE }
    exact wpAny_pyNext_enum_endD D he ⟨rfl, hj, tp'⟩ fun g xb => ⟨rfl, I.turned (t' := s.toks) (fun b o hb q => xb b o hb q) f0 f1 f3 f4 f5⟩
  self := fun A i s Q E st h => by
    obtain ⟨⟨u, he⟩, _⟩ := st
    exact wpAny_pyIter_enum he h
def iEnT (K : PySem.W.Frag) (ta : TA) : TI := fun σ H R => ta σ H fun vs H1 => ∃ a ws, vs = [.ref a] ∧ SqT K H1 a ws ∧ R (ItT K a) H1
theorem pi_enT {X : Cx} {e : Expr} {ta : TA} {p pos tp : Pos} {els : List Expr} {k0 : Nat} (hg : Gl X "enumerate") (hm : X.mg "enumerate" = none) (ha : PA X [e] ta) (hs : starEach [e] X.env = [(false, eval e X.env)] := by rfl) :
    PI X (.Tuple els k0 tp) (.Call (.Name "enumerate" p) [e] [] pos) (iEnT X.K ta) := ⟨fun pins s σ H R I h => by
  refine Call_ (ld_blt I hg hm boot_enumerate (PyProof.Rows.callWith_type1 (thn (ha.run pos pins s σ H _ I h) fun us s1 ⟨vs, H1, I1, r1, a, ws, ev, hq, q⟩ => ?_) hs rfl))
  subst ev
  rw [Vals.ref1 r1]
  obtain ⟨its, rv, tp', _⟩ := I1.tuple hq
  have la : a < s1.heap.objs.size := let ⟨_, x, _⟩ := tp'; Heap.lt_size x
  refine dl_enum_call (begins_tuple a its.toArray) tp' fun g he hi hz hk => wpAny_pyIter_enum he ?_
  refine ⟨s1.heap.objs.size + 1, [s1.heap.objs.size + 1, s1.heap.objs.size], _, _, H1, rfl, I1.kept (t' := s1.toks) hk, turn_enT a (s1.heap.objs.size + 1) s1.heap.objs.size, ⟨⟨.none, he⟩, ⟨_, hi, rfl, rfl⟩, Nat.succ_ne_self _, Nat.ne_of_lt la, Nat.ne_of_lt (Nat.lt_succ_of_lt la)⟩, fun b hb => ?_, q⟩
  have lb : s1.heap.objs.size ≤ b := by
    have hb2 : b = s1.heap.objs.size + 1 ∨ b = s1.heap.objs.size := by simpa using hb
    rcases hb2 with rfl | rfl
    · exact Nat.le_succ _
    · exact Nat.le_refl _
  exact I1.fpOk lb (I1.hok.fresh lb)⟩
def dIET (da : DA) (γ : Env) (r : Nat → (Nat → D → Prop) → Env → Prop) : Prop := da γ fun rs γ1 => allV rs ∧ match rs.map RS.data with
  | [.tup xs] => r xs.length (fun i d => ∃ x, xs[i]? = some x ∧ d = .tup [.int i, x]) γ1
  | _ => False
theorem si_enT {K : PySem.W.Frag} {B : Bs} {ta : TA} {da : DA} (h : SA K B ta da) : SI K B (iEnT K ta) (dIET da) := fun F H σ γ W r R hq k => by
  refine h F H σ γ _ _ R hq fun vs F1 H1 γ1 rs R1 e1 o1 ⟨hv, h1⟩ => ?_
  split at h1
  · rename_i xs es
    have ra := allV_rp o1 hv
    rw [es] at ra
    cases ra with
    | cons r1 t => cases t with
      | nil =>
        cases r1 with
        | @tup a va _ ha ra =>
          refine ⟨_, va, rfl, ex_t R1.fh ha, k _ F1 H1 γ1 _ _ R1 e1 ⟨fun B F H σ γ i R e hi => ?_, fun B F H σ γ i x H' R e hi ⟨T, x1, hx, hT, hH, f1⟩ hz => ?_, fun B F H σ γ i R e hi => ?_⟩ h1⟩
          · have l1 : i < va.length := by rw [ra.length]; omega
            exact ⟨va, _, ex_t (e.trans R.fh) ha, List.getElem?_eq_getElem l1⟩
          · subst hx; subst hH
            obtain ⟨d1, q1, s1⟩ := P_getL ra.p (f1 va (ex_t (e.trans R.fh) ha))
            obtain ⟨R', ex, rp⟩ := R.newT hT (.cons (.int (i : Nat)) (.cons ((s1.mono e).zz hz) .nil))
            exact ⟨_, _, R', ex, rp, d1, q1, rfl⟩
          · exact ⟨va, ex_t (e.trans R.fh) ha, by rw [ra.length]; omega⟩
  · exact h1.elim
theorem i_enT {X : Cx} {B : Bs} {a : Expr} {ta : TA} {da : DA} {p pos : Pos} {elts : List Expr} {kk : Nat} {tpos : Pos} (hm : X.mg "enumerate" = none) (h : XA X B [a] ta da) (hg : Gl X "enumerate" := by rfl) (hs : starEach [a] X.env = [(false, eval a X.env)] := by rfl) :
    XI X B (.Tuple elts kk tpos) (.Call (.Name "enumerate" p) [a] [] pos) (iEnT X.K ta) (dIET da) := ⟨pi_enT hg hm h.pa hs, si_enT h.sa⟩
end DL

set_option Elab.async false
set_option linter.all false
set_option maxRecDepth 100000
set_option maxHeartbeats 2000000
/-! ### texts: the module's own, walked, joined; tests of dicts -/
namespace DL
open PySem PySem.Spec PyProof.Rows L2
open Evl (Ex ex_l ex_t)
theorem x_gstr {X : Cx} {B : Bs} {x z : Str} {t : Tok} {pos : Pos} (hm : X.mg x = some (.str z t)) (hg : Gl X x := by rfl) (hd : (x == ("__debug__" : Str)) = false := by decide) : XE X B (.Name x pos) (tC (.str z)) (dC (.str z)) := x_glob hg hm ⟨_, rfl⟩ (fun _ _ => .str z) hd
/-! for c in a text -/
def dIS (de : DE) (γ : Env) (r : Nat → (Nat → D → Prop) → Env → Prop) : Prop := de γ fun s γ1 => match s.data with
  | .str x => r x.cps.size (fun i d => ∃ c, x.cps[i]? = some c ∧ d = .str ⟨#[c]⟩) γ1
  | _ => False
theorem si_str {K : PySem.W.Frag} {B : Bs} {te : TE} {de : DE} (he : SE K B te de) : SI K B (iStr te) (dIS de) := fun F H σ γ W r R hq k => by
  refine he F H σ γ _ _ R hq fun v F1 H1 γ1 s R1 e1 o1 h1 => ?_
  split at h1
  · rename_i x es
    have rv := o1.rs R1
    rw [es] at rv
    refine ⟨x, rv.str, k _ F1 H1 γ1 _ _ R1 e1 ⟨fun B F H σ γ i R e hi => hi, fun B F H σ γ i y H' R e hi ⟨hH, c, hc, hy⟩ hz => ?_, fun B F H σ γ i R e hi => hi⟩ h1⟩
    subst hH; subst hy
    exact ⟨F, _, R, Evl.Ex.refl F, .str _, c, hc, rfl⟩
  · exact h1.elim
theorem i_str {X : Cx} {B : Bs} {tg e : Expr} {te : TE} {de : DE} (h : XE X B e te de) : XI X B tg e (iStr te) (dIS de) := ⟨pi_str h.pe, si_str h.se⟩
/-! sep.join(list) -/
def strsD : List D → Option (List Str)
  | [] => some []
  | .str x :: r => (strsD r).map (x :: ·)
  | _ :: _ => none
theorem strsD_map (xs : List Str) : strsD (xs.map D.str) = some xs := by
  induction xs with
  | nil => rfl
  | cons x xs ih => simp [strsD, ih]
theorem strsD_of : ∀ {ds : List D} {xs : List Str}, strsD ds = some xs → ds = xs.map D.str
  | [], xs, h => by cases h; rfl
  | d :: ds, xs, h => by
    cases d <;> first | (exfalso; simp [strsD] at h; done) | skip
    rename_i x
    simp only [strsD] at h
    obtain ⟨ys, h1, rfl⟩ := Option.map_eq_some_iff.mp h
    rw [strsD_of h1]
    rfl
def dJoin (de da : DE) (γ : Env) (q : RS → Env → Prop) : Prop := de γ fun s γ1 => match s.data with
  | .str a => da γ1 fun t γ2 => seqD t.data fun ds => ∃ ys, strsD ds = some ys ∧ (ys.map (·.length)).sum + ys.length * a.length ≤ 1000000 ∧ q (.val (.str (Txt.join a ys))) γ2
  | _ => False
def rJoin (K : PySem.W.Frag) : V → List V → Hp → VK → Prop := fun x xs H Q => ∃ a p, ∃ ys : List Str, x = .str a ∧ xs = [.ref p] ∧ (SqL K H p (ys.map V.str) ∨ SqT K H p (ys.map V.str)) ∧ (ys.map (·.length)).sum + ys.length * a.length ≤ 16777216 ∧ Q (.str (Txt.join a ys)) H
theorem se_join {K : PySem.W.Frag} {B : Bs} {te ta : TE} {de da : DE} (he : SE K B te de) (ha : SE K B ta da) : SE K B (tM1 (rJoin K) te ta) (dJoin de da) := fun F H σ γ Q q R hq k => by
  refine he F H σ γ _ _ R hq fun x F1 H1 γ1 s R1 e1 o1 h1 => ?_
  split at h1
  · rename_i a es
    have rx := o1.rs R1
    rw [es] at rx
    have hx := rx.str
    subst hx
    refine ⟨⟨a, rfl⟩, ha F1 H1 σ γ1 _ _ R1 h1 fun y F2 H2 γ2 t R2 e2 o2 h2 => ?_⟩
    obtain ⟨ds, hd, ys, hy, hl, hq⟩ := seqD_of h2
    obtain ⟨p, vs, rfl, hs, ra⟩ := (o2.rs R2).seq R2.fh hd
    rw [strsD_of hy] at ra
    rw [rp_strs ra] at hs
    exact ⟨a, p, ys, rfl, rfl, hs, Nat.le_trans hl (by decide), k _ F2 H2 γ2 (.val (.str (Txt.join a ys))) R2 (e1.trans e2) (Rp.str _) hq⟩
  · exact h1.elim
theorem x_join {X : Cx} {B : Bs} {o e : Expr} {te ta : TE} {de da : DE} {apos pos : Pos} (ho : XE X B o te de) (he : XE X B e ta da) (hs : starEach [e] X.env = [(false, eval e X.env)] := by rfl) (hbase : attributeBase o "join" X.env (eval o X.env) = eval o X.env := by rfl) (hline : (apos.endLine == pos.line) = true := by rfl) :
    XE X B (.Call (.Attribute o "join" apos) [e] [] pos) (tM1 (rJoin X.K) te ta) (dJoin de da) := ⟨pe_join ho.pe he.pe hs hbase hline, se_join ho.se he.se⟩
/-! tests -/
section
variable {X : Cx} {B : Bs} {a b : Expr} {ta tb : TE} {da db : DE} {pos : Pos}
theorem t_din (hu : X.A.units + 1 < cLine) (ha : XE X B a ta da) (hb : XE X B b tb db) (hm : behindInMarks .In b = false := by first | exact nomark _ | rfl) : XT X B (.Compare a [.In] [b] pos) (tB (tOp (rDIn false) ta tb)) (dB (d2 (fDIn false) da db)) := ⟨pt_cmp (pc_din hu ha.pe hb.pe) hm, st_B (se_op od_din ha.se hb.se)⟩
theorem t_dnin (hu : X.A.units + 1 < cLine) (ha : XE X B a ta da) (hb : XE X B b tb db) (hm : behindInMarks .NotIn b = false := by first | exact nomark _ | rfl) : XT X B (.Compare a [.NotIn] [b] pos) (tB (tOp (rDIn true) ta tb)) (dB (d2 (fDIn true) da db)) := ⟨pt_cmp (pc_dnotin hu ha.pe hb.pe) hm, st_B (se_op od_din ha.se hb.se)⟩
end
end DL
namespace DL
theorem hu1 {n : Nat} (h : n + 64 < PySem.cLine) : n + 1 < PySem.cLine := by omega
end DL

set_option Elab.async false
set_option linter.all false
set_option maxRecDepth 100000
set_option maxHeartbeats 2000000
/-! ### o.f where the place's K shows only by looking (inside a comprehension) -/
namespace DL
open PySem PySem.Spec PyProof.Rows L2
theorem x_fldK {X : Cx} {B : Bs} {e : Expr} {te : TE} {de : DE} {tab : FT} {pos : Pos} (f : Str) {K : PySem.W.Frag} (ht : FtOk K tab) (h : XE X B e te de) (hK : X.K = K := by rfl) (hb : attributeBase e f X.env (eval e X.env) = eval e X.env := by rfl) : XE X B (.Attribute e f pos) (tFld K te f) (d1 (fFld tab f) de) := by
  subst hK; exact x_fld f ht h hb
/-! ### defs with defaults, called with every parameter given -/
structure FunV (K : PySem.W.Frag) (x qual : Str) (st : Stmt) (f : Addr) (fd : FuncData) : Prop where
  ex : ∃ (oc : Value) (od : Option Addr) (dV kV doc pm : Value) (an : Option Addr) (cdv ct : Value) (osl : Array (Option Value)),
    fd = PySem.W.fnOf x qual (defArgs st) (defBody st) (defScope st) dV kV doc pm an cdv ct ∧ K.lookup f = some ⟨oc, od, .func fd, osl⟩ ∧ PySem.W.codeIn K cdv qual = true
  kp : PySem.W.keepIn K (.ref f) = true
theorem funV_mk {K : PySem.W.Frag} {x qual : Str} {st : Stmt} {f : Addr} {oc : Value} {od an : Option Addr} {osl : Array (Option Value)} {dV kV doc pm cdv ct : Value} (l : K.lookup f = some ⟨oc, od, .func (PySem.W.fnOf x qual (defArgs st) (defBody st) (defScope st) dV kV doc pm an cdv ct), osl⟩)
    (c : PySem.W.codeIn K cdv qual = true) (k : PySem.W.keepIn K (.ref f) = true) : FunV K x qual st f (PySem.W.fnOf x qual (defArgs st) (defBody st) (defScope st) dV kV doc pm an cdv ct) := ⟨⟨oc, od, dV, kV, doc, pm, an, cdv, ct, osl, rfl, l, c⟩, k⟩
theorem bindsV {K : PySem.W.Frag} {ps : List Str} {fd : FuncData} {T : Addr} {ocT : Value} {odT : Option Addr} {its : Array Value} {n : Nat} {slT : Array (Option Value)} (lT : K.lookup T = some ⟨ocT, odT, .seq its n, slT⟩)
    (h : ∀ us : List Value, us.length = ps.length → ∃ k, bindArgs fd ⟨us, []⟩ = seqItems? (.ref T) >>= k ∧ k (some its) = pure (ps.zip us)) : Binds K fd ps [] := fun s us X hl => by
  rw [List.append_nil] at hl ⊢
  obtain ⟨k, e1, e2⟩ := h us hl
  refine L2.BindsTo.of_looks fun M => ?_
  rw [e1]
  exact looks_items X lT rfl (.of_pure e2)
section
variable {P : Program} {w : World} {K : PySem.W.Frag} {mg : Str → Option Value} {base : Heap} {ct : Nat → Addr}
theorem FunV.ok {x qual : Str} {st : Stmt} {f : Addr} {fd : FuncData} {N ps : List Str} {k : Nat} {sp : Sp} (F : FunV K x qual st f fd) (S : FnScope N ps (defScope st)) (len : ∀ vs H Q E, sp vs H Q E → vs.length = ps.length)
    (hbody : ∀ (cdv : Value) (A : Around) (outer : List PySem.Env) (s : Shared) (H : Hp) (vs : List V) (Q : VK) (E : XK), Room k (A.deeper (envOfC qual (defScope st) s.heap.objs.size f cdv)) → sp vs H Q E →
      ∃ t, PSs (cxOf CX0 P w K mg base N qual (defScope st) f cdv A outer s H E).nox (defBody st) t ∧ t { nx := fun _ H' => Q .non H', rt := Q } (L2.start N vs) H) : FnOk P w K mg base CX0 (k + 1) f fd ps sp := by
  obtain ⟨oc, od, dV, kV, doc, pm, an, cdv, ct, osl, rfl, lk, hcd⟩ := F.ex
  refine fn_of lk hcd S len fun A outer s H vs Q E hr hsp => ?_
  obtain ⟨t, h, q⟩ := hbody cdv A outer s H vs Q E hr hsp
  exact ⟨t, h.nox, q⟩
theorem fn_cxV {x qual : Str} {st : Stmt} {f : Addr} {fd : FuncData} {N ps : List Str} {k : Nat} {sp : Sp} (F : FunV K x qual st f fd) (S : FnScope N ps (defScope st)) (len : ∀ vs H Q E, sp vs H Q E → vs.length = ps.length)
    (body : ∀ (cd : Value) (A : Around) (o : List PySem.Env) (s : Shared) (H : Hp) (vs : List V) (Q : VK) (E : XK), Room k (A.deeper (envOfC qual (defScope st) s.heap.objs.size f cd)) → sp vs H Q E →
      ∃ t, PSs (cxOf (L2N.CX P w) P w K mg base N qual (defScope st) f cd A o s H E) (defBody st) t ∧ t { nx := fun _ H' => Q .non H', rt := Q } (L2.start N vs) H) : FnOk P w K mg base (L2N.CX P w) (k + 1) f fd ps sp := by
  obtain ⟨_, _, _, _, _, _, _, cd, _, _, e, lk, hc⟩ := F.ex
  subst e
  exact fn_of lk hc S len fun A o s H vs Q E r h => body cd A o s H vs Q E r h
/-- a def that may raise -/
theorem fn_okXV {x qual : Str} {st : Stmt} {f : Addr} {fd : FuncData} {N ps : List Str} {k n : Nat} {fs : FSX} {ds : DX → DS} (F : FunV K x qual st f fd) (S : FnScope N ps (defScope st)) (hn : ps.length = n) (hN : n ≤ N.length)
    (body : ∀ (B : Bs) (W : WX) (xc : DX) (cdv : Value) (A : Around) (outer : List PySem.Env) (s : Shared) (H : Hp) (E : XK), Room k (A.deeper (envOfC qual (defScope st) s.heap.objs.size f cdv)) → XOk K ct B W xc →
      L2N.Takes (cxOf (L2N.CX P w) P w K mg base N qual (defScope st) f cdv A outer s H E) W → ∃ ts, XSs (cxOf (L2N.CX P w) P w K mg base N qual (defScope st) f cdv A outer s H E) B (defBody st) ts (ds xc))
    (h : ∀ as p x, as.length = n → fs as p x → ds (xcOf as x) (endsOf as p) (startG N.length as)) : FnOk P w K mg base (L2N.CX P w) (k + 1) f fd ps (spOfX K ct n fs) := by
  refine fn_cxV F S (fun vs H Q E h => h.1.trans hn.symm) fun cdv A outer s H vs Q E hr hsp => ?_
  obtain ⟨hl, F0, m, z, as, p, x, R0, hf, hq, he⟩ := hsp
  have ha : as.length = n := by have := R0.len; rw [List.length_map] at this; omega
  have xo : XOk K ct (entry F0 H m z vs) (fun cls d _ H => E cls d H) (xcOf as x) := fun F' H' σ' γ' nm dd xs R' xd h1 => by
    obtain ⟨zs, ho, hp⟩ := outP h1
    exact he nm xs dd zs F' H' hp (R0.outs R' ho) xd
  obtain ⟨ts, b⟩ := body (entry F0 H m z vs) _ _ cdv A outer s H E hr xo (L2N.takes_of rfl rfl rfl rfl)
  refine ⟨ts, b.ps, ?_⟩
  refine b.ss F0 H _ _ _ (endsOf as p) (R0.start (by rw [hl]; exact hN)) (h as p x ha hf) ⟨fun F' H' σ' γ' R' _ h1 => ?_, fun F' H' σ' γ' v r R' _ o ⟨hk, h1⟩ => ?_, fun _ _ _ _ _ _ z => z, fun _ _ _ _ _ _ z => z⟩
  · obtain ⟨zs, ho, hp⟩ := outP h1
    exact hq (.val .non) zs .non F' H' hp (R0.outs R' ho) .non trivial
  · obtain ⟨zs, ho, hp⟩ := outP h1
    have R2 := R0.outs R' ho
    refine hq r zs v F' H' hp R2 ?_ hk
    cases r with
    | val d => exact o
    | own j c => exact hk.elim
    | new c =>
      obtain ⟨a, rfl, N⟩ := o
      refine ⟨a, rfl, N.fa, N.ok, N.bn, N.bm, fun i p' c' h1 h2 => ?_⟩
      obtain ⟨_, ok⟩ := R2.ownObj h1 h2
      have e1 : H a = none := N.bn
      obtain ⟨_, h3⟩ := outs_get ho
      rcases h3 i _ h1 with ⟨p2, c0, c2, e2, _, _⟩ | ⟨_, n2⟩
      · obtain ⟨_, ok2⟩ := R0.ownObj e2 h2
        obtain ⟨o, ho, _⟩ := ok2.obj
        rw [e1] at ho; cases ho
      · exact n2 p' c' rfl
theorem fn_okV {x qual : Str} {st : Stmt} {f : Addr} {fd : FuncData} {N ps : List Str} {k n : Nat} {fs : FS} {ds : DS} (F : FunV K x qual st f fd) (S : FnScope N ps (defScope st)) (hn : ps.length = n) (hN : n ≤ N.length)
    (body : ∀ (B : Bs) (cdv : Value) (A : Around) (outer : List PySem.Env) (s : Shared) (H : Hp) (E : XK), Room k (A.deeper (envOfC qual (defScope st) s.heap.objs.size f cdv)) → ∃ ts, XSs (cxOf CX0 P w K mg base N qual (defScope st) f cdv A outer s H E).nox B (defBody st) ts ds)
    (h : ∀ as p, as.length = n → fs as p → ds (endsOf as p) (startG N.length as)) : FnOk P w K mg base CX0 (k + 1) f fd ps (spOf K n fs) := by
  refine F.ok S (fun vs H Q E h => h.1.trans hn.symm) fun cdv A outer s H vs Q E hr hsp => ?_
  obtain ⟨hl, F0, m, z, as, p, R0, hf, hq⟩ := hsp
  obtain ⟨ts, b⟩ := body (entry F0 H m z vs) cdv A outer s H E hr
  refine ⟨ts, b.ps, ?_⟩
  have ha : as.length = n := by have := R0.len; rw [List.length_map] at this; omega
  refine b.ss F0 H _ _ _ (endsOf as p) (R0.start (by rw [hl]; exact hN)) (h as p ha hf) ⟨fun F' H' σ' γ' R' _ h1 => ?_, fun F' H' σ' γ' v r R' _ o ⟨hk, h1⟩ => ?_, fun _ _ _ _ _ _ z => z, fun _ _ _ _ _ _ z => z⟩
  · obtain ⟨zs, ho, hp⟩ := outP h1
    exact hq (.val .non) zs .non F' H' hp (R0.outs R' ho) .non trivial
  · obtain ⟨zs, ho, hp⟩ := outP h1
    have R2 := R0.outs R' ho
    refine hq r zs v F' H' hp R2 ?_ hk
    cases r with
    | val d => exact o
    | own j c => exact hk.elim
    | new c =>
      obtain ⟨a, rfl, N⟩ := o
      refine ⟨a, rfl, N.fa, N.ok, N.bn, N.bm, fun i p' c' h1 h2 => ?_⟩
      obtain ⟨_, ok⟩ := R2.ownObj h1 h2
      have e1 : H a = none := N.bn
      obtain ⟨_, h3⟩ := outs_get ho
      rcases h3 i _ h1 with ⟨p2, c0, c2, e2, _, _⟩ | ⟨_, n2⟩
      · obtain ⟨_, ok2⟩ := R0.ownObj e2 h2
        obtain ⟨o, ho, _⟩ := ok2.obj
        rw [e1] at ho; cases ho
      · exact n2 p' c' rfl
end
end DL

set_option Elab.async false
set_option linter.all false
set_option maxRecDepth 100000
set_option maxHeartbeats 2000000
/-! ### x in o, by the class's own __contains__; promises that nobody asks -/
namespace DL
open PySem PySem.Spec PyProof.Rows L2
open Evl (Ex ex_l ex_t)
inductive CDisp (P : Program) (w : World) (K : PySem.W.Frag) (mg : Str → Option Value) (base : Heap) (km : Nat) (C : Addr) (sp : Sp) : Prop
  | mk {k : Nat} {f : Addr} {fd : FuncData} {ps : List Str} : PySem.W.findIn K (.ref C) "__contains__" = some (some (.ref f)) → PySem.W.isFn K (.ref f) = true → FnOk P w K mg base CX0 k f fd ps sp → k ≤ km → Binds K fd ps [] → CDisp P w K mg base km C sp
def tInO (P : Program) (w : World) (K : PySem.W.Frag) (mg : Str → Option Value) (base : Heap) (km : Nat) (neg : Bool) (ta tb : TE) : TE := fun σ H Q => ta σ H fun y H1 => tb σ H1 fun x H2 => ∃ a C dx fs sp, x = .ref a ∧ H2 a = some (.ins C dx fs) ∧ CDisp P w K mg base km C sp ∧
  sp [x, y] H2 (fun r H3 => ∃ b, r = .bl b ∧ Q (.bl (if neg then !b else b)) H3) E0
section
variable {X : Cx} {km : Nat} {a b : Expr} {ta tb : TE}
theorem pc_inO (ha : PE X a ta) (hb : PE X b tb) (hr : Room km X.A) : PC X .In a b (tInO X.prog X.w X.K X.mg X.base km false ta tb) := by
  refine ⟨fun pins s σ H Q I h => ?_⟩
  refine thn (ha.run pins s σ H _ I h) fun iv s1 ⟨y, H1, I1, ry, q1⟩ => thn (hb.run pins s1 σ H1 _ I1 q1) fun u s2 ⟨x, H2, I2, rx, p, C, dx, fs, sp, ex, ea, dp, q⟩ => ?_
  subst ex
  obtain rfl : u = Value.ref p := rx
  obtain ⟨hs, hf, F, hk, hbd⟩ := dp
  obtain ⟨mA, O, _⟩ := ins_get I2.hok ea
  obtain ⟨od, J, _⟩ := O.look
  obtain ⟨m, fr⟩ := I2.fr
  have cl := run_fnS (us := [.ref p, iv]) (vs := [.ref p, y]) F (hr.mono hk) hbd (fun _ _ _ _ _ h => pass0 _ _ _ _ _ h) I2 (.cons rfl (.cons ry .nil)) q
  refine PySem.W.in_K fr I2.mod.kin J hs hf (wpAny_mono cl (fun v s' ⟨x', H', I', r', b, eb, hq⟩ => ?_) fun _ _ e => e)
  subst eb
  obtain rfl : v = Value.bool b := r'
  exact wpAny_pure ⟨.bl b, H', I', rfl, hq⟩
theorem pc_ninO (ha : PE X a ta) (hb : PE X b tb) (hr : Room km X.A) : PC X .NotIn a b (tInO X.prog X.w X.K X.mg X.base km true ta tb) := by
  refine ⟨fun pins s σ H Q I h => ?_⟩
  refine thn (ha.run pins s σ H _ I h) fun iv s1 ⟨y, H1, I1, ry, q1⟩ => thn (hb.run pins s1 σ H1 _ I1 q1) fun u s2 ⟨x, H2, I2, rx, p, C, dx, fs, sp, ex, ea, dp, q⟩ => ?_
  subst ex
  obtain rfl : u = Value.ref p := rx
  obtain ⟨hs, hf, F, hk, hbd⟩ := dp
  obtain ⟨mA, O, _⟩ := ins_get I2.hok ea
  obtain ⟨od, J, _⟩ := O.look
  obtain ⟨m, fr⟩ := I2.fr
  have cl := run_fnS (us := [.ref p, iv]) (vs := [.ref p, y]) F (hr.mono hk) hbd (fun _ _ _ _ _ h => pass0 _ _ _ _ _ h) I2 (.cons rfl (.cons ry .nil)) q
  refine PySem.W.notIn_K fr I2.mod.kin J hs hf (wpAny_mono cl (fun v s' ⟨x', H', I', r', b, eb, hq⟩ => ?_) fun _ _ e => e)
  subst eb
  obtain rfl : v = Value.bool b := r'
  exact wpAny_pure ⟨.bl (!b), H', I', rfl, hq⟩
end
/-- the value first, then the thing -/
def dInO (neg : Bool) (tb : MT) (l : DA) (γ : Env) (q : RS → Env → Prop) : Prop := l γ fun rs γ1 => match rs with
  | [t, s] => (match s.data with
    | .obj C fl => ∃ fs, tb C = some fs ∧ (ownIx [s, t]).Nodup ∧ fs (argsOf 0 [s, t]) fun r as' => ∃ b, r = .val (.bl b) ∧ q (.val (.bl (if neg then !b else b))) (upds γ1 [s, t] as')
    | _ => False)
  | _ => False
theorem se_inO {P : Program} {w : World} {K : PySem.W.Frag} {mg : Str → Option Value} {base : Heap} {km : Nat} {B : Bs} {neg : Bool} {te tf : TE} {de df : DE} {tb : MT} (hd : ∀ C fs, tb C = some fs → CDisp P w K mg base km (ctOf K C) (spOf K 2 fs)) (he : SE K B te de) (hf : SE K B tf df) :
    SE K B (tInO P w K mg base km neg te tf) (dInO neg tb (dCons de (dCons df dNil))) := fun F H σ γ Q q R hq k => by
  have sl := sa_cons he (sa_cons hf (sa_nil (K := K) (B := B)))
  have := sl F H σ γ (fun vs H2 => ∃ y x, vs = [y, x] ∧ ∃ a C dx fs sp, x = .ref a ∧ H2 a = some (.ins C dx fs) ∧ CDisp P w K mg base km C sp ∧ sp [x, y] H2 (fun r H3 => ∃ b, r = .bl b ∧ Q (.bl (if neg then !b else b)) H3) E0) _ R hq fun vs F1 H1 γ1 rs R1 e1 o1 h1 => by
    split at h1
    · rename_i t s
      split at h1
      · rename_i C fl es
        obtain ⟨fs, ht, hn, h6⟩ := h1
        cases o1 with
        | cons o3 o2 => cases o2 with
          | cons o2 o4 => cases o4 with
            | nil =>
              rename_i y x
              have r := o2.rs R1
              rw [es] at r
              obtain ⟨a, dx, fv, rfl, q2, q3⟩ := r.obj R1.fh
              refine ⟨_, _, rfl, a, _, dx, fv, _, rfl, q2, hd C fs ht, ?_⟩
              have oo : Paired (RsOk K B F1 H1 σ γ1) [.ref a, y] [s, t] := .cons o2 (.cons o3 .nil)
              obtain ⟨m', hm, RE⟩ := R1.args (dvs := []) (dds := []) oo .nil hn
              simp only [List.append_nil, List.map_nil] at RE
              refine ⟨rfl, F1, m', _, _, _, RE, h6, fun r as' v F4 H4 ⟨b, rb, hp⟩ R4 ok hk => ?_⟩
              obtain ⟨R5, e5, ok5⟩ := R1.called oo hn (fun i v hv => hv) hm R4
              subst rb
              obtain rfl : v = .bl b := by
                have z := ok.rs R4
                exact z.bl
              exact ⟨b, rfl, k _ F4 H4 _ (.val (.bl (if neg then !b else b))) R5 (e1.trans e5) (Rp.bl _) hp⟩
      · exact h1.elim
    · exact h1.elim
  unfold tInO
  refine Eq.mp ?_ this
  unfold tCons tNil
  congr 1
  funext y H1
  congr 1
  funext x H2
  exact propext ⟨fun ⟨x', y', e, h⟩ => by cases e; exact h, fun h => ⟨y, x, rfl, h⟩⟩
section
variable {X : Cx} {B : Bs} {a b : Expr} {te tf : TE} {de df : DE} {km : Nat} {pos : Pos}
theorem x_inO (P : Program) (w : World) (K : PySem.W.Frag) (mg : Str → Option Value) (base : Heap) (hX : (X.prog, X.w, X.K, X.mg, X.base) = (P, w, K, mg, base)) (hr : Room km X.A) {tb : MT} (hd : ∀ C fs, tb C = some fs → CDisp P w K mg base km (ctOf K C) (spOf K 2 fs)) (ha : XE X B a te de) (hb : XE X B b tf df) (hm : behindInMarks .In b = false := by first | exact nomark _ | rfl) :
    XE X B (.Compare a [.In] [b] pos) (tInO P w K mg base km false te tf) (dInO false tb (dCons de (dCons df dNil))) := by
  cases hX
  exact ⟨pe_cmp (pc_inO ha.pe hb.pe hr) hm, se_inO hd ha.se hb.se⟩
theorem x_ninO (P : Program) (w : World) (K : PySem.W.Frag) (mg : Str → Option Value) (base : Heap) (hX : (X.prog, X.w, X.K, X.mg, X.base) = (P, w, K, mg, base)) (hr : Room km X.A) {tb : MT} (hd : ∀ C fs, tb C = some fs → CDisp P w K mg base km (ctOf K C) (spOf K 2 fs)) (ha : XE X B a te de) (hb : XE X B b tf df) (hm : behindInMarks .NotIn b = false := by first | exact nomark _ | rfl) :
    XE X B (.Compare a [.NotIn] [b] pos) (tInO P w K mg base km true te tf) (dInO true tb (dCons de (dCons df dNil))) := by
  cases hX
  exact ⟨pe_cmp (pc_ninO ha.pe hb.pe hr) hm, se_inO hd ha.se hb.se⟩
theorem t_inO (P : Program) (w : World) (K : PySem.W.Frag) (mg : Str → Option Value) (base : Heap) (hX : (X.prog, X.w, X.K, X.mg, X.base) = (P, w, K, mg, base)) (hr : Room km X.A) {tb : MT} (hd : ∀ C fs, tb C = some fs → CDisp P w K mg base km (ctOf K C) (spOf K 2 fs)) (ha : XE X B a te de) (hb : XE X B b tf df) (hm : behindInMarks .In b = false := by first | exact nomark _ | rfl) :
    XT X B (.Compare a [.In] [b] pos) (tB (tInO P w K mg base km false te tf)) (dB (dInO false tb (dCons de (dCons df dNil)))) := by
  cases hX
  exact ⟨pt_cmp (pc_inO ha.pe hb.pe hr) hm, st_B (se_inO hd ha.se hb.se)⟩
theorem t_ninO (P : Program) (w : World) (K : PySem.W.Frag) (mg : Str → Option Value) (base : Heap) (hX : (X.prog, X.w, X.K, X.mg, X.base) = (P, w, K, mg, base)) (hr : Room km X.A) {tb : MT} (hd : ∀ C fs, tb C = some fs → CDisp P w K mg base km (ctOf K C) (spOf K 2 fs)) (ha : XE X B a te de) (hb : XE X B b tf df) (hm : behindInMarks .NotIn b = false := by first | exact nomark _ | rfl) :
    XT X B (.Compare a [.NotIn] [b] pos) (tB (tInO P w K mg base km true te tf)) (dB (dInO true tb (dCons de (dCons df dNil)))) := by
  cases hX
  exact ⟨pt_cmp (pc_ninO ha.pe hb.pe hr) hm, st_B (se_inO hd ha.se hb.se)⟩
end
/-- nobody asks -/
theorem fn_void {P : Program} {w : World} {K : PySem.W.Frag} {mg : Str → Option Value} {base : Heap} {CX : CXT} {k n : Nat} {f : Addr} {fd : FuncData} {ps : List Str} : FnOk P w K mg base CX k f fd ps (spOf K n fun _ _ => False) where
  len := fun vs H Q E h => by
    obtain ⟨_, _, _, _, _, _, _, z, _⟩ := h
    exact z.elim
  run := fun A outer s H args us vs Q E _ _ _ _ h => by
    obtain ⟨_, _, _, _, _, _, _, z, _⟩ := h
    exact z.elim
/-! xs.count(i) -/
def mCount (ds as : List D) (q : D → Prop) : Prop := match as with
  | [.int y] => ∃ ns : List Int, ds = ns.map D.int ∧ q (.int (ns.count y : Nat))
  | _ => False
theorem rd_count {K : PySem.W.Frag} : RdD K (rCntI K) mCount := fun z F H a vs ds xs as Q q eFH ha ra rx hf k => by
  unfold mCount at hf
  split at hf
  · obtain ⟨x, rfl, r1⟩ := one_rs rx.p
    cases r1
    obtain ⟨ns, rfl, h3⟩ := hf
    have ev := rp_ints ra
    subst ev
    exact ⟨a, _, _, rfl, rfl, Evl.sq_of ha, k _ _ (.int _) h3⟩
  · exact hf.elim
end DL

set_option Elab.async false
set_option linter.all false
set_option maxRecDepth 100000
set_option maxHeartbeats 2000000
/-! ### C.m(..), a classmethod that may raise -/
namespace DL
open PySem PySem.Spec PyProof.Rows L2
open Evl (Ex ex_l ex_t)
def tCM (C : Addr) (sp : Sp) (E : L2.St → XK) (t : TA) : TE := fun σ H Q => t σ H fun vs H2 => sp (.ref C :: vs) H2 Q (E σ)
section
variable {X : Cx} {CX : CXT} {k : Nat} {C p g : Addr} {mc : Value} {fd : FuncData} {ps : List Str} {sp : Sp} {E : L2.St → XK} {e : Expr} {es : List Expr} {x m : Str} {pos apos np : Pos} {t : TA} {pl : Sem Bool}
theorem run_fnC {f : Addr} {pins : List (Addr × Obj)} {σ : L2.St} {H : Hp} {s : Shared} {Q : VK} {us : List Value} {vs : List V} (F : FnOk X.prog X.w X.K X.mg X.base CX k f fd ps sp) (hr : Room k X.A) (hb : Binds X.K fd ps []) (hx : ∀ σ, PassesAt CX X σ (E σ))
    (I : Inv X pins σ H s) (r : Vals vs us) (h : sp vs H Q (E σ)) : codeAny (model X.prog X.w) X.A (.call (.ref f) ⟨us, []⟩) (fun r s' => match r with | .ok (.ret v) => EP X pins σ Q v s' | .ok _ => False | .error e => X.xe e s') s := by
  have hl : (us ++ []).length = ps.length := by rw [List.append_nil, ← r.length]; exact F.len _ _ _ _ h
  have hb' := hb s us I.kIn hl
  rw [List.append_nil] at hb'
  refine codeAny_mono (F.run X.A X.stack s H ⟨us, []⟩ us vs Q (E σ) hr I.env0 hb' r h) fun r s' hq => ?_
  cases r with
  | error e => exact hx σ pins H s e s' I hq
  | ok fl =>
    cases fl with
    | ret u => exact I.after hq
    | next => exact False.elim hq
    | brk => exact False.elim hq
    | cont => exact False.elim hq
theorem run_cmS {q : Addr} {pins : List (Addr × Obj)} {σ : L2.St} {H : Hp} {s : Shared} {Q : VK} {us : List Value} {vs : List V} (F : FnOk X.prog X.w X.K X.mg X.base CX k g fd ps sp) (hr : Room k X.A) (hb : Binds X.K fd ps []) (hx : ∀ σ, PassesAt CX X σ (E σ))
    (I : Inv X ((q, PySem.W.methodObj (.ref g) (.ref C)) :: pins) σ H s) (r : Vals vs us) (h : sp (.ref C :: vs) H Q (E σ)) : wpAny (model X.prog X.w) X.A (call (.ref q) us) (EP X pins σ Q) X.xe s := by
  have z : wpAny (model X.prog X.w) X.A (call (.ref q) us) (EP X ((q, PySem.W.methodObj (.ref g) (.ref C)) :: pins) σ Q) X.xe s :=
    wpAny_call (PySem.W.method_call (ClX.pin_at I) (run_fnC (us := .ref C :: us) (vs := .ref C :: vs) F hr hb hx I (.cons rfl r) h))
  exact thn z fun _ _ y => ClX.unpinE y
theorem pe_cmS {te : TE} {o : Expr} (he : PE X o te) (r : ClX.CRead X.K C mc) (c : ClX.CMet X.K C mc m p g) (F : FnOk X.prog X.w X.K X.mg X.base CX k g fd ps sp) (hr : Room k X.A) (hb : Binds X.K fd ps []) (hx : ∀ σ, PassesAt CX X σ (E σ)) (ha : PA X (e :: es) t)
    (hst : starEach (e :: es) X.env = (false, eval e X.env) :: starEach es X.env := by rfl) (hpl : (backTo pos (starEach es X.env)).any (·.1) = false := by rfl)
    (ht : eval (.Call (.Attribute o m apos) (e :: es) [] pos) X.env = (do
      let ov ← eval o X.env
      standAt apos.atName
      let (f, first) ← holding [ov] (getMethod ov m pl)
      callWith pos f first (backTo pos (starEach (e :: es) X.env)) (backToKw pos (keywordEach [] X.env))) := by rfl) :
    PE X (.Call (.Attribute o m apos) (e :: es) [] pos) (fun σ H Q => te σ H fun x H1 => x = .ref C ∧ tCM C sp E t σ H1 Q) := by
  refine ⟨fun pins s σ H Q I h => ?_⟩
  refine PySem.W.methodCall_KW (pl := pl) (thn (he.run pins s σ H _ I h) fun u s1 ⟨x, H1, I1, rx, ex, q⟩ => ?_) ht
  subst ex
  obtain rfl : u = Value.ref C := rx
  refine ClX.getmethcm_ok I1 r c fun s2 I2 => ?_
  refine ClX.callwith_cm I2 (ClX.base_none I1 (Nat.le_refl _)) c.fi (thn (ha.run pos _ s2 σ H1 _ I2 q) fun us s3 ⟨vs, H2, I3, rv, q2⟩ => ⟨⟨ClX.pin_at I3, I3.kIn⟩, ?_⟩) hst hpl
  exact run_cmS F hr hb hx I3 rv q2
end
def dCMX (xc : DX) (C : String) (n : Nat) (fs : FSX) (da : DA) (γ : Env) (q : RS → Env → Prop) : Prop := da γ fun rs γ1 => (ownIx rs).Nodup ∧ rs.length + 1 = n ∧
  fs (argsOf 0 (RS.val (.kls C) :: rs)) (fun r as' => q r (upds γ1 (RS.val (.kls C) :: rs) as')) fun nm xs as' => xc nm xs (upds γ1 (RS.val (.kls C) :: rs) as')
theorem se_cmX {K : PySem.W.Frag} {B : Bs} {ct : Nat → Addr} {C : String} {n : Nat} {fs : FSX} {W : WX} {xc : DX} {ta : TA} {da : DA} (h : SA K B ta da) (xo : XOk K ct B W xc) :
    SE K B (fun σ H Q => tC (.ref (ctOf K C)) σ H fun x H1 => x = .ref (ctOf K C) ∧ tCM (ctOf K C) (spOfX K ct n fs) (WE W) ta σ H1 Q) (dCMX xc C n fs da) := fun F H σ γ Q q R hq k => by
  refine ⟨rfl, h F H σ γ _ _ R hq fun vs F1 H1 γ1 rs R1 e1 o1 ⟨h1, h2, h3⟩ => ?_⟩
  have oo : Paired (RsOk K B F1 H1 σ γ1) (.ref (ctOf K C) :: vs) (RS.val (.kls C) :: rs) := .cons (Rp.kls C) o1
  have cc := call_core (W := WE W σ) (ct := ct) (n := n) (fs := fs) (dvs := []) (dds := []) (q := q) (Q := Q) .nil R1 oo (fun F' H' γ' nm dd fs R' xd hx => xo F' H' σ γ' nm dd fs R' xd hx) (by simpa [ownIx] using h1) (by simpa using h2) (by simpa using h3) fun v F' H' γ' s' R' e' o' hq => k v F' H' γ' s' R' (e1.trans e') o' hq
  rw [List.append_nil] at cc
  exact cc
section
variable {X : Cx} {B : Bs} {ct : Nat → Addr} {a : Expr} {es : List Expr} {ta : TA} {da : DA} {k n : Nat} {C : String} {mc : Value} {p g : Addr} {fd : FuncData} {ps : List Str} {fs : FSX} {x m : Str} {np apos pos : Pos} {W : WX} {xc : DX} {pl : Sem Bool}
theorem x_cmX (K : PySem.W.Frag) (hK : X.K = K) (xo : XOk X.K ct B W xc) (tk : L2N.Takes X W) (r : ClX.CRead X.K (ctOf X.K C) mc) (c : ClX.CMet X.K (ctOf X.K C) mc m p g) (G : FnOk X.prog X.w X.K X.mg X.base (L2N.CX X.prog X.w) k g fd ps (spOfX X.K ct n fs)) (hr : Room k X.A) (hb : Binds X.K fd ps []) (hm : X.mg x = some (.ref (ctOf X.K C))) (h : XA X B (a :: es) ta da)
    (hg : Gl X x := by rfl) (hdb : (x == ("__debug__" : Str)) = false := by decide) (hst : starEach (a :: es) X.env = (false, eval a X.env) :: starEach es X.env := by rfl) (hpl : (backTo pos (starEach es X.env)).any (·.1) = false := by rfl)
    (ht : eval (.Call (.Attribute (.Name x np) m apos) (a :: es) [] pos) X.env = (do
      let ov ← eval (.Name x np) X.env
      standAt apos.atName
      let (f, first) ← holding [ov] (getMethod ov m pl)
      callWith pos f first (backTo pos (starEach (a :: es) X.env)) (backToKw pos (keywordEach [] X.env))) := by rfl) :
    XE X B (.Call (.Attribute (.Name x np) m apos) (a :: es) [] pos) (fun σ H Q => tC (.ref (ctOf K C)) σ H fun x H1 => x = .ref (ctOf K C) ∧ tCM (ctOf K C) (spOfX K ct n fs) (WE W) ta σ H1 Q) (dCMX xc C n fs da) := by
  subst hK
  have o : XE X B (.Name x np) (tC (.ref (ctOf X.K C))) (dC (.kls C)) := x_glob hg hm rfl (fun z F => Rp.kls (K := ⟨X.K, z⟩) C) hdb
  exact ⟨pe_cmS (pl := pl) o.pe r c G hr hb (fun σ => L2N.passAt tk σ) h.pa hst hpl ht, se_cmX h.sa xo⟩
theorem se_cmN {K : PySem.W.Frag} {B : Bs} {ct : Nat → Addr} {C : String} {n : Nat} {fs : FSX} {ta : TA} {da : DA} (h : SA K B ta da) :
    SE K B (fun σ H Q => tC (.ref (ctOf K C)) σ H fun x H1 => x = .ref (ctOf K C) ∧ tCM (ctOf K C) (spOfX K ct n fs) (fun _ => E0) ta σ H1 Q) (dCMX (fun _ _ _ => False) C n fs da) := fun F H σ γ Q q R hq k => by
  refine ⟨rfl, h F H σ γ _ _ R hq fun vs F1 H1 γ1 rs R1 e1 o1 ⟨h1, h2, h3⟩ => ?_⟩
  have oo : Paired (RsOk K B F1 H1 σ γ1) (.ref (ctOf K C) :: vs) (RS.val (.kls C) :: rs) := .cons (Rp.kls C) o1
  have cc := call_core (W := E0) (ct := ct) (n := n) (fs := fs) (dvs := []) (dds := []) (q := q) (Q := Q) (xc := fun _ _ _ => False) .nil R1 oo (fun F' H' γ' nm dd fs R' xd hx => hx) (by simpa [ownIx] using h1) (by simpa using h2) (by simpa using h3) fun v F' H' γ' s' R' e' o' hq => k v F' H' γ' s' R' (e1.trans e') o' hq
  rw [List.append_nil] at cc
  exact cc
theorem x_cmN (K : PySem.W.Frag) (hK : X.K = K) (r : ClX.CRead X.K (ctOf X.K C) mc) (c : ClX.CMet X.K (ctOf X.K C) mc m p g) (G : FnOk X.prog X.w X.K X.mg X.base (L2N.CX X.prog X.w) k g fd ps (spOfX X.K ct n fs)) (hr : Room k X.A) (hb : Binds X.K fd ps []) (hm : X.mg x = some (.ref (ctOf X.K C))) (h : XA X B (a :: es) ta da)
    (hg : Gl X x := by rfl) (hdb : (x == ("__debug__" : Str)) = false := by decide) (hst : starEach (a :: es) X.env = (false, eval a X.env) :: starEach es X.env := by rfl) (hpl : (backTo pos (starEach es X.env)).any (·.1) = false := by rfl)
    (ht : eval (.Call (.Attribute (.Name x np) m apos) (a :: es) [] pos) X.env = (do
      let ov ← eval (.Name x np) X.env
      standAt apos.atName
      let (f, first) ← holding [ov] (getMethod ov m pl)
      callWith pos f first (backTo pos (starEach (a :: es) X.env)) (backToKw pos (keywordEach [] X.env))) := by rfl) :
    XE X B (.Call (.Attribute (.Name x np) m apos) (a :: es) [] pos) (fun σ H Q => tC (.ref (ctOf K C)) σ H fun x H1 => x = .ref (ctOf K C) ∧ tCM (ctOf K C) (spOfX K ct n fs) (fun _ => E0) ta σ H1 Q) (dCMX (fun _ _ _ => False) C n fs da) := by
  subst hK
  have o : XE X B (.Name x np) (tC (.ref (ctOf X.K C))) (dC (.kls C)) := x_glob hg hm rfl (fun z F => Rp.kls (K := ⟨X.K, z⟩) C) hdb
  exact ⟨pe_cmS (pl := pl) o.pe r c G hr hb (fun σ pins H s e s' => passN pins σ H s e s') h.pa hst hpl ht, se_cmN h.sa⟩
end
end DL

set_option Elab.async false
set_option linter.all false
set_option maxRecDepth 100000
set_option maxHeartbeats 2000000
/-! ### C(..) whose __init__ may raise, the class by its name or in a slot -/
namespace DL
open PySem PySem.Spec PyProof.Rows L2
open Evl (Ex ex_l ex_t)
def tMakeX (C : Addr) (sp : Sp) (dvs : List V) (E : L2.St → XK) (t : TA) : TE := fun σ H Q => t σ H fun vs H1 => ∀ x dx, H1 x = none → H1 dx = none → dx ≠ x →
  sp (.ref x :: (vs ++ dvs)) (upd (upd H1 dx (.own x)) x (.ins C dx [])) (fun v H2 => v = .non ∧ Q (.ref x) H2) (E σ)
section
variable {X : Cx} {CX : CXT} {k i : Nat} {C f : Addr} {fd : FuncData} {ps : List Str} {sp : Sp} {dvs : List V} {ds : List Value} {E : L2.St → XK} {e : Expr} {es : List Expr} {x : Str} {p pos : Pos} {t : TA}
theorem run_makeS {pins : List (Addr × Obj)} {σ : L2.St} {H : Hp} {s : Shared} {Q : VK} {us : List Value} {vs : List V} (M : Mk X.K C f) (F : FnOk X.prog X.w X.K X.mg X.base CX k f fd ps sp) (hr : Room (k + 1) X.A) (hb : Binds X.K fd ps ds) (hd : Vals dvs ds)
    (hx : ∀ σ, PassesAt CX X σ (E σ)) (I : Inv X pins σ H s) (r : Vals vs us)
    (h : ∀ x dx, H x = none → H dx = none → dx ≠ x → sp (.ref x :: (vs ++ dvs)) (upd (upd H dx (.own x)) x (.ins C dx [])) (fun v H2 => v = .non ∧ Q (.ref x) H2) (E σ)) :
    wpAny (model X.prog X.w) X.A (call (.ref C) us) (EP X pins σ Q) X.xe s := by
  have hq := h (s.heap.objs.size + 1) s.heap.objs.size (I.hok.fresh (Nat.le_succ _)) (I.hok.fresh (Nat.le_refl _)) (Nat.ne_of_lt (Nat.lt_succ_self _))
  have I2 := Inv.made (C := C) I
  have r2 : Vals (V.ref (s.heap.objs.size + 1) :: (vs ++ dvs)) (Value.ref (s.heap.objs.size + 1) :: (us ++ ds)) := .cons rfl (r.append hd)
  have hl : (Value.ref (s.heap.objs.size + 1) :: us ++ ds).length = ps.length := by
    have e := r2.length
    rw [F.len _ _ _ _ hq] at e
    exact e.symm
  refine wpAny_call (make_map (f := f) I.kIn M.makes M.init (beq_iff_eq.mp M.fn) (codeAny_mono (F.run _ X.stack _ _ ⟨Value.ref (s.heap.objs.size + 1) :: us, []⟩ (Value.ref (s.heap.objs.size + 1) :: (us ++ ds)) _ _ (E σ) (hr.make C us [])
    (I2.env0.make C us []) (hb _ (Value.ref (s.heap.objs.size + 1) :: us) I2.kIn hl) r2 hq) fun r s' hq' => ?_))
  cases r with
  | error e => exact hx σ pins _ _ e s' I2 hq'
  | ok fl =>
    cases fl with
    | ret u =>
      obtain ⟨v, H', I3, rv, ev, q3⟩ := I2.after hq'
      subst ev
      exact ⟨rv, ⟨V.ref (s.heap.objs.size + 1), H', I3, rfl, q3⟩⟩
    | next => exact False.elim hq'
    | brk => exact False.elim hq'
    | cont => exact False.elim hq'
theorem pe_makeS (M : Mk X.K C f) (F : FnOk X.prog X.w X.K X.mg X.base CX k f fd ps sp) (hr : Room (k + 1) X.A) (hg : Gl X x) (hm : X.mg x = some (.ref C)) (hb : Binds X.K fd ps ds) (hd : Vals dvs ds) (hx : ∀ σ, PassesAt CX X σ (E σ))
    (ha : PA X (e :: es) t) (hdb : (x == ("__debug__" : Str)) = false := by decide) (he : starEach (e :: es) X.env = (false, eval e X.env) :: starEach es X.env := by rfl) (hpl : (backTo pos (starEach es X.env)).any (·.1) = false := by rfl) :
    PE X (.Call (.Name x p) (e :: es) [] pos) (tMakeX C sp dvs E t) := by
  refine ⟨fun pins s σ H Q I h => ?_⟩
  refine wpAny_Call_Name_kw (ld_glob I hg hm ?_ hdb)
  refine PySem.W.callWith_K (h₀ := X.base) I.ok.mod.kin M.kp (thn (ha.run pos pins s σ H _ I h) fun us s1 ⟨vs, H1, I1, r, q⟩ => ⟨I1.kIn, ?_⟩) he hpl
  exact run_makeS M F hr hb hd hx I1 r q
/-- the class stands in the i-th slot -/
theorem pe_makeL (M : Mk X.K C f) (F : FnOk X.prog X.w X.K X.mg X.base CX k f fd ps sp) (hr : Room (k + 1) X.A) (hN : X.N[i]? = some x) (hv : Vis X.env.scope x) (hb : Binds X.K fd ps ds) (hd : Vals dvs ds) (hx : ∀ σ, PassesAt CX X σ (E σ))
    (ha : PA X (e :: es) t) (hdb : (x == ("__debug__" : Str)) = false := by decide) (hcd : (x == ("__classdict__" : Str)) = false := by decide) (he : starEach (e :: es) X.env = (false, eval e X.env) :: starEach es X.env := by rfl) (hpl : (backTo pos (starEach es X.env)).any (·.1) = false := by rfl) :
    PE X (.Call (.Name x p) (e :: es) [] pos) (fun σ H Q => σ[i]? = some (some (.ref C)) ∧ tMakeX C sp dvs E t σ H Q) := by
  refine ⟨fun pins s σ H Q I h => ?_⟩
  obtain ⟨hs, ht⟩ := h
  refine wpAny_Call_Name_kw (thn ((pe_var (pos := p) hN hv hdb hcd).run pins s σ H (fun v H1 => v = .ref C ∧ H1 = H) I ⟨.ref C, hs, rfl, rfl⟩) fun u s1 ⟨v, H1, I1, r1, q1⟩ => ?_)
  obtain ⟨rfl, rfl⟩ := q1
  cases r1
  refine PySem.W.callWith_K (h₀ := X.base) I.ok.mod.kin M.kp (thn (ha.run pos pins s1 σ _ _ I1 ht) fun us s2 ⟨vs, H2, I2, r, q⟩ => ⟨I2.kIn, ?_⟩) he hpl
  exact run_makeS M F hr hb hd hx I2 r q
end
def dMakeX (xc : DX) (C : String) (n : Nat) (fs : FSX) (dds : List D) (da : DA) (γ : Env) (q : RS → Env → Prop) : Prop := da γ fun rs γ1 => allV rs ∧ rs.length + dds.length + 1 = n ∧
  fs (.own (some 0) (.ins C []) :: ((rs.map RS.data).map Sx.val ++ dds.map Sx.val)) (fun r as' => r = .val .non ∧ match as' with
    | .own _ (.ins C' fs') :: _ => C' = C ∧ q (.new (.ins C fs')) γ1
    | _ => False) fun nm xs as' => match as' with
    | .own _ (.ins C' fs') :: _ => C' = C ∧ xc nm xs γ1
    | _ => False
theorem se_makeX {K : PySem.W.Frag} {B : Bs} {ct : Nat → Addr} {C : String} {n : Nat} {fs : FSX} {dvs : List V} {dds : List D} {W : WX} {xc : DX} {ta : TA} {da : DA} (h : SA K B ta da) (od : Paired (fun v d => ∀ z F, Rp ⟨K, z⟩ F v d) dvs dds) (xo : XOk K ct B W xc) : SE K B (tMakeX (ctOf K C) (spOfX K ct n fs) dvs (WE W) ta) (dMakeX xc C n fs dds da) := fun F H σ γ Q q R hq k => by
  refine h F H σ γ _ _ R hq fun vs F1 H1 γ1 rs R1 e1 o1 ⟨h0, h2, h3⟩ x dx hx hdx ne => ?_
  have all : RpAll (B.kz K) F1 (vs ++ dvs) (rs.map RS.data ++ dds) := RpAll.of (P_app (allV_rp o1 h0).p (P_mono (fun v d z => z _ _) od))
  let Z : ZN (upd (upd H1 dx (.own x)) x (.ins (ctOf K C) dx [])) := ⟨B.z, fun a ha => by
    obtain ⟨o, e⟩ := R1.znp a ha
    have n1 : a ≠ x := fun z => by subst z; rw [hx] at e; cases e
    have n2 : a ≠ dx := fun z => by subst z; rw [hdx] at e; cases e
    exact ⟨o, by rw [upd_ne n1, upd_ne n2]; exact e⟩⟩
  have RE := make_entry (C := C) R1.fh all hx hdx ne Z rfl
  rw [List.map_append] at RE
  refine ⟨by simp only [List.length_cons, List.length_append]; rw [P_len o1, P_len od]; omega, F1, _, Z, _, _, _, RE, h3, fun r as' v F3 H3 ⟨hr, hp⟩ R3 ok hk => ?_, fun nm xs dd as' F2 H2 hp R2 xd => ?_⟩
  · subst hr
    split at hp
    · rename_i p C' fs' rest
      obtain ⟨rfl, hp⟩ := hp
      obtain ⟨R4, e4, o4⟩ := make_exit R1 hx hdx ne rfl R3
      have ok' : Rp _ F3 v .non := ok
      cases ok'
      exact ⟨rfl, k _ F3 H3 γ1 _ R4 (e1.trans e4) o4 hp⟩
    · exact hp.elim
  · split at hp
    · rename_i p C' fs' rest
      obtain ⟨rfl, hp⟩ := hp
      obtain ⟨R4, e4, o4⟩ := make_exit R1 hx hdx ne rfl R2
      exact xo F2 H2 σ γ1 nm dd xs R4 xd hp
    · exact hp.elim
section
variable {X : Cx} {B : Bs} {ct : Nat → Addr} {a : Expr} {es : List Expr} {ta : TA} {da : DA} {k n i : Nat} {C : String} {f : Addr} {fd : FuncData} {ps : List Str} {fs : FSX} {x : Str} {p pos : Pos} {dvs : List V} {dds : List D} {ds : List Value} {W : WX} {xc : DX}
theorem x_makeX (K : PySem.W.Frag) (hK : X.K = K) (xo : XOk X.K ct B W xc) (tk : L2N.Takes X W) (M : Mk X.K (ctOf X.K C) f) (G : FnOk X.prog X.w X.K X.mg X.base (L2N.CX X.prog X.w) k f fd ps (spOfX X.K ct n fs)) (hr : Room (k + 1) X.A) (hm : X.mg x = some (.ref (ctOf X.K C))) (hb : Binds X.K fd ps ds) (hd : Vals dvs ds) (od : Paired (fun v d => ∀ z F, Rp ⟨X.K, z⟩ F v d) dvs dds) (h : XA X B (a :: es) ta da)
    (hg : Gl X x := by rfl) (hdb : (x == ("__debug__" : Str)) = false := by decide) (he : starEach (a :: es) X.env = (false, eval a X.env) :: starEach es X.env := by rfl) (hpl : (backTo pos (starEach es X.env)).any (·.1) = false := by rfl) :
    XE X B (.Call (.Name x p) (a :: es) [] pos) (tMakeX (ctOf K C) (spOfX K ct n fs) dvs (WE W) ta) (dMakeX xc C n fs dds da) := by
  subst hK
  exact ⟨pe_makeS M G hr hg hm hb hd (fun σ => L2N.passAt tk σ) h.pa hdb he hpl, se_makeX h.sa od xo⟩
end
def dMakeLX (i : Nat) (xc : DX) (C : String) (n : Nat) (fs : FSX) (dds : List D) (da : DA) (γ : Env) (q : RS → Env → Prop) : Prop := look γ i = .val (.kls C) ∧ dMakeX xc C n fs dds da γ q
theorem se_makeLX {K : PySem.W.Frag} {B : Bs} {ct : Nat → Addr} {C : String} {n i : Nat} {fs : FSX} {dvs : List V} {dds : List D} {W : WX} {xc : DX} {ta : TA} {da : DA} (h : SA K B ta da) (od : Paired (fun v d => ∀ z F, Rp ⟨K, z⟩ F v d) dvs dds) (xo : XOk K ct B W xc) :
    SE K B (fun σ H Q => σ[i]? = some (some (.ref (ctOf K C))) ∧ tMakeX (ctOf K C) (spOfX K ct n fs) dvs (WE W) ta σ H Q) (dMakeLX i xc C n fs dds da) := fun F H σ γ Q q R ⟨hl, hq⟩ k => by
  obtain ⟨v, hs, r⟩ := R.val hl
  cases r
  exact ⟨hs, se_makeX h od xo F H σ γ Q q R hq k⟩
section
variable {X : Cx} {B : Bs} {ct : Nat → Addr} {a : Expr} {es : List Expr} {ta : TA} {da : DA} {k n i : Nat} {C : String} {f : Addr} {fd : FuncData} {ps : List Str} {fs : FSX} {x : Str} {p pos : Pos} {dvs : List V} {dds : List D} {ds : List Value} {W : WX} {xc : DX}
theorem x_makeLX (i : Nat) (K : PySem.W.Frag) (hK : X.K = K) (xo : XOk X.K ct B W xc) (tk : L2N.Takes X W) (M : Mk X.K (ctOf X.K C) f) (G : FnOk X.prog X.w X.K X.mg X.base (L2N.CX X.prog X.w) k f fd ps (spOfX X.K ct n fs)) (hr : Room (k + 1) X.A) (hb : Binds X.K fd ps ds) (hd : Vals dvs ds) (od : Paired (fun v d => ∀ z F, Rp ⟨X.K, z⟩ F v d) dvs dds) (h : XA X B (a :: es) ta da)
    (hN : X.N[i]? = some x := by rfl) (hv : Vis X.env.scope x := by first | exact Or.inl rfl | exact Or.inr (Or.inl rfl) | exact Or.inr (Or.inr rfl)) (hdb : (x == ("__debug__" : Str)) = false := by decide) (hcd : (x == ("__classdict__" : Str)) = false := by decide) (he : starEach (a :: es) X.env = (false, eval a X.env) :: starEach es X.env := by rfl) (hpl : (backTo pos (starEach es X.env)).any (·.1) = false := by rfl) :
    XE X B (.Call (.Name x p) (a :: es) [] pos) (fun σ H Q => σ[i]? = some (some (.ref (ctOf K C))) ∧ tMakeX (ctOf K C) (spOfX K ct n fs) dvs (WE W) ta σ H Q) (dMakeLX i xc C n fs dds da) := by
  subst hK
  exact ⟨pe_makeL M G hr hN hv hb hd (fun σ => L2N.passAt tk σ) h.pa hdb hcd he hpl, se_makeLX h.sa od xo⟩
end
/-- the defaults ds fill up -/
theorem bindsD {K : PySem.W.Frag} {ps : List Str} {fd : FuncData} {T : Addr} {ocT : Value} {odT : Option Addr} {its : Array Value} {n : Nat} {slT : Array (Option Value)} {ds : List Value} (lT : K.lookup T = some ⟨ocT, odT, .seq its n, slT⟩)
    (h : ∀ us : List Value, (us ++ ds).length = ps.length → ∃ k, bindArgs fd ⟨us, []⟩ = seqItems? (.ref T) >>= k ∧ k (some its) = pure (ps.zip (us ++ ds))) : Binds K fd ps ds := fun s us X hl => by
  obtain ⟨k, e1, e2⟩ := h us hl
  refine L2.BindsTo.of_looks fun M => ?_
  rw [e1]
  exact looks_items X lT rfl (.of_pure e2)
/-- a kept empty tuple -/
theorem nilT {K : PySem.W.Frag} {a : Addr} (h : SqT K (fun _ => none) a []) : ∀ z F, Rp ⟨K, z⟩ F (.ref a) (.tup []) := fun z F => .tup (ex_t (H := fun _ => none) (fun _ _ h => by cases h) h) .nil
section
variable {X : Cx} {B : Bs} {ct : Nat → Addr} {a : Expr} {es : List Expr} {ta : TA} {da : DA} {k n : Nat} {C : String} {f : Addr} {fd : FuncData} {ps : List Str} {fs : FSX} {x : Str} {p pos : Pos} {dvs : List V} {dds : List D} {ds : List Value}
theorem x_makeND (K : PySem.W.Frag) (hK : X.K = K) (M : Mk X.K (ctOf X.K C) f) (G : FnOk X.prog X.w X.K X.mg X.base (L2N.CX X.prog X.w) k f fd ps (spOfX X.K ct n fs)) (hr : Room (k + 1) X.A) (hm : X.mg x = some (.ref (ctOf X.K C))) (hb : Binds X.K fd ps ds) (hd : Vals dvs ds) (od : Paired (fun v d => ∀ z F, Rp ⟨X.K, z⟩ F v d) dvs dds) (h : XA X B (a :: es) ta da)
    (hg : Gl X x := by rfl) (hdb : (x == ("__debug__" : Str)) = false := by decide) (he : starEach (a :: es) X.env = (false, eval a X.env) :: starEach es X.env := by rfl) (hpl : (backTo pos (starEach es X.env)).any (·.1) = false := by rfl) :
    XE X B (.Call (.Name x p) (a :: es) [] pos) (tMake (ctOf K C) (spOfX K ct n fs) dvs E0 ta) (dMakeN C n fs dds da) := by
  subst hK
  exact ⟨pe_make M G hr hg hm hb hd passN h.pa hdb he hpl, se_makeN h.sa od⟩
end
end DL

set_option Elab.async false
set_option linter.all false
set_option maxRecDepth 100000
set_option maxHeartbeats 2000000
/-! ### a list or a tuple walked -/
namespace DL
open PySem PySem.Spec PyProof.Rows L2
open Evl (Ex ex_l ex_t)
def iSeq (K : PySem.W.Frag) (tl : TE) : TI := fun σ H R => tl σ H fun x H1 => ∃ a, x = .ref a ∧ (((∃ xs, SqL K H1 a xs) ∧ R (Itl K a) H1) ∨ ((∃ xs, SqT K H1 a xs) ∧ R (Itt K a) H1))
theorem pi_seq {X : Cx} {tg l : Expr} {tl : TE} (hl : PE X l tl) : PI X tg l (iSeq X.K tl) := by
  refine ⟨fun pins s σ H R I h => ?_⟩
  refine thn (hl.run pins s σ H _ I h) fun v s1 ⟨x, H1, I1, r1, q1⟩ => ?_
  obtain ⟨a, e, q1⟩ := q1
  subst e
  cases r1
  rcases q1 with ⟨⟨xs, hq⟩, q⟩ | ⟨⟨xs, hq⟩, q⟩
  · obtain ⟨its, rv, p, hz⟩ := I1.list hq
    refine wpAny_pyIter_list p.isList ?_
    refine ⟨s1.heap.objs.size, [s1.heap.objs.size], _, _, H1, rfl, I1.kept (t' := s1.toks) fun b o e => Heap.get?_push_of_some _ e, turn_list a _, ⟨_, Heap.get?_push_size _ rfl, rfl, rfl⟩, fun b hb => ?_, q⟩
    have e : b = s1.heap.objs.size := by simpa using hb
    subst e
    exact I1.fpOk (Nat.le_refl _) (I1.hok.fresh (Nat.le_refl _))
  · obtain ⟨its, rv, p, hz⟩ := I1.tuple hq
    refine wpAny_pyIter_tuple (show s1.heap.IsTuple a its.toArray from p) ?_
    refine ⟨s1.heap.objs.size, [s1.heap.objs.size], _, _, H1, rfl, I1.kept (t' := s1.toks) fun b o e => Heap.get?_push_of_some _ e, turn_tuple a _, ⟨_, Heap.get?_push_size _ rfl, rfl, rfl⟩, fun b hb => ?_, q⟩
    have e : b = s1.heap.objs.size := by simpa using hb
    subst e
    exact I1.fpOk (Nat.le_refl _) (I1.hok.fresh (Nat.le_refl _))
def dIQ (de : DE) (γ : Env) (r : Nat → (Nat → D → Prop) → Env → Prop) : Prop := de γ fun s γ1 => s.kept ∧ match s.data with
  | .lst ds => r ds.length (fun i d => ds[i]? = some d) γ1
  | .tup ds => r ds.length (fun i d => ds[i]? = some d) γ1
  | _ => False
theorem si_seq {K : PySem.W.Frag} {B : Bs} {te : TE} {de : DE} (he : SE K B te de) : SI K B (iSeq K te) (dIQ de) := fun F H σ γ W r R hq k => by
  refine he F H σ γ _ _ R hq fun x F1 H1 γ1 s R1 e1 o1 ⟨hk, h1⟩ => ?_
  obtain ⟨F2, R2, e2, o2⟩ := o1.fz R1
  have rp := o2.kp hk
  split at h1
  · rename_i ds es
    rw [es] at rp
    cases rp with
    | lst ha ra => exact ⟨_, rfl, .inl ⟨⟨_, Evl.sq_of (R2.fh _ _ ha)⟩, k _ F2 H1 γ1 _ _ R2 (e1.trans e2) (jo_list (Evl.sq_of ha) ra) h1⟩⟩
  · rename_i ds es
    rw [es] at rp
    cases rp with
    | tup ha ra => exact ⟨_, rfl, .inr ⟨⟨_, ex_t R2.fh ha⟩, k _ F2 H1 γ1 _ _ R2 (e1.trans e2) (jo_tup ha ra) h1⟩⟩
  · exact h1.elim
theorem i_seq {X : Cx} {B : Bs} {tg e : Expr} {te : TE} {de : DE} (h : XE X B e te de) : XI X B tg e (iSeq X.K te) (dIQ de) := ⟨pi_seq h.pe, si_seq h.se⟩
/-- statements that are never reached -/
def dVoid : DS := fun _ _ => False
theorem ss_void {X : Cx} {B : Bs} {ss : List Stmt} : XSs X B ss (fun _ _ _ => False) dVoid := ⟨⟨fun _ _ _ _ _ _ h => h.elim⟩, fun _ _ _ _ _ _ _ h _ => h.elim⟩
theorem _root_.L2H.RoomH.units {k : Nat} {A : Around} (r : L2H.RoomH k A) : A.units + 64 < PySem.cLine := by have := r.un; omega
end DL

set_option Elab.async false
set_option linter.all false
set_option maxRecDepth 100000
set_option maxHeartbeats 2000000
/-! ### o(..), o an own class's instance -/
namespace DL
open PySem PySem.Spec PyProof.Rows L2
open Evl (Ex ex_l ex_t)
theorem Fun_fi {K : PySem.W.Frag} {x qual : Str} {st : Stmt} {f : Addr} {fd : FuncData} (F : Fun K x qual st f fd) : PySem.W.fnIn K f = true := by
  obtain ⟨oc, od, kV, doc, pm, an, cdv, ct, osl, rfl, lk, hcd⟩ := F.ex
  unfold PySem.W.fnIn
  rw [lk]
inductive ODispC (P : Program) (w : World) (K : PySem.W.Frag) (mg : Str → Option Value) (base : Heap) (CX : CXT) (km : Nat) (C : Addr) (sp : Sp) : Prop
  | mk {k : Nat} {f : Addr} {fd : FuncData} {ps : List Str} : Meth K C "__call__" f → PySem.W.fnIn K f = true → FnOk P w K mg base CX k f fd ps sp → k ≤ km → Binds K fd ps [] → ODispC P w K mg base CX km C sp
def tCallOP (P : Program) (w : World) (K : PySem.W.Frag) (mg : Str → Option Value) (base : Heap) (CX : CXT) (km : Nat) (E : L2.St → XK) (tf : TE) (t : TA) : TE := fun σ H Q => tf σ H fun y H1 => ∃ a, y = V.ref a ∧ t σ H1 fun vs H2 => ∃ C dx fs sp, H2 a = some (.ins C dx fs) ∧ ODispC P w K mg base CX km C sp ∧ sp (V.ref a :: vs) H2 Q (E σ)
section
variable {X : Cx} {CX : CXT} {km : Nat} {fe e : Expr} {es : List Expr} {pos : Pos} {tf : TE} {t : TA} {E : L2.St → XK}
theorem pe_callOP (hf : PE X fe tf) (hr : Room km X.A) (hx : ∀ σ, PassesAt CX X σ (E σ)) (ha : PA X (e :: es) t)
    (ht : eval (.Call fe (e :: es) [] pos) X.env = (do callWith pos (← eval fe X.env) [] (backTo pos (starEach (e :: es) X.env)) (backToKw pos (keywordEach [] X.env))) := by rfl)
    (he : starEach (e :: es) X.env = (false, eval e X.env) :: starEach es X.env := by rfl) (hpl : (backTo pos (starEach es X.env)).any (·.1) = false := by rfl) : PE X (.Call fe (e :: es) [] pos) (tCallOP X.prog X.w X.K X.mg X.base CX km E tf t) := by
  refine ⟨fun pins s σ H Q I h => ?_⟩
  refine Call_ (thn (hf.run pins s σ H _ I h) fun u s1 ⟨y, H1, I1, ry, a, ey, q⟩ => ?_) ht
  subst ey
  obtain rfl : u = Value.ref a := ry
  refine StX.callO_with (thn (ha.run pos pins s1 σ H1 _ I1 q) fun us s2 ⟨vs, H2, I2, r, C, dx, fs, sp, hi, dp, q2⟩ => ?_) he hpl
  obtain ⟨m, fi, F, hk, hb⟩ := dp
  obtain ⟨mA, O, _⟩ := ins_get I2.hok hi
  obtain ⟨od, J, _⟩ := O.look
  exact ⟨⟨C, _, _, J, rfl⟩, wpAny_call (PySem.W.kco_code I2.kIn J rfl m.at_ m.fn fi (run_fnC (us := .ref a :: us) (vs := .ref a :: vs) F (hr.mono hk) hb hx I2 (.cons rfl r) q2))⟩
end
def dCallOX (xc : DX) (n : Nat) (tb : MTX) (de : DE) (da : DA) (γ : Env) (q : RS → Env → Prop) : Prop := de γ fun s γ1 => match s with
  | .val (.obj C fl) => ∃ fs, tb C = some fs ∧ da γ1 fun rs γ2 => (ownIx rs).Nodup ∧ rs.length + 1 = n ∧ fs (argsOf 0 (.val (.obj C fl) :: rs)) (fun r as' => q r (upds γ2 (.val (.obj C fl) :: rs) as')) fun nm xs as' => xc nm xs (upds γ2 (.val (.obj C fl) :: rs) as')
  | _ => False
theorem se_callOX {P : Program} {w : World} {K : PySem.W.Frag} {mg : Str → Option Value} {base : Heap} {CX : CXT} {km : Nat} {B : Bs} {n : Nat} {te : TE} {de : DE} {ta : TA} {da : DA} {ct : Nat → Addr} {W : L2.St → XK} {xc : DX} {tb : MTX} (hd : ∀ C fs, tb C = some fs → ODispC P w K mg base CX km (ctOf K C) (spOfX K ct n fs))
    (xo : ∀ (F' H' : Hp) (σ : L2.St) (γ' : Env) nm dd fs, Rep K B F' H' σ γ' → XdOk K B F' dd fs → xc nm fs γ' → W σ (.ref (ct nm)) dd H') (he : SE K B te de) (ha : SA K B ta da) : SE K B (tCallOP P w K mg base CX km W te ta) (dCallOX xc n tb de da) := fun F H σ γ Q q R hq k => by
  refine he F H σ γ _ _ R hq fun x F1 H1 γ1 s R1 e1 o1 h1 => ?_
  split at h1
  · rename_i C fl
    obtain ⟨fs, ht, h1⟩ := h1
    have o1 : Rp (B.kz K) F1 x (.obj C fl) := o1
    obtain ⟨a, ea, _⟩ : ∃ a, x = .ref a ∧ True := by cases o1; exact ⟨_, rfl, trivial⟩
    subst ea
    refine ⟨a, rfl, ?_⟩
    refine ha F1 H1 σ γ1 _ _ R1 h1 fun vs F3 H3 γ3 rs R3 e3 o3 ⟨h4, h5, h6⟩ => ?_
    have o4 : RsOk K B F3 H3 σ γ3 (.ref a) (.val (.obj C fl)) := o1.mono e3
    obtain ⟨a', dx, fv, ea, q2, q3⟩ := (o4.rs R3).obj R3.fh
    cases ea
    have oo : Paired (RsOk K B F3 H3 σ γ3) (.ref a :: vs) (RS.val (.obj C fl) :: rs) := .cons o4 o3
    have cc := call_core (W := W σ) (ct := ct) (n := n) (fs := fs) (dvs := []) (dds := []) (q := q) .nil R3 oo (fun F' H' γ' nm dd fs R' xd hx => xo F' H' σ γ' nm dd fs R' xd hx) (by simpa [ownIx] using h4) (by simp; omega) (by simpa using h6) fun v F' H' γ' s' R' e' o' hq => k v F' H' γ' s' R' ((e1.trans e3).trans e') o' hq
    rw [List.append_nil] at cc
    exact ⟨_, dx, fv, _, q2, hd C fs ht, cc⟩
  · exact h1.elim
section
variable {X : Cx} {km : Nat} {B : Bs} {o a : Expr} {es : List Expr} {pos : Pos} {te : TE} {de : DE} {ta : TA} {da : DA} {n : Nat}
theorem x_callOX (P : Program) (w : World) (K : PySem.W.Frag) (mg : Str → Option Value) (base : Heap) (hX : (X.prog, X.w, X.K, X.mg, X.base) = (P, w, K, mg, base)) (hr : Room km X.A) {ct : Nat → Addr} {W : WX} {xc : DX} {tb : MTX} (xo : XOk K ct B W xc) (tk : L2N.Takes X W) (hd : ∀ C fs, tb C = some fs → ODispC P w K mg base (L2N.CX P w) km (ctOf K C) (spOfX K ct n fs)) (ho : XE X B o te de) (h : XA X B (a :: es) ta da)
    (ht : eval (.Call o (a :: es) [] pos) X.env = (do callWith pos (← eval o X.env) [] (backTo pos (starEach (a :: es) X.env)) (backToKw pos (keywordEach [] X.env))) := by rfl)
    (hst : starEach (a :: es) X.env = (false, eval a X.env) :: starEach es X.env := by rfl) (hpl : (backTo pos (starEach es X.env)).any (·.1) = false := by rfl) :
    XE X B (.Call o (a :: es) [] pos) (tCallOP P w K mg base (L2N.CX P w) km (WE W) te ta) (dCallOX xc n tb de da) := by
  cases hX
  exact ⟨pe_callOP ho.pe hr (fun σ => L2N.passAt tk σ) h.pa ht hst hpl, se_callOX hd (fun F' H' σ γ' nm dd fs R' xd hx => xo F' H' σ γ' nm dd fs R' xd hx) ho.se h.sa⟩
end
end DL

set_option Elab.async false
set_option linter.all false
set_option maxRecDepth 100000
set_option maxHeartbeats 2000000
namespace DL
open PySem PySem.Spec PyProof.Rows L2
open Evl (Ex ex_l ex_t)
/-! ### slices of texts -/
def fSlS : D → Option Int → Option Int → (RS → Prop) → Prop
  | .str z, lo, hi, q => z.length ≤ 1000000 ∧ q (.val (.str (Txt.slice z lo hi)))
  | _, _, _, _ => False
theorem sd_str {K : PySem.W.Frag} : SlD K C8.rSlX fSlS := fun B F H σ γ x d lo hi Q q R rx hf k => by
  unfold fSlS at hf
  split at hf
  · exact ⟨_, rx.str, sz_le hf.1, vk R k (.str _) hf.2⟩
  · exact hf.elim
/-! ### xs.count(b), xs.index(b): truth values -/
def rCntB (K : PySem.W.Frag) : V → List V → Hp → VK → Prop := fun x xs H Q => ∃ (p : Addr) (bs : List Bool) (b : Bool), x = .ref p ∧ xs = [.bl b] ∧ SqL K H p (bs.map V.bl) ∧ Q (.int (bs.count b : Nat)) H
theorem bl_flat (bs : List Bool) : (bs.map V.bl).all flatV = true := by induction bs <;> simp_all [flatV]
theorem cntU {b : Bool} : ∀ {us : List Value} {bs : List Bool}, Vals (bs.map V.bl) us → us.countP (eqU (.bl b)) = bs.count b
  | _, [], .nil => rfl
  | u :: us, c :: bs, .cons r t => by
    have ih := cntU (b := b) t
    have e : eqU (.bl b) u = (c == b) := eqU_of r rfl
    rw [List.countP_cons, List.count_cons, ih, e]
theorem mt_lcountB {X : Cx} : MtR X "list.count" (rCntB X.K) := by
  intro pins s σ H x xs v us Q I rx rxs h
  obtain ⟨p, bs, b, ex, exs, hs, q⟩ := h
  subst ex exs
  obtain rfl : v = Value.ref p := rx
  obtain ⟨u, rfl, ru⟩ := rxs.one
  obtain ⟨its, rv, ⟨o, n, ho, hc, hdn, hd⟩, hlen⟩ := I.list hs
  obtain ⟨cls, dd, data, sl⟩ := o
  have hc : cls = .type "list" := hc
  have hd : data = .seq its.toArray n := hd
  subst hc hd
  have ec : its.toArray.toList.countP (eqU (.bl b)) = bs.count b := cntU rv
  refine call_meets PySem.F.slot_list_count ⟨_, ho, rfl⟩ PySem.F.entry_list_count (PySem.F.args_list_count_2 _ _) (SeqAt.list_countAt p its.toArray n dd sl u (eqU (.bl b))) ⟨ho, fun y hy => ?_, ?_⟩
  · exact mem_eqAt ru rfl rv (bl_flat bs) y (by simpa using hy)
  · rw [ec]
    exact ⟨.int (bs.count b : Nat), H, I.tok _, ⟨_, rfl⟩, q⟩
def mCountB (ds as : List D) (q : D → Prop) : Prop := match as with
  | [.bl y] => ∃ bs : List Bool, ds = bs.map D.bl ∧ q (.int (bs.count y : Nat))
  | _ => False
theorem rd_countB {K : PySem.W.Frag} : RdD K (rCntB K) mCountB := fun z F H a vs ds xs as Q q eFH ha ra rx hf k => by
  unfold mCountB at hf
  split at hf
  · obtain ⟨x, rfl, r1⟩ := one_rs rx.p
    cases r1
    obtain ⟨bs, rfl, h3⟩ := hf
    have ev := rp_bls ra
    subst ev
    exact ⟨a, _, _, rfl, rfl, Evl.sq_of ha, k _ _ (.int _) h3⟩
  · exact hf.elim
def mIndexB (ds as : List D) (q : D → Prop) : Prop := match as with
  | [.bl y] => ∃ (bs : List Bool) (j : Nat), ds = bs.map D.bl ∧ bs[j]? = some y ∧ (∀ m, m < j → bs[m]? ≠ some y) ∧ q (.int (j : Nat))
  | _ => False
theorem rd_indexB {K : PySem.W.Frag} : RdD K (rIndex K) mIndexB := fun z F H a vs ds xs as Q q eFH ha ra rx hf k => by
  unfold mIndexB at hf
  split at hf
  · rename_i y
    obtain ⟨x, rfl, r1⟩ := one_rs rx.p
    cases r1
    obtain ⟨bs, j, rfl, h1, h2, h3⟩ := hf
    have ev := rp_bls ra
    subst ev
    refine ⟨a, _, .bl y, j, .bl y, rfl, rfl, Evl.sq_of ha, rfl, bl_flat bs, by rw [List.getElem?_map, h1]; rfl, by simp [eqV], fun m z' hm hz => ?_, k _ _ (.int _) h3⟩
    rw [List.getElem?_map] at hz
    obtain ⟨c, hc, rfl⟩ := Option.map_eq_some_iff.mp hz
    have ne : c ≠ y := fun e => h2 m hm (by rw [hc, e])
    simpa [eqV] using ne
  · exact hf.elim
theorem x_countB {X : Cx} {B : Bs} {o e : Expr} {es : List Expr} {te : TE} {de : DE} {ta : TA} {da : DA} {apos cpos : Pos} (K : PySem.W.Frag) (hK : X.K = K) (ho : XE X B o te de) (h : XA X B (e :: es) ta da)
    (hbase : attributeBase o "count" X.env (eval o X.env) = eval o X.env := by rfl)
    (hfew : ((backTo cpos (starEach (e :: es) X.env)).all (fun x => !x.1) && (backToKw cpos (keywordEach [] X.env)).all (fun x => x.1.isSome) && decide ((e :: es).length + ([] : List Keyword).length + (if ([] : List Keyword).isEmpty then 0 else 1) < 30)) = true := by rfl)
    (hline : (apos.endLine == cpos.line) = true := by rfl) (hs : starEach (e :: es) X.env = (false, eval e X.env) :: starEach es X.env := by rfl) (hplain : (backTo cpos (starEach es X.env)).any (·.1) = false := by rfl) :
    XE X B (.Call (.Attribute o "count" apos) (e :: es) [] cpos) (tBM K "list" (rCntB K) te ta) (dRd mCountB de da) := by
  subst hK
  exact x_rd (fun p q => pe_bm PySem.F.plainAttrs_list PySem.F.slot_list_count PySem.F.type_list_count mt_lcountB p q hbase hfew hline hs hplain) rd_countB ho h
theorem x_indexB {X : Cx} {B : Bs} {o e : Expr} {es : List Expr} {te : TE} {de : DE} {ta : TA} {da : DA} {apos cpos : Pos} (K : PySem.W.Frag) (hK : X.K = K) (ho : XE X B o te de) (h : XA X B (e :: es) ta da)
    (hbase : attributeBase o "index" X.env (eval o X.env) = eval o X.env := by rfl)
    (hfew : ((backTo cpos (starEach (e :: es) X.env)).all (fun x => !x.1) && (backToKw cpos (keywordEach [] X.env)).all (fun x => x.1.isSome) && decide ((e :: es).length + ([] : List Keyword).length + (if ([] : List Keyword).isEmpty then 0 else 1) < 30)) = true := by rfl)
    (hline : (apos.endLine == cpos.line) = true := by rfl) (hs : starEach (e :: es) X.env = (false, eval e X.env) :: starEach es X.env := by rfl) (hplain : (backTo cpos (starEach es X.env)).any (·.1) = false := by rfl) :
    XE X B (.Call (.Attribute o "index" apos) (e :: es) [] cpos) (tBM K "list" (rIndex K) te ta) (dRd mIndexB de da) := by
  subst hK
  exact x_rd (fun p q => pe_bm PySem.F.plainAttrs_list PySem.F.slot_list_index PySem.F.type_list_index mt_index p q hbase hfew hline hs hplain) rd_indexB ho h
/-! ### C.F, a number of the class, by the class's name -/
def dCCon (C : String) (i : Int) (γ : Env) (q : RS → Env → Prop) : Prop := q (.val (.int i)) γ
theorem x_ccon {X : Cx} {B : Bs} {x : Str} {p pos : Pos} {C : String} {f : Str} {i : Int} {u : Value} (r : ClX.CRead X.K (ctOf X.K C) (.type "type")) (k : ClX.CVal X.K (ctOf X.K C) (.type "type") f (.int i) u) (hm : X.mg x = some (.ref (ctOf X.K C)))
    (hg : Gl X x := by rfl) (hdb : (x == ("__debug__" : Str)) = false := by decide) (hb : attributeBase (.Name x p) f X.env (eval (.Name x p) X.env) = eval (.Name x p) X.env := by rfl) :
    XE X B (.Attribute (.Name x p) f pos) (ClX.tCVal X.K (tC (.ref (ctOf X.K C))) f) (dCCon C i) := by
  have o : XE X B (.Name x p) (tC (.ref (ctOf X.K C))) (dC (.kls C)) := x_glob hg hm rfl (fun z F => Rp.kls (K := ⟨X.K, z⟩) C) hdb
  exact ⟨ClX.pe_cval o.pe hb, fun F H σ γ Q q R hq kk => ⟨_, _, _, _, rfl, r, k, kk _ F H γ (.val (.int i)) R (Evl.Ex.refl F) (Rp.int i) hq⟩⟩
/-! ### isinstance(e, ValueError) -/
theorem kit_tyV {K : PySem.W.Frag} {D : Addr} (h : PySem.W.subIn K (.ref D) (.type "ValueError") = some true) : PySem.W.kitOne K (.ref D) (.type "ValueError") = some true := by
  unfold PySem.W.kitOne
  rw [if_neg (by simp)]
  unfold PySem.W.kitCls
  have m : PySem.W.kitMeta "ValueError" = true := by decide +kernel
  simp only [m, if_true]
  exact h
def rIsXT (K : PySem.W.Frag) (a : Addr) (cls : Value) (d : Option Addr) : List V → Hp → VK → Prop := fun xs H Q => ∃ (D : Addr), xs = [.ref a, .ty "ValueError"] ∧ cls = .ref D ∧ ExcC K D ∧ (d = none ∨ ∃ dd fv, d = some dd ∧ H dd = some (.xd fv)) ∧ PySem.W.kitOne K (.ref D) (.type "ValueError") = some true ∧ Q (.bl true) H
theorem call_isXT {X : Cx} {a : Addr} {oe : Obj} {cls : Value} {d : Option Addr} {pn : List (Addr × Obj)} (hz : L2N.Zn cls d oe) (hf : ∃ vs, oe.data = .fields vs) : CallR (X.suite a ((a, oe) :: pn)) (.builtin "isinstance") (rIsXT X.K a cls d) := fun {pins s σ H xs us Q} I r h => by
  obtain ⟨D, rfl, hD, C, hd, e, q⟩ := h
  cases r with
  | cons rx rr => cases rr with
    | cons rt rr =>
      cases rr
      cases rx
      cases rt
      obtain ⟨hget, _⟩ := I.pin (a, oe) (List.mem_append_left _ List.mem_cons_self)
      obtain ⟨vs, hv⟩ := hf
      obtain ⟨cdD, hcD, _⟩ := PySem.W.any_some C.hd
      have hcl : (PySem.W.clsIn X.K D).isSome = true := by rw [hcD]; rfl
      have nc : PySem.W.notCls oe = true := by unfold PySem.W.notCls; rw [hv] <;> rfl
      have fin : ∀ {od : Option Obj}, PySem.W.InstAt s.heap a oe D od → wpAny (model (X.suite a ((a, oe) :: pn)).prog (X.suite a ((a, oe) :: pn)).w) (X.suite a ((a, oe) :: pn)).A (call (.builtin "isinstance") [.ref a, .type "ValueError"]) (EP (X.suite a ((a, oe) :: pn)) pins σ Q) (X.suite a ((a, oe) :: pn)).xe s := fun J =>
        PySem.W.kia_one (PySem.W.kitx_exc hcl C.hg C.hk C.hs C.ha C.hn C.ht C.hm) I.kIn J e (fun z => nomatch z) fun tk => ⟨.bl true, H, I.kept (t' := tk) fun _ _ z => z, rfl, q⟩
      rcases hd with hd | ⟨dd, fv, hd, hx⟩
      · exact fin (od := none) ⟨hget, hz.zc.1.trans hD, nc, by rw [hz.zc.2, hd]; trivial⟩
      · have ok : ObjOk X.prog X.w H s.heap dd (.xd fv) := I.hok dd _ hx
        obtain ⟨mA, hns, _⟩ := ok
        obtain ⟨od, ho, _⟩ := lookIn_ns hns
        exact fin (od := some od) ⟨hget, hz.zc.1.trans hD, nc, by rw [hz.zc.2, hd]; exact ho⟩
def dIsEV (kit : Nat → Nat → Option Bool) (i : Nat) (a : Addr) (nm : Nat) (γ : Env) (q : RS → Env → Prop) : Prop := look γ i = .val (.ref a) ∧ (kit nm 0).isSome = true ∧ q (.val (.bl true)) γ
theorem x_isEV {X : Cx} {B : Bs} {ct : Nat → Addr} {a : Addr} {oe : Obj} {cls : Value} {d : Option Addr} {pn : List (Addr × Obj)} {nm : Nat} {x : Str} {fs : Xf} {kit : Nat → Nat → Option Bool} {p p1 p2 pos : Pos} (i : Nat) (hz : L2N.Zn cls d oe) (hf : ∃ vs, oe.data = .fields vs) (hcls : cls = .ref (ct nm)) (xd : XdOk X.K B B.F d fs)
    (hkit : ∀ nm, (kit nm 0).isSome = true → ExcC X.K (ct nm) ∧ PySem.W.kitOne X.K (.ref (ct nm)) (.type "ValueError") = some true) (hm : X.mg "isinstance" = none) (ht : X.mg "ValueError" = none)
    (hN : X.N[i]? = some x := by rfl) (hv : Vis X.env.scope x := by first | exact Or.inl rfl | exact Or.inr (Or.inl rfl) | exact Or.inr (Or.inr rfl)) (hd : (x == ("__debug__" : Str)) = false := by decide) (hcd : (x == ("__classdict__" : Str)) = false := by decide)
    (hg : Gl X "isinstance" := by rfl) (hgt : Gl X "ValueError" := by rfl) (hbt : bootBuiltins "ValueError" = some (.type "ValueError") := by decide +kernel)
    (s1 : starEach (.Name x p1 :: [.Name "ValueError" p2]) X.env = (false, eval (.Name x p1) X.env) :: starEach [.Name "ValueError" p2] X.env := by rfl) (s2 : starEach (.Name "ValueError" p2 :: []) X.env = (false, eval (.Name "ValueError" p2) X.env) :: starEach [] X.env := by rfl) (hpl : (backTo pos (starEach [.Name "ValueError" p2] X.env)).any (·.1) = false := by rfl) :
    XE (X.suite a ((a, oe) :: pn)) B (.Call (.Name "isinstance" p) [.Name x p1, .Name "ValueError" p2] [] pos) (tCB (rIsXT X.K a cls d) (tCons (tVar i) (tCons (tC (.ty "ValueError")) tNil))) (dIsEV kit i a nm) :=
  ⟨pe_callB (X := X.suite a ((a, oe) :: pn)) (call_isXT hz hf) hg hm (by decide +kernel) (pa_cons (pe_var (X := X.suite a ((a, oe) :: pn)) hN hv hd hcd) (pa_cons (pe_bltn (X := X.suite a ((a, oe) :: pn)) hgt ht hbt rfl (by decide) (by decide)) pa_nil s2) s1) (by decide) (by decide) s1 hpl, fun F H σ γ Q q R ⟨h1, h2, h3⟩ k => by
  obtain ⟨T, hk⟩ := hkit nm h2
  obtain ⟨v, hs, r⟩ := R.val h1
  cases r
  have hx : d = none ∨ ∃ dd fv, d = some dd ∧ H dd = some (.xd fv) := by
    cases d with
    | none => exact .inl rfl
    | some dd =>
      cases fs with
      | none => exact xd.elim
      | some l =>
        obtain ⟨fv, x1, _⟩ := xd
        exact .inr ⟨dd, fv, rfl, R.fh _ _ (R.b2 _ _ x1)⟩
  exact ⟨_, hs, ct nm, rfl, hcls, T, hx, hk, k _ F H γ (.val (.bl true)) R (Evl.Ex.refl F) (.bl true) h3⟩⟩
end DL

set_option Elab.async false
set_option linter.all false
set_option maxRecDepth 100000
set_option maxHeartbeats 2000000
/-! A comprehension without tests, and all(..), where an exception is handled. Own work. -/
namespace DL
open PySem PySem.Spec PyProof.Rows L2
open L2H (Hot1 HotC PIH TurnH)
/-- a comprehension's block where an exception is handled: what is pinned stays pinned -/
abbrev hotBlk (X : Cx) (s : Shared) (H : Hp) (sc : Scope) (ce : PySem.Env) (fp : List Addr) : Cx := { X.blk s H sc ce fp with pn := X.pn }
section
variable {X : Cx} {s0 : Shared} {H0 : Hp} {sc : Scope} {ce : PySem.Env} {fp : List Addr} {τ : L2.St}
theorem hot_pins {H : Hp} {s : Shared} (J : Inv (X.blk s0 H0 sc ce fp) [] τ H s)
    (h : ∀ p ∈ X.pn, s.heap.get? p.1 = some p.2 ∧ H p.1 = none ∧ p.1 ≠ ce.locals ∧ p.1 ∉ frs X.stack ∧ ∀ v, p.2.data ≠ .cell v) : Inv (hotBlk X s0 H0 sc ce fp) [] τ H s where
  ok := by have k := J.ok; cases k; constructor <;> assumption
  os := J.os
  bare := J.bare
  base := J.base
  loc := J.loc
  cell := J.cell
  free := J.free
  freeC := J.freeC
  pin := fun p hp => h p (by simpa using hp)
  hok := J.hok
  len := J.len
/-- between two turns: the block, the iterator's place, its objects untracked -/
structure Mid (X : Cx) (s0 : Shared) (H0 : Hp) (sc : Scope) (ce : PySem.Env) (fp : List Addr) (τ : L2.St) (tn : Nat → Heap → Prop) (i : Nat) (H : Hp) (s : Shared) : Prop where
  here : Inv (hotBlk X s0 H0 sc ce fp) [] τ H s
  turn : tn i s.heap
  off : ∀ b ∈ fp, H b = none
/-- the iterator's objects are none of the pinned ones -/
def Apart (X : Cx) (fp : List Addr) : Prop := ∀ b ∈ fp, ∀ p ∈ X.pn, p.1 ≠ b
theorem foot {H : Hp} {s : Shared} (J : Inv (hotBlk X s0 H0 sc ce fp) [] τ H s) (ap : Apart X fp) (off : ∀ b ∈ fp, H b = none) : ∀ b ∈ fp, FpOk (hotBlk X s0 H0 sc ce fp) [] H b := by
  intro b hb
  have k := J.ok.exf b hb
  refine ⟨off b hb, k.1, J.ok.exfs b hb, .inl hb, k.2, fun p hp => ap b hb p (by simpa using hp)⟩
/-- a turn's end is a new middle -/
theorem Mid.next {H' : Hp} {s s' : Shared} {τ' : L2.St} {vs : List Nat} {tg : Expr} {It' : It} {it : Addr} {tn : Nat → Heap → Prop} {i : Nat} (T : TurnH X.prog X.w X.K tg It' fp it tn) (st : tn i s.heap)
    (J : Inv (hotBlk X s0 H0 sc ce fp) ([] ++ pinsAt fp s.heap) τ' H' s') (hw : wipe τ' vs = τ) : Mid X s0 H0 sc ce fp τ tn i H' s' := by
  have held : ∀ b ∈ fp, ∀ o, s.heap.get? b = some o → s'.heap.get? b = some o ∧ H' b = none := fun b hb o e => by
    have q := J.pin (b, o) (List.mem_append.mpr (.inr (by simpa using mem_pinsAt hb e)))
    exact ⟨q.1, q.2.1⟩
  have free : Inv (hotBlk X s0 H0 sc ce fp) [] τ' H' s' := J.unpinned
  refine ⟨free.weak (by rw [← hw, wipe_length]) fun j v e => ?_, T.keep i _ _ st fun b hb o e => (held b hb o e).1, fun b hb => ?_⟩
  · rw [← hw] at e
    exact (wipe_some e).1
  · obtain ⟨o, e, _⟩ := T.obj i _ st b hb
    exact (held b hb o e).2
/-- the end of the walk: the block is left -/
theorem Mid.leave {pins : List (Addr × Obj)} {σ : L2.St} {H1 : Hp} {s1 : Shared} (I : Inv X pins σ H0 s0) (hf : ∀ b ∈ fp, FpOk X pins H0 b) (hL : ce.locals = s0.heap.objs.size)
    (J : Inv (hotBlk X s0 H0 sc ce fp) [] τ H1 s1) : Inv X pins σ H1 s1 ∧ (∃ m, s1.heap.Ns s0.heap.objs.size m) ∧ FpOk X pins H1 s0.heap.objs.size := by
  have fr : H1 s0.heap.objs.size = none := by
    have q : H1 ce.locals = none := J.free
    rwa [hL] at q
  obtain ⟨m, hm, _⟩ := J.loc
  have hm : s1.heap.Ns ce.locals m := hm
  rw [hL] at hm
  refine ⟨I.call' (ch := fp) J.os J.base J.hok J.bare fun b hb => ?_, ⟨m, hm⟩, I.fpOk (Nat.le_refl _) fr⟩
  obtain ⟨_, a, _, c, d, e⟩ := hf b hb
  exact ⟨c, a, d, e⟩
variable {elt tg iter : Expr} {pos : Pos} {g : TG} {te : TE}
/-- the walk of the block: from a middle to the end -/
theorem hot_walk {D it : Addr} {It' : It} {tn : Nat → Heap → Prop} {vs : List Nat} {W : Nat → Nat → Hp → Prop} {P : Hp → Prop} {R : Result → Shared → Prop} {i m : Nat} {H : Hp} {s : Shared}
    (hc : HotC X) (T : TurnH X.prog X.w X.K tg It' fp it tn) (ap : Apart X fp) (hg : PG (hotBlk X s0 H0 sc ce fp) tg g) (he : PE (hotBlk X s0 H0 sc ce fp) elt te)
    (turns : ∀ i m H, W i m H → (It'.stop i H ∧ P H) ∨ (It'.go i H ∧ ∃ Nx : Hp → Prop, (∀ H', Nx H' → ∃ m', m' < m ∧ W (i + 1) m' H') ∧ ∀ x H', It'.yld i H x H' → g x τ H' fun σ2 H2 => wipe σ2 vs = τ ∧ tYes σ2 H2 fun b H3 =>
      if b = true then te σ2 H3 fun y H4 => ∃ acc, H4 D = some (.lst acc) ∧ acc.length < sizeLine ∧ Nx (upd H4 D (.lst (acc ++ [y]))) else Nx H3))
    (done : ∀ H1 s1, Inv (hotBlk X s0 H0 sc ce fp) [] τ H1 s1 → P H1 → R (.ok .next) s1)
    (start : Mid X s0 H0 sc ce fp τ tn i H s) (w : W i m H) : codeAny (model X.prog X.w) X.A (.compLoop (.ListComp elt [⟨tg, iter, [], 0⟩] sc pos) 0 (.ref it) (.ref D) ce) R s := by
  have hcb : HotC (hotBlk X s0 H0 sc ce fp) := hc
  refine compLoop_any (fun m s => ∃ i H, Mid X s0 H0 sc ce fp τ tn i H s ∧ W i m H) (fun m s hm => ?_) m ⟨i, H, start, w⟩
  clear start w
  obtain ⟨i, H, M, w⟩ := hm
  have F := foot M.here ap M.off
  rcases turns i m H w with ⟨end_, p⟩ | ⟨more, Nx, dec, go⟩
  · exact thnF (T.done (hotBlk X s0 H0 sc ce fp) rfl rfl rfl hcb i [] s τ H (fun _ _ => False) M.here F M.turn end_) fun r s1 ⟨hr, J⟩ => by
      cases hr
      exact done H s1 J p
  · refine thnF (T.item (hotBlk X s0 H0 sc ce fp) rfl rfl rfl hcb i [] s τ H (fun _ _ => False) M.here F M.turn more) fun r s1 ⟨u, hr, nx⟩ => ?_
    cases hr
    refine thnF nx fun _ s2 ⟨x, H2, J2, rx, yx, st2, off2⟩ => ?_
    have J2p := J2.pinned (foot J2 ap off2) (T.obj _ _ st2)
    refine thnF (hg.run _ s2 τ H2 x u _ J2p rx (go x H2 yx)) fun _ s3 ⟨σ3, H3, J3, hw3, q3⟩ => ?_
    refine wpAny_tests_nil ?_
    have q3 : te σ3 H3 _ := q3
    show wpAny _ X.A (eval elt ce) _ _ _
    refine thnF (he.run _ s3 σ3 H3 _ J3 q3) fun v s4 ⟨y, H4, J4, ry, acc, hD, small, nx4⟩ => ?_
    refine app_ok (X := hotBlk X s0 H0 sc ce fp) J4 hD small ry fun s5 J5 => ?_
    obtain ⟨m5, lt5, w5⟩ := dec _ nx4
    exact ⟨m5, lt5, i + 1, _, Mid.next (vs := vs) T st2 J5 hw3, w5⟩
end
section
variable {X : Cx}
theorem pe_lcH {elt tg iter : Expr} {scope : Scope} {own : List (Str × Nat)} {pos : Pos} {wi : TI} {g : TG} {te : TE} (hc : HotC X) (nd : X.N.Nodup) (walk : PIH X tg iter wi) (blk : BlkOk X.N X.env.scope scope own)
    (hg : ∀ (s : Shared) (H : Hp) (C : Addr) (cl : List (Str × Addr)) (fp : List Addr), PG (hotBlk X s H scope (compEnvC scope cl C X.env) fp) tg g)
    (he : ∀ (s : Shared) (H : Hp) (C : Addr) (cl : List (Str × Addr)) (fp : List Addr), PE (hotBlk X s H scope (compEnvC scope cl C X.env) fp) elt te)
    (hs : ∀ x, foldedSetIterable iter X.env x = pure x := by intro _; rfl) : PE X (.ListComp elt [⟨tg, iter, [], 0⟩] scope pos) (tLc wi g tYes te (own.map (·.2))) := by
  constructor
  intro pins s σ H Q I want
  have caught : ∀ y ∈ scope.names, y.2 = .free → ∃ c, X.env.cells.lookup y.1 = some c := by
    intro y hy hk
    exact I.ok.has y.1 (blk.free y hy hk)
  rw [eval_ListComp]
  have places : ∀ y ∈ scope.names, y.2 = .local → scope.names.lookup y.1 = some .local := fun y hy hk => hk ▸ blk.uniq y hy
  refine wpAny_comprehension_free (use := none) rfl hs (closure_ok caught) blk.kind places ?_
  refine thn (walk.run pins s σ H _ I want) fun xv sA hA => thn hA fun itv sB hB => ?_
  obtain ⟨it, fp, tn, It', HB, rfl, IB, T, stB, fB, need⟩ := hB
  refine wpAny_newObj_type (newEnv_comp ?_) (Nat.zero_le sizeLine)
  -- the new list stands at D, the block's names at C
  obtain ⟨D, eD⟩ : ∃ D, D = sB.heap.objs.size := ⟨_, rfl⟩
  rw [← eD]
  obtain ⟨W, ⟨m0, w0⟩, turns⟩ := need D (IB.hok.fresh (Nat.le_of_eq eD.symm))
  obtain ⟨sC, eC⟩ : ∃ t : Shared, t = { sB with heap := sB.heap.push { cls := .type "list", data := .seq ([] : List Value).toArray } } := ⟨_, rfl⟩
  have kC : ∀ b o, sB.heap.get? b = some o → sC.heap.get? b = some o := fun b o e => by rw [eC]; exact Heap.get?_push_of_some _ e
  have IC : Inv X pins σ (upd HB D (.lst [])) sC := by
    have new : ObjOk X.prog X.w (upd HB D (.lst [])) sC.heap D (.lst []) := ⟨Nat.zero_le _, [], 0, .nil, by rw [eC, eD]; exact Heap.get?_push_size _ rfl⟩
    rw [eC] at kC new ⊢
    exact IB.laid (t' := sB.toks) kC (Nat.le_of_eq eD.symm) new
  have lC : sC.heap.objs.size = sB.heap.objs.size + 1 := by rw [eC]; exact Heap.size_push ..
  have inB : ∀ b ∈ fp, b < sB.heap.objs.size := fun b hb => let ⟨_, e, _⟩ := T.obj 0 _ stB b hb; Heap.lt_size e
  have fC : ∀ b ∈ fp, FpOk X pins (upd HB D (.lst [])) b ∧ b < sC.heap.objs.size := fun b hb => by
    obtain ⟨q0, q⟩ := fB b hb
    have lt := inB b hb
    exact ⟨⟨by rw [upd_ne (Nat.ne_of_lt (by rw [eD]; exact lt))]; exact q0, q⟩, by rw [lC]; exact Nat.lt_succ_of_lt lt⟩
  have ap : Apart X fp := fun b hb p hp => (fB b hb).2.2.2.2.2 p (List.mem_append_left _ hp)
  rw [← eC]
  obtain ⟨cl, ecl⟩ : ∃ cl, cl = cellsFrom (sC.heap.objs.size + 1) scope.names (cloFrom X.env.cells scope.names []) := ⟨_, rfl⟩
  have J0 := block_start IC blk nd fC
  rw [← ecl] at J0
  obtain ⟨sD, eDD⟩ : ∃ t : Shared, t = { sC with heap := pushCells (sC.heap.push { cls := .type "dict", data := .dict #[] }) scope.names } := ⟨_, rfl⟩
  have kD : ∀ b o, sC.heap.get? b = some o → sD.heap.get? b = some o := fun b o e => by
    rw [eDD]
    exact pushCells_keeps _ _ _ _ (Heap.get?_push_of_some _ e)
  rw [← eDD] at J0
  have J := hot_pins J0 fun p hp => by
    obtain ⟨q1, q2, q3, q4, q5⟩ := IC.pin p (List.mem_append_left _ hp)
    exact ⟨kD _ _ q1, q2, Nat.ne_of_lt (Heap.lt_size q1), fun hm => (List.mem_cons.mp (IC.stkSub _ hm)).elim q3 q4, q5⟩
  have st0 : tn 0 sD.heap := T.keep 0 _ _ stB fun b _ o e => kD b o (kC b o e)
  have M : Mid X sC (upd HB D (.lst [])) scope (compEnvC scope cl sC.heap.objs.size X.env) fp (wipe σ (own.map (·.2))) tn 0 (upd HB D (.lst [])) sD := ⟨J, st0, fun b hb => (fC b hb).1.1⟩
  have go : codeAny (model X.prog X.w) X.A (.compLoop (.ListComp elt [⟨tg, iter, [], 0⟩] scope pos) 0 (.ref it) (.ref D) (compEnvC scope cl sC.heap.objs.size X.env)) (compPost (model X.prog X.w) X.A X.xe none (EP X pins σ Q) (.ref D) sC.heap.objs.size) sD :=
    hot_walk (vs := own.map (·.2)) hc T ap (hg _ _ _ _ _) (he _ _ _ _ _) turns (fun H1 s1 J1 p => by
      obtain ⟨I1, ⟨nm, hnm⟩, f0, f1, f2, f3, f4, f5⟩ := Mid.leave IC (fun b hb => (fC b hb).1) rfl J1
      refine ⟨nm, hnm, fun h' same => ⟨.ref D, H1, I1.turned (t' := s1.toks) (fun b o nb e => ?_) f0 f1 f3 f4 f5, rfl, p⟩⟩
      rw [same.2 b nb]
      exact e) M w0
  rw [ecl] at go
  rw [eDD] at go
  exact codeAny_compStart_list go (T.self X.A 0 _ _ _ (by rw [eDD] at st0; exact st0) go)
end
/-! ### all(..) -/
section
variable {prog : Program} {w : World} {A : Around} {E : Value → Shared → Prop} {s : Shared} {x1 : Addr}
/-- a StopIteration is made and raised while x1 is handled: what was there is kept -/
theorem stop_hot {α : Type} {Q : α → Shared → Prop} (hot : HotX.HotAt A x1 s.heap)
    (out : ∀ (e : Addr) (h : Heap), (∀ b o, s.heap.get? b = some o → h.get? b = some o) → (∃ o, h.get? e = some o ∧ o.cls = .type "StopIteration") → E (.ref e) { s with heap := h }) :
    wpAny (model prog w) A (newExc (.type "StopIteration") [] >>= fun e => (raiseNew e : Sem α)) Q E s := by
  have two : ∀ {o1 o2 : Obj} b o, s.heap.get? b = some o → ((s.heap.push o1).push o2).get? b = some o := fun b o q => Heap.get?_push_of_some _ (Heap.get?_push_of_some _ q)
  obtain ⟨hh, o, vs, at1, dt1, cx1⟩ := hot
  unfold newExc newTuple
  refine wpAny_bind (wpAny_bind (wpAny_newObj_type (wpAny_bind (m := firstArgMember (.type "StopIteration") []) (wpAny_of_eq (a := Value.none) (by first | rfl | (unfold firstArgMember; rfl)) (wpAny_newObj_type ?_ (by size_fits)))) (by size_fits)))
  refine HotX.raiseNew_hot ⟨hh, o, vs, two _ _ at1, dt1, cx1⟩ (Nat.ne_of_lt (Heap.lt_size (Heap.get?_push_of_some _ at1))) (Heap.get?_push_size _ rfl) rfl (by rw [Array.size_append]; exact Nat.lt_of_lt_of_le (by decide : 2 < 6) (Nat.le_add_right 6 _)) (out _ _ (fun b u q => ?_) ⟨_, Heap.get?_update_self _ (Heap.get?_push_size _ rfl) rfl, rfl⟩)
  rw [Heap.get?_update_other _ _ (Nat.ne_of_gt (Heap.lt_size (Heap.get?_push_of_some _ q)))]
  exact two b u q
theorem list_done_hot {it l : Addr} {i : Nat} {items : Array Value} {Q : Option Value → Shared → Prop} (hot : HotX.HotAt A x1 s.heap) (other : x1 ≠ it) (li : s.heap.IsListIter it l i) (ls : s.heap.IsList l items) (past : items[i]? = none)
    (k : ∀ h, (∀ b o, b ≠ it → s.heap.get? b = some o → h.get? b = some o) → Q none { s with heap := h }) : wpAny (model prog w) A (pyNext (.ref it)) Q E s := by
  have ty := li.typeIs
  obtain ⟨oi, hi, _, di⟩ := li
  obtain ⟨ol, hl, _, _, dl⟩ := ls
  have fld : ∀ {A' : Around} {j : Nat} {v : Value} {Q' : Value → Shared → Prop} {E' : Value → Shared → Prop}, (#[Value.ref l, Value.int i 0])[j]? = some v → Q' v s → wpAny (model prog w) A' (field (.ref it) j) Q' E' s := fun h q => wpAny_field hi di h q
  have body := entry_listiter_next
  unfold pyNext
  refine wpAny_bind (wpAny_attempt (wpAny_callSpecial?_slot ty slot_listiter_next (wpAny_call_entry slot_listiter_next ty body ?_ (args_listiter_next _))))
  show wpAny _ _ (field (.ref it) 0 >>= fun x => _) _ _ s
  refine wpAny_bind (fld rfl ?_)
  dsimp only
  have nn : ((#[Value.ref l, Value.int (↑i) 0][0] : Value) == Value.none) = false := rfl
  simp only [nn, Bool.false_eq_true, ↓reduceIte]
  refine wpAny_bind (fld rfl (wpAny_bind (wpAny_seqItems hl dl ?_)))
  simp only [Int.toNat_natCast, past]
  refine wpAny_bind (wpAny_rule (wpAny_bind (wpAny_setField hi di (by simp) ?_)))
  have keep : ∀ b o, b ≠ it → s.heap.get? b = some o → (s.heap.update it (Obj.mapFields (·.setIfInBounds 0 .none))).get? b = some o := fun b o ne q => by
    rw [Heap.get?_update_other _ _ (Ne.symm ne)]
    exact q
  obtain ⟨hh, o1, vs, at1, d1, c1⟩ := hot
  refine stop_hot (A := A.in1) ⟨hh, o1, vs, keep _ _ other at1, d1, c1⟩ fun e h up ⟨oe, he, ce⟩ => ?_
  exact wpAny_bind (wpAny_isInstance (b := true) ⟨oe, he, ce⟩ isSubtype_stop (wpAny_pure (k h fun b o ne q => up b o (keep b o ne q))))
/-- the walk of a list, x1 handled -/
theorem list_walk_hot (hh : A.handled = some (.ref x1)) {it l : Addr} (nl : l ≠ it) (n1 : x1 ≠ it) (items : Array Value) :
    Walks prog w A it [it, l, x1] [it] items.size (fun j v => items[j]? = some v) (fun j h => HotX.HotAt A x1 h ∧ h.IsListIter it l j ∧ h.IsList l items) := by
  constructor
  · intro b hb
    exact List.mem_cons.mpr (.inl (List.mem_singleton.mp hb))
  · rintro j h h' ⟨⟨_, o, vs, e, d, c⟩, li, ls⟩ keep
    exact ⟨⟨hh, o, vs, keep x1 (by simp) o e, d, c⟩, li.at (keep it (by simp)), ls.at (keep l (by simp))⟩
  · rintro j s Q E lt ⟨⟨_, o, vs, e, d, c⟩, li, ls⟩ k
    refine wpAny_pyNext_list_item li ls (Array.getElem?_eq_getElem lt) fun h li' same => ?_
    have all := same.extBut
    exact k _ h s.toks (Array.getElem?_eq_getElem lt) ⟨⟨hh, o, vs, all x1 o n1 e, d, c⟩, li', ls.extBut all nl⟩ fun b u nb q => all b u (fun z => nb (z ▸ List.mem_singleton.mpr rfl)) q
  · rintro s Q E ⟨hot, li, ls⟩ k
    exact list_done_hot hot n1 li ls (Array.getElem?_eq_none (Nat.le_refl _)) fun h up => k h s.toks fun b u nb q => up b u (fun z => nb (z ▸ List.mem_singleton.mpr rfl)) q
  · rintro j s Q E ⟨_, li, _⟩ q
    exact wpAny_pyIter_listiter li q
end
theorem cr_allH {X : Cx} (hc : HotC X) : CallR X (.builtin "all") (rAll X.K) := by
  rintro pins s σ H _ us Q I r ⟨a, bs, rfl, sq, q⟩
  obtain ⟨p, ⟨hh, vs, dp, cp⟩, mp⟩ := hc
  have atp := (I.pin p (List.mem_append.mpr (.inl mp))).1
  have ap : p.1 ≠ s.heap.objs.size := Nat.ne_of_lt (Heap.lt_size atp)
  obtain ⟨its, rv, pl, _⟩ := I.list sq
  have eb := rv.bls
  rw [Vals.ref1 r]
  refine call_all_walk (iter_any pl.isList fun t et ⟨li, ls⟩ na => ?_)
  subst et
  refine ⟨_, _, _, _, _, _, _, rfl, list_walk_hot (A := X.A.in1) (x1 := p.1) hh na ap its.toArray, ⟨⟨hh, p.2, vs, Heap.get?_push_of_some _ atp, dp, cp⟩, li, ls⟩, truth_bools eb, fun h tk up => ?_⟩
  have same : ∀ b u, s.heap.get? b = some u → h.get? b = some u := fun b u e => up b u (fun z => Nat.lt_irrefl _ (List.mem_singleton.mp z ▸ Heap.lt_size e)) (Heap.get?_push_of_some _ e)
  have val : (List.range its.toArray.size).all (fun j => bs.getD j false) = bs.all id := by
    rw [← L2.all_range, eb]
    simp
  exact ⟨.bl (bs.all id), H, I.kept same, congrArg Value.bool val, q⟩
section
variable {X : Cx} {B : Bs} {elt tg iter a : Expr} {scope : Scope} {p pos : Pos} {wi : TI} {di : DI} {g : TG} {dg : DG} {te : TE} {de : DE} {ta : TA} {da : DA} {ix : List Nat}
structure XIH (X : Cx) (B : Bs) (tg iter : Expr) (wi : TI) (di : DI) : Prop where
  pi : PIH X tg iter wi
  si : SI X.K B wi di
theorem i_r1H (hm : X.mg "range" = none) (h : XA X B [a] ta da) (hg : Gl X "range" := by rfl) (hs : starEach [a] X.env = [(false, eval a X.env)] := by rfl) : XIH X B tg (.Call (.Name "range" p) [a] [] pos) (iRng1 ta) (dIR1 da) := ⟨L2H.pi_range1H hg hm h.pa hs, si_range1 h.sa⟩
/-- the tests (none) stand in the list of arguments for the printed text's sake -/
theorem x_lcH (own : List (Str × Nat)) (hc : HotC X) (nd : X.N.Nodup) (hi : XIH X B tg iter wi di) (blk : BlkOk X.N X.env.scope scope own)
    (hg : ∀ (B : Bs) (s : Shared) (H : Hp) (C : Addr) (cl : List (Str × Addr)) (fp : List Addr), XG (hotBlk X s H scope (compEnvC scope cl C X.env) fp) B tg g dg ix)
    (ht : ∀ (B : Bs) (s : Shared) (H : Hp) (C : Addr) (cl : List (Str × Addr)) (fp : List Addr), XTs (hotBlk X s H scope (compEnvC scope cl C X.env) fp) B [] tYes dYes)
    (he : ∀ (B : Bs) (s : Shared) (H : Hp) (C : Addr) (cl : List (Str × Addr)) (fp : List Addr), XE (hotBlk X s H scope (compEnvC scope cl C X.env) fp) B elt te de) (hix : ∀ i ∈ ix, i ∈ own.map (·.2)) (hs : ∀ x, foldedSetIterable iter X.env x = pure x := by intro _; rfl) :
    XE X B (.ListComp elt [⟨tg, iter, [], 0⟩] scope pos) (tLc wi g tYes te (own.map (·.2))) (dLc di dg dYes de (own.map (·.2))) where
  pe := pe_lcH hc nd hi.pi blk (fun s H C cl fp => (hg B s H C cl fp).pg) (fun s H C cl fp => (he B s H C cl fp).pe) hs
  se := se_lc hi.si (fun B => (hg B X.s_0 X.H_0 0 [] []).sg) (fun B => (ht B X.s_0 X.H_0 0 [] []).st) (fun B => (he B X.s_0 X.H_0 0 [] []).se) hix
end
end DL


set_option Elab.async false
set_option linter.all false
set_option maxRecDepth 100000
set_option maxHeartbeats 4000000
namespace K17
open PySem PySem.Spec PyProof.Rows L2 DL
/-! ### pools -/
abbrev intsD (ns : List Int) : List D := ns.map D.int
def Pool (ms : List Int) : Prop := (∀ x ∈ ms, 0 ≤ x) ∧ 0 < ms.length ∧ ms.length ≤ 64
theorem at_one {α : Type} {x y : α} {xs : List α} : atI (x :: y :: xs) 1 = some y := atI_nat (j := 1) rfl
theorem kb_tb : kitB "tuple" "bool" = some false := rfl
theorem kb_ts : kitB "tuple" "str" = some false := rfl
/-! ### values: numbers (false) or words (true) -/
abbrev Vt : Bool → Type
  | false => Int
  | true => Str
def vD : (w : Bool) → Vt w → D
  | false, n => .int n
  | true, s => .str s
def vlt : (w : Bool) → Vt w → Vt w → Bool
  | false, a, b => decide ((show Int from a) < (show Int from b))
  | true, a, b => slt a b
instance vdec : (w : Bool) → DecidableEq (Vt w)
  | false => fun a b => inferInstanceAs (Decidable ((show Int from a) = (show Int from b)))
  | true => fun a b => inferInstanceAs (Decidable ((show Str from a) = (show Str from b)))
def vK : (w : Bool) → Vt w → Key
  | false, n => .inl n
  | true, s => .inr s
theorem key_vD {w : Bool} {v : Vt w} : keyD (vD w v) = some (vK w v) := by cases w <;> rfl
theorem key_int {i : Int} : keyD (.int i) = some (.inl i) := rfl
def dom (w : Bool) : Str := if w then "word" else "number"
theorem vD_f {n : Vt false} : vD false n = .int n := rfl
theorem vD_t {n : Vt true} : vD true n = .str n := rfl
theorem dom_f : dom false = "number" := rfl
theorem dom_t : dom true = "word" := rfl
def letters : Str := "abcdefghijklmnopqrstuvwxyz"
def isW (s : Str) : Bool := decide (1 ≤ s.length) && (decide (s.length ≤ 8) && s.cps.toList.all fun c => decide (c ∈ letters.cps.toList))
def isV : (w : Bool) → Vt w → Bool
  | false, n => decide (-999999999 ≤ (show Int from n)) && decide ((show Int from n) ≤ 999999999)
  | true, s => isW s
/-- not too long to look at -/
def vS : (w : Bool) → Vt w → Prop
  | false, _ => True
  | true, s => s.length ≤ 1000
/-- a number or a text, of any kind -/
def vlOk : D → Prop
  | .int _ => True
  | .str s => s.length ≤ 1000 ∧ PyData.strOk s = true
  | _ => False
/-- is it a value of the domain -/
def isVD (w : Bool) : D → Bool
  | .int n => !w && isV false n
  | .str s => w && isV true s
  | _ => false
/-! ### entries -/
abbrev Pr (w : Bool) := Vt w × Int
def pD (w : Bool) (e : Pr w) : D := .tup [vD w e.1, .int e.2]
abbrev psD (w : Bool) (es : List (Pr w)) : List D := es.map (pD w)
abbrev fsts {w : Bool} (es : List (Pr w)) : List (Vt w) := es.map Prod.fst
abbrev snds {w : Bool} (es : List (Pr w)) : List Int := es.map Prod.snd
/-- ascending by value -/
def Up (w : Bool) (es : List (Pr w)) : Prop := es.Pairwise fun a b => vlt w a.1 b.1 = true
/-- are the codes ascending too? -/
def upc {w : Bool} (es : List (Pr w)) : Bool := decide (es.Pairwise fun a b => a.2 < b.2)
structure Ents (w : Bool) (es : List (Pr w)) (room : Int) : Prop where
  len : es.length ≤ 120
  up : Up w es
  nd : (snds es).Nodup
  val : ∀ e ∈ es, isV w e.1 = true
  cod : ∀ e ∈ es, 0 ≤ e.2 ∧ e.2 ≤ 9999999
  inr : (es.filter fun e => decide (e.2 < room)).Pairwise fun a b => a.2 < b.2
  r0 : 1 ≤ room
  r1 : room ≤ 1000000
/-- what a book keeps -/
def Rl {w : Bool} (es : List (Pr w)) (r : Str) : Prop := (upc es = true → r = "order" ∨ r = "distance" ∨ r = "value") ∧ (upc es = false → r = "same")
def gap (e : Pr false) : Int := e.2 - (e.1 : Int)
/-- the gap that all entries share -/
def eqg : (w : Bool) → List (Pr w) → Option Int
  | true, _ => none
  | false, [] => none
  | false, e :: r => if (r.all fun x => decide (gap x = gap e)) = true then some (gap e) else none
def kpt (w : Bool) (es : List (Pr w)) : Str := if es = [] then "value" else match eqg w es with
  | some g => if g = 0 then "value" else "distance"
  | none => if upc es then "order" else "same"
structure Bk (w : Bool) (room : Int) (es : List (Pr w)) (fs : List (Str × D)) : Prop where
  dm : fs.lookup ("domain" : Str) = some (.str (dom w))
  rm : fs.lookup ("room" : Str) = some (.int room)
  en : fs.lookup ("entries" : Str) = some (.tup (psD w es))
  rl : fs.lookup ("relation" : Str) = some (.str (kpt w es))
  ms : fs.lookup ("MOST" : Str) = none
  co : fs.lookup ("code_of" : Str) = none
  vo : fs.lookup ("value_of" : Str) = none
  cv : ∃ kd, fs.lookup ("code_by_value" : Str) = some (.dct kd) ∧ (∀ v, (vlk kd (vK w v)).isSome = decide (v ∈ fsts es)) ∧ ∀ e ∈ es, vlk kd (vK w e.1) = some (.int e.2)
  vc : ∃ kd, fs.lookup ("value_by_code" : Str) = some (.dct kd) ∧ (∀ c, (vlk kd (.inl c)).isSome = decide (c ∈ snds es)) ∧ ∀ e ∈ es, vlk kd (.inl e.2) = some (vD w e.1)
def str5 (n : Str) : Option Int := if n = "none" then some 0 else if n = "same" then some 1 else if n = "order" then some 2 else if n = "distance" then some 3 else if n = "value" then some 4 else none
/-- nested at most n deep -/
def okS : Nat → D → Prop
  | _, .non => True
  | _, .int _ => True
  | _, .str s => s.length ≤ 1000 ∧ PyData.strOk s = true
  | n + 1, .tup ds => ds.length ≤ 1000 ∧ ∀ d ∈ ds, okS n d
  | _, _ => False
/-- the numbers from low on with the codes 0, 1 .. -/
def cnt (low : Int) (n : Nat) : List (Pr false) := (List.range n).map fun (k : Nat) => ((low + (k : Int) : Int), (k : Int))
def badRoom (room : Int) : Prop := ¬ (1 ≤ room ∧ room ≤ 1000000)
def ltD (t : Bool) (ds : List D) : D := match t with
  | true => .tup ds
  | false => .lst ds
theorem ltD_t {ds : List D} : ltD true ds = .tup ds := rfl
theorem ltD_f {ds : List D} : ltD false ds = .lst ds := rfl
/-! ### bridges -/
def ple (w : Bool) (a b : Pr w) : Bool := vlt w a.1 b.1 || (decide (a.1 = b.1) && decide (a.2 ≤ b.2))
def cd {w : Bool} (b : List (Pr w)) (v : Vt w) : Int := ((b.find? fun e => decide (e.1 = v)).map Prod.snd).getD 0
def cdD {w : Bool} (b : List (Pr w)) (v : Vt w) : D := match b.find? fun e => decide (e.1 = v) with
  | some e => .int e.2
  | none => .non
def bq {w : Bool} (a b : List (Pr w)) : List (Pr false) := (a.filter fun e => decide (e.1 ∈ fsts b)).map fun e => (e.2, cd b e.1)
def brg {w : Bool} (a b : List (Pr w)) : List (Pr false) := (bq a b).mergeSort (ple false)
structure Bg (w : Bool) (a b : List (Pr w)) (fs : List (Str × D)) : Prop where
  f1 : ∃ room g, fs.lookup ("first" : Str) = some (.obj "Book" g) ∧ Bk w room a g ∧ Ents w a room
  f2 : ∃ room g, fs.lookup ("second" : Str) = some (.obj "Book" g) ∧ Bk w room b g ∧ Ents w b room
  pr : fs.lookup ("pairs" : Str) = some (.tup (psD false (brg a b)))
  bk : fs.lookup ("back" : Str) = none
def fs_in_order : FS := fun as p => ∃ (w : Bool) (es : List (Pr w)), as = [.val (.lst (psD w es))] ∧ es.length ≤ 1000 ∧ Up w es ∧ p (.val (.bl (upc es))) as
def fs_told_by_first : FS := fun as p => ∃ (w : Bool) (ps : List (Vt w × D)), as = [.val (.lst (ps.map fun e => D.tup [vD w e.1, e.2]))] ∧ ps.length ≤ 1000 ∧ (∀ e ∈ ps, dOkN 0 (vD w e.1) = true ∧ dOkN 0 e.2 = true) ∧ (ps.map Prod.fst).Nodup ∧ p (.val (.bl true)) as
def fs_kept_by : FS := fun as p => ∃ (w : Bool) (es : List (Pr w)), as = [.val (.lst (psD w es))] ∧ es.length ≤ 1000 ∧ Up w es ∧ (snds es).Nodup ∧ (∀ e ∈ es, isV w e.1 = true) ∧ p (.val (.str (kpt w es))) as
def fs_is_word : FS := fun as p => ∃ s : Str, as = [.val (.str s)] ∧ s.length ≤ 1000 ∧ p (.val (.bl (isW s))) as
def fs_is_value : FS := fun as p => ∃ (w : Bool) (d : D), as = [.val (.str (dom w)), .val d] ∧ vlOk d ∧ p (.val (.bl (isVD w d))) as
def fs_check_room : FSX := fun as p x => ∃ room : Int, as = [.val (.int room)] ∧ (badRoom room → x 4 (some [("room", .int room)]) as) ∧ (¬ badRoom room → p (.val .non) as)
def fs_is_code : FS := fun as p => ∃ c : Int, as = [.val (.int c)] ∧ p (.val (.bl (decide (0 ≤ c) && decide (c ≤ 9999999)))) as
def fs_Book___init__ : FSX := fun as p x => ∃ (w t : Bool) (room : Int) (es0 : List (Pr w)), as = [.own (some 0) (.ins "Book" []), .val (.str (dom w)), .val (.int room), .val (ltD t (psD w es0))] ∧
  ((badRoom room ∧ x 4 (some [("room", .int room)]) as) ∨ ∃ es, es0.Perm es ∧ Ents w es room ∧ ∀ fs, Bk w room es fs → p (.val .non) [.own (some 0) (.ins "Book" fs), .val (.str (dom w)), .val (.int room), .val (ltD t (psD w es0))])
def fs_Book_counted : FSX := fun as p x => ∃ (low room : Int) (n : Nat), as = [.val (.kls "Book"), .val (.int low), .val (.int (low + n - 1)), .val (.int room)] ∧ n ≤ 120 ∧ -1000000000 ≤ low ∧ low ≤ 1000000000 ∧
  ((badRoom room ∧ x 4 (some [("room", .int room)]) as) ∨ (Ents false (cnt low n) room ∧ ∀ fs, Bk false room (cnt low n) fs → p (.val (.obj "Book" fs)) as))
def fs_Book___contains__ : FS := fun as p => ∃ (w : Bool) (room : Int) (es : List (Pr w)) (fs : List (Str × D)) (v : Vt w), as = [.val (.obj "Book" fs), .val (vD w v)] ∧ Bk w room es fs ∧ isV w v = true ∧ p (.val (.bl (decide (v ∈ fsts es)))) as
def fs_Book_code_of : FSX := fun as p x => ∃ (w : Bool) (room : Int) (es : List (Pr w)) (fs : List (Str × D)) (e : Pr w), as = [.val (.obj "Book" fs), .val (vD w e.1)] ∧ Bk w room es fs ∧ isV w e.1 = true ∧ e ∈ es ∧ p (.val (.int e.2)) as
def fs_Book_value_of : FSX := fun as p x => ∃ (w : Bool) (room : Int) (es : List (Pr w)) (fs : List (Str × D)) (c : Int), as = [.val (.obj "Book" fs), .val (.int c)] ∧ Bk w room es fs ∧ Ents w es room ∧ (c ∉ snds es → x 10 (some [("code", .int c)]) as) ∧ ∀ v, (v, c) ∈ es → p (.val (vD w v)) as
def fs_Bridge___init__ : FSX := fun as p x => ∃ (w w' : Bool) (r r' : Int) (a : List (Pr w)) (b : List (Pr w')) (g g' : List (Str × D)), as = [.own (some 0) (.ins "Bridge" []), .val (.obj "Book" g), .val (.obj "Book" g')] ∧ Bk w r a g ∧ Bk w' r' b g' ∧ Ents w a r ∧ Ents w' b r' ∧
  (w ≠ w' → x 11 (some [("second", .str (dom w')), ("first", .str (dom w))]) as) ∧ ∀ (h : w' = w) fs, Bg w a (h ▸ b) fs → p (.val .non) [.own (some 0) (.ins "Bridge" fs), .val (.obj "Book" g), .val (.obj "Book" g')]
def fs_Bridge_keeps : FS := fun as p => ∃ (w : Bool) (a b : List (Pr w)) (fs : List (Str × D)), as = [.val (.obj "Bridge" fs)] ∧ Bg w a b fs ∧ p (.val (.str (kpt false (brg a b)))) as
def fs_Bridge___call__ : FSX := fun as p x => ∃ (w : Bool) (a b : List (Pr w)) (fs : List (Str × D)) (c : Int), as = [.val (.obj "Bridge" fs), .val (.int c)] ∧ Bg w a b fs ∧ (c ∉ snds a → x 10 (some [("code", .int c)]) as) ∧ ∀ v, (v, c) ∈ a → p (.val (cdD b v)) as
def fs_Bridge_back : FSX := fun as p x => ∃ (w : Bool) (a b : List (Pr w)) (fs : List (Str × D)), as = [.val (.obj "Bridge" fs)] ∧ Bg w a b fs ∧ ∀ fs', Bg w b a fs' → p (.val (.obj "Bridge" fs')) as
def fs_l_take : FS := fun as p => ∃ (ms : List Int) (m : Int), as = [.own (some 0) (.lst (intsD ms)), .val (.int m)] ∧ Pool ms ∧ 0 < m ∧ m < 2 ^ 40 ∧
  ∀ d ms', 0 ≤ d → d < m → Pool ms' → p (.val (.int d)) [.own (some 0) (.lst (intsD ms')), .val (.int m)]
def fs_l_samen (n : Nat) : FS := fun as p => ∃ d, as = [.val d, .val d] ∧ okS n d ∧ p (.val (.bl true)) as
abbrev fs_l_same : FS := fs_l_samen 3
def fro_l_same : Nat → FS
  | 0 => fun _ _ => False
  | n + 1 => fs_l_samen n
def fsH_l_same : FS := fun as p => ∃ d, as = [.val d, .val d] ∧ okS 0 d ∧ p (.val (.bl true)) as
def fsG_l_same : FS := fun as p => ∃ d, as = [.val d, .val d] ∧ okS 1 d ∧ p (.val (.bl true)) as
def fs_l_values : FS := fun as p => ∃ (ms : List Int) (w : Bool) (n : Nat), as = [.own (some 0) (.lst (intsD ms)), .val (.str (dom w)), .val (.int (n : Int))] ∧ Pool ms ∧ n ≤ 8 ∧
  ∀ (vs : List (Vt w)) ms', vs.length ≤ 8 → vs.Pairwise (fun a b => vlt w a b = true) → (∀ v ∈ vs, isV w v = true) → Pool ms' → p (.new (.lst (vs.map (vD w)))) [.own (some 0) (.lst (intsD ms')), .val (.str (dom w)), .val (.int (n : Int))]
def fs_l_entries : FS := fun as p => ∃ (ms : List Int) (w : Bool) (vs : List (Vt w)) (t : Int), as = [.own (some 0) (.lst (intsD ms)), .val (.lst (vs.map (vD w))), .val (.int t)] ∧ Pool ms ∧ vs.length ≤ 8 ∧ vs.Pairwise (fun a b => vlt w a b = true) ∧ (∀ v ∈ vs, isV w v = true) ∧ 0 ≤ t ∧ t ≤ 2 ∧
  ∀ (k : Int) (es : List (Pr w)) ms', (∀ r : Int, 1 ≤ r → r ≤ 1000000 → (k = 3 → r = 1) → Ents w es r) → Pool ms' → p (.val (.tup [.int k, .lst (psD w es)])) [.own (some 0) (.lst (intsD ms')), .val (.lst (vs.map (vD w))), .val (.int t)]
def fs_l_room : FS := fun as p => ∃ (ms : List Int) (k : Int), as = [.own (some 0) (.lst (intsD ms)), .val (.int k)] ∧ Pool ms ∧ ∀ (r : Int) ms', 1 ≤ r → r ≤ 1000000 → (k = 3 → r = 1) → Pool ms' → p (.val (.int r)) [.own (some 0) (.lst (intsD ms')), .val (.int k)]
def fs_l_code : FS := fun as p => ∃ (w : Bool) (b : List (Pr w)) (v : Vt w), as = [.val (.lst (psD w b)), .val (vD w v)] ∧ b.length ≤ 1000 ∧ p (.val (cdD b v)) as
def fs_l_pairs : FS := fun as p => ∃ (w : Bool) (a b : List (Pr w)) (r r' : Int), as = [.val (.lst (psD w a)), .val (.lst (psD w b))] ∧ Ents w a r ∧ Ents w b r' ∧ p (.new (.lst (psD false (brg a b)))) as
def fs_l_kept : FS := fun as p => ∃ ps : List (Pr false), as = [.val (.lst (psD false ps))] ∧ Up false ps ∧ (snds ps).Nodup ∧ ps.length ≤ 1000 ∧ p (.val (.str (kpt false ps))) as
def fs_l_no_code : FS := fun as p => ∃ (w : Bool) (a b : List (Pr w)) (fs : List (Str × D)) (c : Int), as = [.val (.obj "Bridge" fs), .val (.int c)] ∧ Bg w a b fs ∧ c ∉ snds a ∧ p (.val (.bl true)) as
def fs_l_right : FS := fun as p => ∃ (w : Bool) (a b : List (Pr w)) (fs : List (Str × D)), as = [.val (.obj "Bridge" fs), .val (.lst (psD w a)), .val (.lst (psD w b))] ∧ Bg w a b fs ∧ p (.val (.bl true)) as
def fs_l_refused : FS := fun as p => ∃ (w w' : Bool) (r r' : Int) (a : List (Pr w)) (b : List (Pr w')) (g g' : List (Str × D)), as = [.val (.obj "Book" g), .val (.obj "Book" g'), .val (.tup [.str (dom w), .str (dom w')])] ∧ w ≠ w' ∧ Bk w r a g ∧ Bk w' r' b g' ∧ Ents w a r ∧ Ents w' b r' ∧ p (.val (.bl true)) as
def fs_l_counted : FS := fun as p => ∃ (ms : List Int), as = [.own (some 0) (.lst (intsD ms))] ∧ Pool ms ∧ ∀ (low : Int) (n : Nat) ms', -50 ≤ low → low ≤ 50 → 100 ≤ n → n ≤ 120 → Pool ms' → p (.new (.lst (psD false (cnt low n)))) [.own (some 0) (.lst (intsD ms'))]
abbrev fs_law : FS := fsLaw
theorem fEq_v {w : Bool} {a b : Vt w} {q : RS → Prop} : fEq (vD w a) (vD w b) q = q (.val (.bl (decide (a = b)))) := by cases w <;> rfl
/-! printed by gen.py: what each def does, on data -/
/-! error classes: 0 ColonnadeError, 1 NoRelation, 2 BadValue, 3 BadDomain, 4 BadRoom, 5 BadCode, 6 Twice, 7 Full, 8 BadBook, 9 NoValue, 10 NoCode, 11 Mismatch -/
def exKit_1 (t : Nat) : Option Bool := match t with
  | 0 => some true
  | 1 => some true
  | 2 => some false
  | 3 => some false
  | 4 => some false
  | 5 => some false
  | 6 => some false
  | 7 => some false
  | 8 => some false
  | 9 => some false
  | 10 => some false
  | 11 => some false
  | _ => none
def exKit_2 (t : Nat) : Option Bool := match t with
  | 0 => some true
  | 1 => some false
  | 2 => some true
  | 3 => some false
  | 4 => some false
  | 5 => some false
  | 6 => some false
  | 7 => some false
  | 8 => some false
  | 9 => some false
  | 10 => some false
  | 11 => some false
  | _ => none
def exKit_3 (t : Nat) : Option Bool := match t with
  | 0 => some true
  | 1 => some false
  | 2 => some false
  | 3 => some true
  | 4 => some false
  | 5 => some false
  | 6 => some false
  | 7 => some false
  | 8 => some false
  | 9 => some false
  | 10 => some false
  | 11 => some false
  | _ => none
def exKit_4 (t : Nat) : Option Bool := match t with
  | 0 => some true
  | 1 => some false
  | 2 => some false
  | 3 => some false
  | 4 => some true
  | 5 => some false
  | 6 => some false
  | 7 => some false
  | 8 => some false
  | 9 => some false
  | 10 => some false
  | 11 => some false
  | _ => none
def exKit_5 (t : Nat) : Option Bool := match t with
  | 0 => some true
  | 1 => some false
  | 2 => some false
  | 3 => some false
  | 4 => some false
  | 5 => some true
  | 6 => some false
  | 7 => some false
  | 8 => some false
  | 9 => some false
  | 10 => some false
  | 11 => some false
  | _ => none
def exKit_6 (t : Nat) : Option Bool := match t with
  | 0 => some true
  | 1 => some false
  | 2 => some false
  | 3 => some false
  | 4 => some false
  | 5 => some false
  | 6 => some true
  | 7 => some false
  | 8 => some false
  | 9 => some false
  | 10 => some false
  | 11 => some false
  | _ => none
def exKit_7 (t : Nat) : Option Bool := match t with
  | 0 => some true
  | 1 => some false
  | 2 => some false
  | 3 => some false
  | 4 => some false
  | 5 => some false
  | 6 => some false
  | 7 => some true
  | 8 => some false
  | 9 => some false
  | 10 => some false
  | 11 => some false
  | _ => none
def exKit_8 (t : Nat) : Option Bool := match t with
  | 0 => some true
  | 1 => some false
  | 2 => some false
  | 3 => some false
  | 4 => some false
  | 5 => some false
  | 6 => some false
  | 7 => some false
  | 8 => some true
  | 9 => some false
  | 10 => some false
  | 11 => some false
  | _ => none
def exKit_9 (t : Nat) : Option Bool := match t with
  | 0 => some true
  | 1 => some false
  | 2 => some false
  | 3 => some false
  | 4 => some false
  | 5 => some false
  | 6 => some false
  | 7 => some false
  | 8 => some false
  | 9 => some true
  | 10 => some false
  | 11 => some false
  | _ => none
def exKit_10 (t : Nat) : Option Bool := match t with
  | 0 => some true
  | 1 => some false
  | 2 => some false
  | 3 => some false
  | 4 => some false
  | 5 => some false
  | 6 => some false
  | 7 => some false
  | 8 => some false
  | 9 => some false
  | 10 => some true
  | 11 => some false
  | _ => none
def exKit_11 (t : Nat) : Option Bool := match t with
  | 0 => some true
  | 1 => some false
  | 2 => some false
  | 3 => some false
  | 4 => some false
  | 5 => some false
  | 6 => some false
  | 7 => some false
  | 8 => some false
  | 9 => some false
  | 10 => some false
  | 11 => some true
  | _ => none
def exKit (n t : Nat) : Option Bool := match n with
  | 1 => exKit_1 t
  | 2 => exKit_2 t
  | 3 => exKit_3 t
  | 4 => exKit_4 t
  | 5 => exKit_5 t
  | 6 => exKit_6 t
  | 7 => exKit_7 t
  | 8 => exKit_8 t
  | 9 => exKit_9 t
  | 10 => exKit_10 t
  | 11 => exKit_11 t
  | _ => none
def exRd (n : Nat) (f : Str) : Bool := match n with
  | 1 => decide (f = "name")
  | 2 => decide (f = "value")
  | 3 => decide (f = "domain")
  | 4 => decide (f = "room")
  | 5 => decide (f = "code")
  | 6 => decide (f = "name")
  | 7 => decide (f = "value")
  | 8 => decide (f = "value")
  | 9 => decide (f = "value")
  | 10 => decide (f = "code")
  | 11 => decide (f = "first") || decide (f = "second")
  | _ => false
def exSub_0 (n : Nat) : Option Bool := exKit n 0
def exSub_1 (n : Nat) : Option Bool := exKit n 1
def exSub_2 (n : Nat) : Option Bool := exKit n 2
def exSub_3 (n : Nat) : Option Bool := exKit n 3
def exSub_4 (n : Nat) : Option Bool := exKit n 4
def exSub_5 (n : Nat) : Option Bool := exKit n 5
def exSub_6 (n : Nat) : Option Bool := exKit n 6
def exSub_7 (n : Nat) : Option Bool := exKit n 7
def exSub_8 (n : Nat) : Option Bool := exKit n 8
def exSub_9 (n : Nat) : Option Bool := exKit n 9
def exSub_10 (n : Nat) : Option Bool := exKit n 10
def exSub_11 (n : Nat) : Option Bool := exKit n 11
def exFt (C : String) (f : Str) : Bool := (decide (C = "Bridge") && (decide (f = ("first" : Str)) || decide (f = ("second" : Str)) || decide (f = ("pairs" : Str)))) || (decide (C = "Book") && (decide (f = ("domain" : Str)) || decide (f = ("room" : Str)) || decide (f = ("entries" : Str)) || decide (f = ("code_by_value" : Str)) || decide (f = ("value_by_code" : Str)) || decide (f = ("relation" : Str))))
def mtX_Book_code_of : MTX := fun C => if C = "Book" then some fs_Book_code_of else none
def mtX_Book_value_of : MTX := fun C => if C = "Book" then some fs_Book_value_of else none
def mtX_Bridge___call__ : MTX := fun C => if C = "Bridge" then some fs_Bridge___call__ else none
def mtX_Bridge_back : MTX := fun C => if C = "Bridge" then some fs_Bridge_back else none
def mn_Book___contains__ : MT := fun C => if C = "Book" then some fs_Book___contains__ else none
def mp_Bridge_keeps : MT := fun C => if C = "Bridge" then some fs_Bridge_keeps else none
def mc_MOST : String → Option Int := fun C => if C = "Book" then some 120 else none
/-- slots: 0 ordered, 1 value, 2 code, 3 above, 4 other -/
def ds_in_order : DS := (dRet (dCB fAll (dCons (dLc (dIZ (dCons (dVarV 0) (dCons (dSl fSlL (dVar 0) (dPart (dC (.int (1)))) dNo) dNil))) (gT 2 (gsCons (gT 2 (gsCons (gN 1) (gsCons (gN 2) gsNil))) (gsCons (gT 2 (gsCons (gN 3) (gsCons (gN 4) gsNil))) gsNil))) dYes (dOrV (dAndV (d2 fLtV (dVar 1) (dVar 3)) (d2 fLt (dVar 2) (dVar 4))) (dAndV (d2 fEq (dVar 1) (dVar 3)) (d2 fEq (dVar 2) (dVar 4)))) [1, 2, 3, 4]) dNil)))
/-- slots: 0 ordered, 1 pair, 2 other -/
def ds_told_by_first : DS := (dRet (dCB fAll (dCons (dLc (dIZ (dCons (dVarV 0) (dCons (dSl fSlL (dVar 0) (dPart (dC (.int (1)))) dNo) dNil))) (gT 2 (gsCons (gN 1) (gsCons (gN 2) gsNil))) dYes (dOrV (d2 fEqD (dVar 1) (dVar 2)) (d2 fNe (d2 fIxT (dVar 1) (dC (.int (0)))) (d2 fIxT (dVar 2) (dC (.int (0)))))) [1, 2]) dNil)))
/-- slots: 0 pairs, 1 ordered, 2 shifts, 3 value, 4 code -/
def ds_kept_by : DS := (dSeq (dAsg 1 (dCB fSorted (dCons (dLc (dIL (dVarV 0)) (gT 2 (gsCons (gN 3) (gsCons (gN 4) gsNil))) dYes (dTup (dCons (dVarV 3) (dCons (dVarV 4) dNil))) [3, 4]) dNil)))
  (dSeq (dIf (dNot (dTru (dVar 1))) (dRet (dC (.str "value"))) dNext)
  (dSeq (dIf (dB (dCB fIsi (dCons (d2 fIxT (d2 fIxL (dVar 1) (dC (.int (0)))) (dC (.int (0)))) (dCons (dC (.ty "int")) dNil)))) (dSeq (dAsg 2 (dLc (dIL (dVarV 1)) (gT 2 (gsCons (gN 3) (gsCons (gN 4) gsNil))) dYes (d2 fSub (dVar 4) (dVar 3)) [3, 4]))
  (dIf (dB (d2 fEq (dCB fMin (dCons (dVar 2) dNil)) (dCB fMax (dCons (dVar 2) dNil)))) (dRet (dIfE (dB (d2 fEq (d2 fIxL (dVar 2) (dC (.int (0)))) (dC (.int (0))))) (dC (.str "value")) (dC (.str "distance")))) dNext)) dNext)
  (dSeq (dIf (dB (dCallL 1 fs_in_order (dCons (dVar 1) dNil))) (dRet (dC (.str "order"))) dNext)
  (dSeq (dIf (dAnd (dB (dCallL 1 fs_told_by_first (dCons (dVar 1) dNil))) (dB (dCallL 1 fs_told_by_first (dCons (dCB fSorted (dCons (dLc (dIL (dVarV 1)) (gT 2 (gsCons (gN 3) (gsCons (gN 4) gsNil))) dYes (dTup (dCons (dVarV 4) (dCons (dVarV 3) dNil))) [3, 4]) dNil)) dNil)))) (dRet (dC (.str "same"))) dNext)
  (dRet (dC (.str "none"))))))))
/-- slots: 0 self, 1 first, 2 second, 3 pairs, 4 value, 5 code -/
def ds_Bridge___init__ (xc : DX) : DS := (dSeq (dIf (dB (d2 fNe (d1 (fFld exFt "domain") (dVar 1)) (d1 (fFld exFt "domain") (dVar 2)))) (dRaise2 xc 11 "first" "second" (dCons (d1 (fFld exFt "domain") (dVar 1)) (dCons (d1 (fFld exFt "domain") (dVar 2)) dNil))) dNext)
  (dSeq (dAsg 3 (dLc (dIT (d1 (fFld exFt "entries") (dVar 1))) (gT 2 (gsCons (gN 4) (gsCons (gN 5) gsNil))) (dB (dInO false mn_Book___contains__ (dCons (dVar 4) (dCons (dVar 2) dNil)))) (dTup (dCons (dVarV 5) (dCons (dMethX (fun _ _ _ => False) "code_of" 2 mtX_Book_code_of (dVar 2) (dCons (dVarV 4) dNil)) dNil))) [4, 5]))
  (dSeq (dSetF exFt 0 "first" (dVarV 1))
  (dSeq (dSetF exFt 0 "second" (dVarV 2))
  (dSetF exFt 0 "pairs" (dCB fTuple (dCons (dCB fSorted (dCons (dVar 3) dNil)) dNil)))))))
/-- slots: 0 self -/
def ds_Bridge_keeps : DS := (dRet (dCall 1 fs_kept_by [] (dCons (dCB fList (dCons (d1 (fFld exFt "pairs") (dVar 0)) dNil)) dNil)))
/-- slots: 0 self, 1 code, 2 value -/
def ds_Bridge___call__ (xc : DX) : DS := (dSeq (dAsg 2 (dMethX xc "value_of" 2 mtX_Book_value_of (d1 (fFld exFt "first") (dVar 0)) (dCons (dVarV 1) dNil)))
  (dSeq (dIf (dB (dInO false mn_Book___contains__ (dCons (dVar 2) (dCons (d1 (fFld exFt "second") (dVar 0)) dNil)))) (dRet (dMethX xc "code_of" 2 mtX_Book_code_of (d1 (fFld exFt "second") (dVar 0)) (dCons (dVarV 2) dNil))) dNext)
  (dRet (dC .non))))
/-- slots: 0 self -/
def ds_Bridge_back (xc : DX) : DS := (dRet (dFz (dMakeX xc "Bridge" 3 fs_Bridge___init__ [] (dCons (d1 (fFld exFt "second") (dVar 0)) (dCons (d1 (fFld exFt "first") (dVar 0)) dNil)))))
/-- slots: 0 text, 1 letter -/
def ds_is_word : DS := (dRet (dAndV (dChain fLe fLe (dC (.int (1))) (dCB fLenS (dCons (dVar 0) dNil)) (dC (.int (8)))) (dCB fAll (dCons (dLc (dIS (dVarV 0)) (gN 1) dYes (d2 (fInC false) (dVar 1) (dC (.str "abcdefghijklmnopqrstuvwxyz"))) [1]) dNil))))
/-- slots: 0 domain, 1 value -/
def ds_is_value : DS := (dSeq (dIf (dB (d2 fEq (dVar 0) (dC (.str "number")))) (dRet (dAndV (dCB fIsi (dCons (dVar 1) (dCons (dC (.ty "int")) dNil))) (dAndV (dNotV (dCB fIsi (dCons (dVar 1) (dCons (dC (.ty "bool")) dNil)))) (dChain fLeV fLeV (dC (.int (-999999999))) (dVar 1) (dC (.int (999999999))))))) dNext)
  (dRet (dAndV (d2 fEq (dVar 0) (dC (.str "word"))) (dAndV (dCB fIsi (dCons (dVar 1) (dCons (dC (.ty "str")) dNil))) (dCall 1 fs_is_word [] (dCons (dVarV 1) dNil))))))
/-- slots: 0 room -/
def ds_check_room (xc : DX) : DS := (dIf (dNot (dB (dChain fLe fLe (dC (.int (1))) (dVar 0) (dC (.int (1000000)))))) (dRaise1 xc 4 "room" (dCons (dVarV 0) dNil)) dNext)
/-- slots: 0 code -/
def ds_is_code : DS := (dRet (dAndV (dCB fIsi (dCons (dVar 0) (dCons (dC (.ty "int")) dNil))) (dAndV (dNotV (dCB fIsi (dCons (dVar 0) (dCons (dC (.ty "bool")) dNil)))) (dChain fLe fLe (dC (.int (0))) (dVar 0) (dC (.int (9999999)))))))
/-- slots: 0 self, 1 domain, 2 room, 3 entries, 4 codes, 5 values, 6 ordered, 7 in_room, 8 value, 9 code, 10 _, 11 lower -/
def ds_Book___init__ (xc : DX) : DS := (dSeq (dIf (dB (d2 (fInQ true) (dVar 1) (dC (.tup [.str "number", .str "word"])))) (dRaise1 xc 3 "domain" (dCons (dVarV 1) dNil)) dNext)
  (dSeq (dDrop (dCallX xc 1 fs_check_room [] (dCons (dVarV 2) dNil)))
  (dSeq (dAsg 4 dDNew)
  (dSeq (dAsg 5 dDNew)
  (dSeq (dFor (dIQ (dVarV 3)) (gT 2 (gsCons (gN 8) (gsCons (gN 9) gsNil))) (dSeq (dIf (dNot (dB (dCall 2 fs_is_value [] (dCons (dVarV 1) (dCons (dVarV 8) dNil))))) (dRaise1 xc 2 "value" (dCons (dVarV 8) dNil)) dNext)
  (dSeq (dIf (dNot (dB (dCall 1 fs_is_code [] (dCons (dVarV 9) dNil)))) (dRaise1 xc 5 "code" (dCons (dVarV 9) dNil)) dNext)
  (dSeq (dIf (dOr (dB (d2 (fDIn false) (dVar 8) (dVar 4))) (dB (d2 (fDIn false) (dVar 9) (dVar 5)))) (dRaise1 xc 6 "name" (dCons (dVarV 8) dNil)) dNext)
  (dSeq (dSetK 4 (dVarV 9) (dVar 8))
  (dSetK 5 (dVarV 8) (dVar 9)))))))
  (dSeq (dIf (dB (d2 fGt (dCB fLenD (dCons (dVar 4) dNil)) (d1 (fCon "MOST" mc_MOST) (dVar 0)))) (dRaise1 xc 7 "value" (dCons (d2 fIxT (d2 fIxQ (dVar 3) (d1 (fCon "MOST" mc_MOST) (dVar 0))) (dC (.int (0)))) dNil)) dNext)
  (dSeq (dAsg 6 (dCB fSorted (dCons (dLc (dIQ (dVarV 3)) (gT 2 (gsCons (gN 8) (gsCons (gN 9) gsNil))) dYes (dTup (dCons (dVarV 8) (dCons (dVarV 9) dNil))) [8, 9]) dNil)))
  (dSeq (dAsg 7 (dLc (dIL (dVarV 6)) (gT 2 (gsCons (gN 8) (gsCons (gN 9) gsNil))) (dB (d2 fLt (dVar 9) (dVar 2))) (dTup (dCons (dVarV 8) (dCons (dVarV 9) dNil))) [8, 9]))
  (dSeq (dFor (dIZ (dCons (dVarV 7) (dCons (dSl fSlL (dVar 7) (dPart (dC (.int (1)))) dNo) dNil))) (gT 2 (gsCons (gT 2 (gsCons (gN 10) (gsCons (gN 11) gsNil))) (gsCons (gT 2 (gsCons (gN 8) (gsCons (gN 9) gsNil))) gsNil))) (dIf (dB (d2 fLe (dVar 9) (dVar 11))) (dRaise1 xc 8 "value" (dCons (dVarV 8) dNil)) dNext))
  (dSeq (dSetF exFt 0 "domain" (dVarV 1))
  (dSeq (dSetF exFt 0 "room" (dVarV 2))
  (dSeq (dSetF exFt 0 "entries" (dCB fTuple (dCons (dVar 6) dNil)))
  (dSeq (dSetF exFt 0 "code_by_value" (dVarV 4))
  (dSeq (dSetF exFt 0 "value_by_code" (dVarV 5))
  (dSetF exFt 0 "relation" (dCall 1 fs_kept_by [] (dCons (dVarV 6) dNil)))))))))))))))))
/-- slots: 0 cls, 1 low, 2 high, 3 room, 4 value -/
def ds_Book_counted (xc : DX) : DS := (dRet (dFz (dMakeLX 0 xc "Book" 4 fs_Book___init__ [] (dCons (dC (.str "number")) (dCons (dVarV 3) (dCons (dLc (dIR2 (dCons (dVarV 1) (dCons (d2 fAdd (dVar 2) (dC (.int (1)))) dNil))) (gN 4) dYes (dTup (dCons (dVarV 4) (dCons (d2 fSub (dVar 4) (dVar 1)) dNil))) [4]) dNil))))))
/-- slots: 0 self, 1 value -/
def ds_Book___contains__ : DS := (dRet (dAndV (dCall 2 fs_is_value [] (dCons (d1 (fFld exFt "domain") (dVar 0)) (dCons (dVarV 1) dNil))) (d2 (fDIn false) (dVar 1) (d1 (fFld exFt "code_by_value") (dVar 0)))))
/-- slots: 0 self, 1 value -/
def ds_Book_code_of (xc : DX) : DS := (dSeq (dIf (dB (dInO true mn_Book___contains__ (dCons (dVar 1) (dCons (dVar 0) dNil)))) (dRaise1 xc 9 "value" (dCons (dVarV 1) dNil)) dNext)
  (dRet (d2 fDGet (d1 (fFld exFt "code_by_value") (dVar 0)) (dVar 1))))
/-- slots: 0 self, 1 code -/
def ds_Book_value_of (xc : DX) : DS := (dSeq (dIf (dOr (dNot (dB (dCall 1 fs_is_code [] (dCons (dVarV 1) dNil)))) (dB (d2 (fDIn true) (dVar 1) (d1 (fFld exFt "value_by_code") (dVar 0))))) (dRaise1 xc 10 "code" (dCons (dVarV 1) dNil)) dNext)
  (dRet (d2 fDGet (d1 (fFld exFt "value_by_code") (dVar 0)) (dVar 1))))
/-- slots: 0 _law_pool, 1 _law_many, 2 _law_digit -/
def ds_l_take : DS := (dSeq (dIf (dAnd (dB (d2 fEq (d2 fIxL (dVar 0) (dC (.int (0)))) (dC (.int (0))))) (dB (d2 fGt (dCB fLen (dCons (dVar 0) dNil)) (dC (.int (1)))))) (dSetI 0 (dMut 0 mPopAt (dCons (dC (.int (1))) dNil)) (dC (.int (0)))) dNext)
  (dSeq (dAsg 2 (d2 fMod (dCB fInt (dCons (d2 fIxL (dVar 0) (dC (.int (0)))) dNil)) (dVar 1)))
  (dSeq (dSetI 0 (d2 fDivW (d2 fIxL (dVar 0) (dC (.int (0)))) (dVar 1)) (dC (.int (0))))
  (dRet (dVarM 2)))))
/-- slots: 0 _law_told, 1 _law_due, 2 _law_k -/
def ds_l_same (fr : FS) : DS := (dSeq (dIf (dB (d2 fIsN (dVar 1) (dC .non))) (dRet (d2 fIsN (dVar 0) (dC .non))) dNext)
  (dSeq (dIf (dB (dCB fIsi (dCons (dVar 1) (dCons (dC (.ty "bool")) dNil)))) (dRet (dAndV (dCB fIsi (dCons (dVar 0) (dCons (dC (.ty "bool")) dNil))) (d2 fEqD (dVar 0) (dVar 1)))) dNext)
  (dSeq (dIf (dB (dCB fIsi (dCons (dVar 1) (dCons (dC (.ty "int")) dNil)))) (dRet (dAndV (dNotV (dCB fIsi (dCons (dVar 0) (dCons (dC (.ty "bool")) dNil)))) (dAndV (dCB fIsi (dCons (dVar 0) (dCons (dC (.ty "int")) dNil))) (d2 fEqD (dVar 0) (dVar 1))))) dNext)
  (dSeq (dIf (dB (dCB fIsi (dCons (dVar 1) (dCons (dC (.ty "str")) dNil)))) (dRet (dAndV (dCB fIsi (dCons (dVar 0) (dCons (dC (.ty "str")) dNil))) (d2 fEqD (dVar 0) (dVar 1)))) dNext)
  (dSeq (dIf (dAnd (dB (dCB fIsi (dCons (dVar 1) (dCons (dC (.ty "list")) dNil)))) (dNot (dB (dCB fIsi (dCons (dVar 0) (dCons (dC (.ty "list")) dNil)))))) (dRet (dC (.bl false))) dNext)
  (dSeq (dIf (dAnd (dB (dCB fIsi (dCons (dVar 1) (dCons (dC (.ty "tuple")) dNil)))) (dNot (dB (dCB fIsi (dCons (dVar 0) (dCons (dC (.ty "tuple")) dNil)))))) (dRet (dC (.bl false))) dNext)
  (dSeq (dIf (dB (d2 fNe (dCB fLen (dCons (dVar 0) dNil)) (dCB fLen (dCons (dVar 1) dNil)))) (dRet (dC (.bl false))) dNext)
  (dRet (dCB fAll (dCons (dLc (dIR1 (dCons (dCB fLen (dCons (dVar 1) dNil)) dNil)) (gN 2) dYes (dCall 2 fr [] (dCons (d2 fIxQ (dVar 0) (dVar 2)) (dCons (d2 fIxQ (dVar 1) (dVar 2)) dNil))) [2]) dNil))))))))))
def dsH_l_same : DS := (dSeq (dIf (dB (d2 fIsN (dVar 1) (dC .non))) (dRet (d2 fIsN (dVar 0) (dC .non))) dNext)
  (dSeq (dIf (dB (dCB fIsi (dCons (dVar 1) (dCons (dC (.ty "bool")) dNil)))) (dRet (dAndV (dCB fIsi (dCons (dVar 0) (dCons (dC (.ty "bool")) dNil))) (d2 fEqD (dVar 0) (dVar 1)))) dNext)
  (dSeq (dIf (dB (dCB fIsi (dCons (dVar 1) (dCons (dC (.ty "int")) dNil)))) (dRet (dAndV (dNotV (dCB fIsi (dCons (dVar 0) (dCons (dC (.ty "bool")) dNil)))) (dAndV (dCB fIsi (dCons (dVar 0) (dCons (dC (.ty "int")) dNil))) (d2 fEqD (dVar 0) (dVar 1))))) dNext)
  (dSeq (dIf (dB (dCB fIsi (dCons (dVar 1) (dCons (dC (.ty "str")) dNil)))) (dRet (dAndV (dCB fIsi (dCons (dVar 0) (dCons (dC (.ty "str")) dNil))) (d2 fEqD (dVar 0) (dVar 1)))) dNext)
  dVoid))))
/-- slots: 0 _law_pool, 1 _law_domain, 2 _law_many, 3 _law_low, 4 _law_words, 5 _law_step, 6 _law_k -/
def ds_l_values : DS := (dSeq (dAsg 3 (d2 fIxL (dLst (dCons (d1 fNeg (dC (.int (3)))) (dCons (d1 fNeg (dC (.int (999999999)))) (dCons (dC (.int (999999900))) (dCons (dC (.int (0))) dNil))))) (dCall 2 fs_l_take [] (dCons (dVar 0) (dCons (dC (.int (4))) dNil)))))
  (dSeq (dAsg 4 (dLst (dCons (dC (.str "a")) (dCons (dC (.str "aa")) (dCons (dC (.str "ab")) (dCons (dC (.str "b")) (dCons (dC (.str "oslo")) (dCons (dC (.str "paris")) (dCons (dC (.str "pisa")) (dCons (dC (.str "rome")) (dCons (dC (.str "zz")) (dCons (dC (.str "zzzzzzzz")) dNil))))))))))))
  (dSeq (dAsg 5 (d2 fAdd (dC (.int (1))) (dCall 2 fs_l_take [] (dCons (dVar 0) (dCons (dC (.int (3))) dNil)))))
  (dSeq (dIf (dB (d2 fEq (dVar 1) (dC (.str "word")))) (dRet (dSl fSlL (dSl fSlL (dVar 4) (dPart (dCall 2 fs_l_take [] (dCons (dVar 0) (dCons (dC (.int (3))) dNil)))) dNo) dNo (dPart (dVar 2)))) dNext)
  (dRet (dLc (dIR1 (dCons (dVarV 2) dNil)) (gN 6) dYes (d2 fAdd (dVar 3) (d2 fMul (dVar 5) (dVar 6))) [6]))))))
/-- slots: 0 _law_pool, 1 _law_values_here, 2 _law_turn, 3 _law_kind, 4 _law_rest, 5 _law_entries_here, 6 _law_k, 7 _law_here, 8 _law_at, 9 _law_near, 10 _law_codes -/
def ds_l_entries : DS := (dSeq (dAsg 3 (d2 fMod (dCB fInt (dCons (d2 fAdd (dCall 2 fs_l_take [] (dCons (dVar 0) (dCons (dC (.int (5))) dNil))) (d2 fMul (dC (.int (2))) (dVar 2))) dNil)) (dC (.int (5)))))
  (dSeq (dAsg 4 (dLRg1 (dC (.int (12)))))
  (dSeq (dAsg 5 (dLst dNil))
  (dSeq (dFor (dIR1 (dCons (dCB fLen (dCons (dVar 1) dNil)) dNil)) (gN 6) (dSeq (dAsg 7 (d2 fGt (d2 fMod (dCB fInt (dCons (d2 fAdd (d2 fAdd (dCall 2 fs_l_take [] (dCons (dVar 0) (dCons (dC (.int (5))) dNil))) (dVar 6)) (dVar 2)) dNil)) (dC (.int (5)))) (dC (.int (0)))))
  (dSeq (dAsg 8 (d2 fMod (dCB fInt (dCons (d2 fAdd (dCall 2 fs_l_take [] (dCons (dVar 0) (dCons (dCB fLen (dCons (dVar 4) dNil)) dNil))) (d2 fMul (dC (.int (5))) (dVar 6))) dNil)) (dCB fLen (dCons (dVar 4) dNil))))
  (dSeq (dAsg 9 (d2 fAdd (d2 fMul (dC (.int (2))) (dVar 6)) (dCall 2 fs_l_take [] (dCons (dVar 0) (dCons (dC (.int (2))) dNil)))))
  (dSeq (dAsg 10 (dLst (dCons (dVarV 6) (dCons (d2 fAdd (dVar 6) (dC (.int (5)))) (dCons (dVarV 9) (dCons (dMut 4 mPopAt (dCons (dVarV 8) dNil)) (dCons (d2 fAdd (dC (.int (9999985))) (dVar 6)) dNil)))))))
  (dIf (dB (dVar 7)) (dDrop (dMut 5 mApp (dCons (dTup (dCons (d2 fIxL (dVar 1) (dVar 6)) (dCons (d2 fIxL (dVar 10) (dVar 3)) dNil))) dNil))) dNext))))))
  (dRet (dTup (dCons (dVarV 3) (dCons (dVarV 5) dNil))))))))
/-- slots: 0 _law_pool, 1 _law_kind -/
def ds_l_room : DS := (dSeq (dIf (dB (d2 fEq (dVar 1) (dC (.int (3))))) (dRet (dC (.int (1)))) dNext)
  (dRet (d2 fIxL (dLst (dCons (dC (.int (4))) (dCons (dC (.int (20))) (dCons (dC (.int (1))) (dCons (dC (.int (1000000))) dNil))))) (dCall 2 fs_l_take [] (dCons (dVar 0) (dCons (dC (.int (4))) dNil))))))
/-- slots: 0 _law_entries_here, 1 _law_value, 2 _law_pair -/
def ds_l_code : DS := (dSeq (dFor (dIL (dVarV 0)) (gN 2) (dIf (dB (d2 fEq (d2 fIxT (dVar 2) (dC (.int (0)))) (dVar 1))) (dRet (d2 fIxT (dVar 2) (dC (.int (1))))) dNext))
  (dRet (dC .non)))
/-- slots: 0 _law_first, 1 _law_second, 2 _law_known, 3 _law_common, 4 _law_x -/
def ds_l_pairs : DS := (dSeq (dAsg 2 (dLc (dIL (dVarV 1)) (gN 4) dYes (d2 fIxT (dVar 4) (dC (.int (0)))) [4]))
  (dSeq (dAsg 3 (dLc (dIL (dVarV 0)) (gN 4) (dB (d2 (fInQ false) (d2 fIxT (dVar 4) (dC (.int (0)))) (dVar 2))) (dVarV 4) [4]))
  (dRet (dCB fSorted (dCons (dLc (dIL (dVarV 3)) (gN 4) dYes (dTup (dCons (d2 fIxT (dVar 4) (dC (.int (1)))) (dCons (dCall 2 fs_l_code [] (dCons (dVarV 1) (dCons (d2 fIxT (dVar 4) (dC (.int (0)))) dNil))) dNil))) [4]) dNil)))))
/-- slots: 0 _law_pairs_here, 1 _law_gaps, 2 _law_codes, 3 _law_pair -/
def ds_l_kept : DS := (dSeq (dAsg 1 (dLc (dIL (dVarV 0)) (gN 3) dYes (d2 fSub (d2 fIxT (dVar 3) (dC (.int (1)))) (d2 fIxT (dVar 3) (dC (.int (0))))) [3]))
  (dSeq (dIf (dB (d2 fEq (dRd mCount (dVar 1) (dCons (dC (.int (0))) dNil)) (dCB fLen (dCons (dVar 1) dNil)))) (dRet (dC (.str "value"))) dNext)
  (dSeq (dIf (dB (d2 fEq (dRd mCount (dVar 1) (dCons (d2 fIxL (dVar 1) (dC (.int (0)))) dNil)) (dCB fLen (dCons (dVar 1) dNil)))) (dRet (dC (.str "distance"))) dNext)
  (dSeq (dAsg 2 (dLc (dIL (dVarV 0)) (gN 3) dYes (d2 fIxT (dVar 3) (dC (.int (1)))) [3]))
  (dSeq (dIf (dB (d2 fEqD (dVar 2) (dCB fSorted (dCons (dVar 2) dNil)))) (dRet (dC (.str "order"))) dNext)
  (dRet (dC (.str "same"))))))))
/-- slots: 0 _law_bridge, 1 _law_code_here, 2 e, 3 _law_known -/
def ds_l_no_code : DS := (dSeq (dTryAs exSub_10 2 (fun xc => (dDrop (dCallOX xc 2 mtX_Bridge___call__ (dVar 0) (dCons (dVarV 1) dNil)))) (fun a nm fs => (dSeq (dAsg 3 (dAndV (dIsE exKit 2 a nm 0) (dNotV (dIsE exKit 2 a nm 9))))
  (dRet (dAndV (dVar 3) (dCall 2 fsH_l_same [] (dCons (dXf exRd 2 a nm fs "code") (dCons (dVarV 1) dNil))))))) (fun _ _ _ => False))
  (dRet (dC (.bl false))))
/-- slots: 0 _law_bridge, 1 _law_first, 2 _law_second, 3 _law_pairs_here, 4 _law_pair, 5 _law_own, 6 _law_others, 7 _law_x -/
def ds_l_right : DS := (dSeq (dAsg 3 (dCall 2 fs_l_pairs [] (dCons (dVarV 1) (dCons (dVarV 2) dNil))))
  (dSeq (dIf (dNot (dB (dCall 2 fs_l_same [] (dCons (d1 (fFld exFt "pairs") (dVar 0)) (dCons (dCB fTuple (dCons (dVar 3) dNil)) dNil))))) (dRet (dC (.bl false))) dNext)
  (dSeq (dIf (dNot (dB (dCall 2 fs_l_same [] (dCons (dProp mp_Bridge_keeps (dCons (dVar 0) dNil)) (dCons (dCall 1 fs_l_kept [] (dCons (dVarV 3) dNil)) dNil))))) (dRet (dC (.bl false))) dNext)
  (dSeq (dFor (dIL (dVarV 1)) (gN 4) (dIf (dNot (dB (dCall 2 fs_l_same [] (dCons (dCallOX (fun _ _ _ => False) 2 mtX_Bridge___call__ (dVar 0) (dCons (d2 fIxT (dVar 4) (dC (.int (1)))) dNil)) (dCons (dCall 2 fs_l_code [] (dCons (dVarV 2) (dCons (d2 fIxT (dVar 4) (dC (.int (0)))) dNil))) dNil))))) (dRet (dC (.bl false))) dNext))
  (dSeq (dAsg 5 (dLc (dIL (dVarV 1)) (gN 7) dYes (d2 fIxT (dVar 7) (dC (.int (1)))) [7]))
  (dSeq (dAsg 6 (d2 fCat (dLc (dIL (dVarV 2)) (gN 7) dYes (d2 fIxT (dVar 7) (dC (.int (1)))) [7]) (dLc (dIL (dVarV 1)) (gN 7) dYes (d2 fAdd (d2 fIxT (dVar 7) (dC (.int (1)))) (dC (.int (1)))) [7])))
  (dSeq (dAsg 6 (d2 fCat (dVar 6) (dLst (dCons (dC (.int (0))) (dCons (dC (.int (11))) (dCons (dC (.int (9999999))) dNil))))))
  (dRet (dCB fAll (dCons (dLc (dIL (dVarV 6)) (gN 7) (dB (d2 (fInQ true) (dVar 7) (dVar 5))) (dCall 2 fs_l_no_code [] (dCons (dVarV 0) (dCons (dVarV 7) dNil))) [7]) dNil))))))))))
/-- slots: 0 _law_first, 1 _law_second, 2 _law_domains, 3 e -/
def ds_l_refused : DS := (dSeq (dTryAs exSub_11 3 (fun xc => (dDrop (dFz (dMakeX xc "Bridge" 3 fs_Bridge___init__ [] (dCons (dVarV 0) (dCons (dVarV 1) dNil)))))) (fun a nm fs => (dSeq (dIf (dOr (dNot (dB (dIsE exKit 3 a nm 0))) (dB (dIsE exKit 3 a nm 10))) (dRet (dC (.bl false))) dNext)
  (dRet (dCall 2 fsG_l_same [] (dCons (dTup (dCons (dXf exRd 3 a nm fs "first") (dCons (dXf exRd 3 a nm fs "second") dNil))) (dCons (dVarV 2) dNil)))))) (fun _ _ _ => False))
  (dRet (dC (.bl false))))
/-- slots: 0 _law_pool, 1 _law_low, 2 _law_k -/
def ds_l_counted : DS := (dSeq (dAsg 1 (d2 fSub (dCall 2 fs_l_take [] (dCons (dVar 0) (dCons (dC (.int (100))) dNil))) (dC (.int (50)))))
  (dRet (dLc (dIR1 (dCons (d2 fAdd (dC (.int (100))) (dCall 2 fs_l_take [] (dCons (dVar 0) (dCons (dC (.int (21))) dNil)))) dNil)) (gN 2) dYes (dTup (dCons (d2 fAdd (dVar 1) (dVar 2)) (dCons (dVarV 2) dNil))) [2])))
/-- slots: 0 _law_script, 1 _law_pool, 2 _law_domain, 3 _law_values_here, 4 _law_large, 5 _law_rows, 6 _law_books, 7 _law_turn, 8 _law_ways, 9 _law_bridges, 10 _law_k, 11 _law_pair, 12 _law_name, 13 _law_other, 14 _law_drawn, 15 _law_row, 16 _law_room_here, 17 _law_book, 18 _law_first, 19 _law_second, 20 _law_middle, 21 _law_way, 22 _law_cell -/
def ds_law : DS := (dSeq (dAsg 1 (d2 fCat (dLst (dCons (dC (.int (0))) dNil)) (dLc (dIL (dSl fSlL (dVar 0) dNo (dPart (dC (.int (63)))))) (gN 22) dYes (dCB fAbs (dCons (dVar 22) dNil)) [22])))
  (dSeq (dAsg 2 (d2 fIxL (dLst (dCons (dC (.str "number")) (dCons (dC (.str "word")) dNil))) (dCall 2 fs_l_take [] (dCons (dVar 1) (dCons (dC (.int (2))) dNil)))))
  (dSeq (dAsg 3 (dCall 3 fs_l_values [] (dCons (dVar 1) (dCons (dVarV 2) (dCons (d2 fMod (dCB fInt (dCons (d2 fAdd (dC (.int (6))) (dCall 2 fs_l_take [] (dCons (dVar 1) (dCons (dC (.int (9))) dNil)))) dNil)) (dC (.int (9)))) dNil)))))
  (dSeq (dAsg 4 (dAndV (d2 fEq (dCall 2 fs_l_take [] (dCons (dVar 1) (dCons (dC (.int (16))) dNil))) (dC (.int (15)))) (d2 fEq (dVar 2) (dC (.str "number")))))
  (dSeq (dAsg 5 (dLst dNil))
  (dSeq (dAsg 6 (dLst dNil))
  (dSeq (dFor (dIR1 (dCons (dC (.int (3))) dNil)) (gN 7) (dSeq (dAsg 14 (dCall 3 fs_l_entries [] (dCons (dVar 1) (dCons (dVarV 3) (dCons (dVarV 7) dNil)))))
  (dSeq (dAsg 15 (d2 fIxT (dVar 14) (dC (.int (1)))))
  (dSeq (dAsg 16 (dCall 2 fs_l_room [] (dCons (dVar 1) (dCons (d2 fIxT (dVar 14) (dC (.int (0)))) dNil))))
  (dSeq (dAsg 17 (dFz (dMakeN "Book" 4 fs_Book___init__ [] (dCons (dVarV 2) (dCons (dVarV 16) (dCons (dCB fList (dCons (dVar 15) dNil)) dNil))))))
  (dSeq (dIf (dAnd (dB (dVar 4)) (dB (d2 fNe (dVar 7) (dC (.int (1)))))) (dSeq (dAsg 15 (dCall 1 fs_l_counted [] (dCons (dVar 1) dNil)))
  (dAsg 17 (dCMX (fun _ _ _ => False) "Book" 4 fs_Book_counted (dCons (d2 fIxT (d2 fIxL (dVar 15) (dC (.int (0)))) (dC (.int (0)))) (dCons (d2 fIxT (d2 fIxL (dVar 15) (d1 fNeg (dC (.int (1))))) (dC (.int (0)))) (dCons (dVarV 16) dNil)))))) dNext)
  (dSeq (dDrop (dMut 5 mApp (dCons (dVarV 15) dNil)))
  (dDrop (dMut 6 mApp (dCons (dVarV 17) dNil))))))))))
  (dSeq (dAsg 8 (dLst (dCons (dTup (dCons (dC (.int (0))) (dCons (dC (.int (1))) dNil))) (dCons (dTup (dCons (dC (.int (1))) (dCons (dC (.int (2))) dNil))) (dCons (dTup (dCons (dC (.int (0))) (dCons (dC (.int (2))) dNil))) (dCons (dTup (dCons (dC (.int (0))) (dCons (dC (.int (0))) dNil))) dNil))))))
  (dSeq (dAsg 9 (dLc (dIL (dVarV 8)) (gN 21) dYes (dFz (dMakeN "Bridge" 3 fs_Bridge___init__ [] (dCons (d2 fIxL (dVar 6) (d2 fIxT (dVar 21) (dC (.int (0))))) (dCons (d2 fIxL (dVar 6) (d2 fIxT (dVar 21) (dC (.int (1))))) dNil)))) [21]))
  (dSeq (dFor (dIR1 (dCons (dC (.int (4))) dNil)) (gN 10) (dSeq (dAsg 18 (d2 fIxL (dVar 5) (d2 fIxT (d2 fIxL (dVar 8) (dVar 10)) (dC (.int (0))))))
  (dSeq (dAsg 19 (d2 fIxL (dVar 5) (d2 fIxT (d2 fIxL (dVar 8) (dVar 10)) (dC (.int (1))))))
  (dSeq (dIf (dNot (dB (dCall 3 fs_l_right [] (dCons (d2 fIxL (dVar 9) (dVar 10)) (dCons (dVarV 18) (dCons (dVarV 19) dNil)))))) (dRet (dC (.bl false))) dNext)
  (dSeq (dIf (dNot (dB (dCall 3 fs_l_right [] (dCons (dMethX (fun _ _ _ => False) "back" 1 mtX_Bridge_back (d2 fIxL (dVar 9) (dVar 10)) dNil) (dCons (dVarV 19) (dCons (dVarV 18) dNil)))))) (dRet (dC (.bl false))) dNext)
  (dSeq (dIf (dNot (dB (dCall 3 fs_l_right [] (dCons (dMethX (fun _ _ _ => False) "back" 1 mtX_Bridge_back (dMethX (fun _ _ _ => False) "back" 1 mtX_Bridge_back (d2 fIxL (dVar 9) (dVar 10)) dNil) dNil) (dCons (dVarV 18) (dCons (dVarV 19) dNil)))))) (dRet (dC (.bl false))) dNext)
  (dIf (dNot (dB (dCall 2 fs_l_same [] (dCons (d1 (fFld exFt "entries") (d2 fIxL (dVar 6) (d2 fIxT (d2 fIxL (dVar 8) (dVar 10)) (dC (.int (1)))))) (dCons (dCB fTuple (dCons (dCB fSorted (dCons (dVar 19) dNil)) dNil)) dNil))))) (dRet (dC (.bl false))) dNext)))))))
  (dSeq (dFor (dIL (d2 fIxL (dVar 5) (dC (.int (0))))) (gN 11) (dSeq (dAsg 20 (dCallOX (fun _ _ _ => False) 2 mtX_Bridge___call__ (d2 fIxL (dVar 9) (dC (.int (0)))) (dCons (d2 fIxT (dVar 11) (dC (.int (1)))) dNil)))
  (dIf (dAnd (dB (d2 fNotN (dVar 20) (dC .non))) (dNot (dB (dCall 2 fs_l_same [] (dCons (dCallOX (fun _ _ _ => False) 2 mtX_Bridge___call__ (d2 fIxL (dVar 9) (dC (.int (1)))) (dCons (dVarV 20) dNil)) (dCons (dCallOX (fun _ _ _ => False) 2 mtX_Bridge___call__ (d2 fIxL (dVar 9) (dC (.int (2)))) (dCons (d2 fIxT (dVar 11) (dC (.int (1)))) dNil)) dNil)))))) (dRet (dC (.bl false))) dNext)))
  (dSeq (dAsg 12 (d2 fIxL (dLst (dCons (dC (.str "word")) (dCons (dC (.str "number")) dNil))) (dCB fInt (dCons (d2 fEq (dVar 2) (dC (.str "word"))) dNil))))
  (dSeq (dAsg 13 (dFz (dMakeN "Book" 4 fs_Book___init__ [.tup []] (dCons (dVarV 12) (dCons (dC (.int (3))) dNil)))))
  (dSeq (dIf (dNot (dB (dCall 3 fs_l_refused [] (dCons (d2 fIxL (dVar 6) (dC (.int (0)))) (dCons (dVarV 13) (dCons (dTup (dCons (dVarV 2) (dCons (dVarV 12) dNil))) dNil)))))) (dRet (dC (.bl false))) dNext)
  (dSeq (dIf (dNot (dB (dCall 3 fs_l_refused [] (dCons (dVarV 13) (dCons (d2 fIxL (dVar 6) (dC (.int (1)))) (dCons (dTup (dCons (dVarV 12) (dCons (dVarV 2) dNil))) dNil)))))) (dRet (dC (.bl false))) dNext)
  (dRet (dCall 3 fs_l_right [] (dCons (d2 fIxL (dVar 9) (dC (.int (0)))) (dCons (d2 fIxL (dVar 5) (dC (.int (0)))) (dCons (d2 fIxL (dVar 5) (dC (.int (1)))) dNil))))))))))))))))))))
local macro_rules | `(tactic| walk_at "dd") => `(tactic| simp only [dSeq, dNext, dDrop, dRet, dRetN, dBreak, dCont, dIf, dAsg, gN, gsNil, gsCons, gT, dAsgG, dAug, dMut, isL, mApp, mPopAt, mPop, dSetI, RS.kept, dC, dVar, dVarV, dVarM, look, put, d2, d1, RS.ok, RS.data, OC.data, dNil, dCons, RS.fz, RS.now, dCB, dCall, dCallB, dCallZ, noNew, flatR, flatD, ownIx, argsOf, upds, putC,
  fI0, fI, fU, fEq, fNe, fIsN, fNotN, fAddS, fLtS, fCat, fRep, fIxL, fIxT, fIxS, fLen, fLenS, fInt, fAbs, fI2, fSum, fMin, fMax, fAll, fAny, fList, fTuple, fIsi, fEqD, fNeD, dNo, dPart, dSl, fSlL, fRev, allV, dLst, dTup, dB, dAnd, dOr, dNot, dAndV, dOrV, dNotV, dIfE, dTru, dChain, dIL, dIT, dIQ, dIR1, dIR2, dIR3, dIZ, dIE, dIV, dYes, dLRg1, dLRg2, dFr, dSt, meltR, fIxQ, dBits, dRd, mIndex, mIns, mClear, mRev, mExt, dCallX, dCallL, dCallLX, lendR, dTryAs_eq, dIsE, dXf, dRaise1, dRaise2, flatAll,
  fAdd, fSub, fMul, fDiv, fMod, fMulW, fDivW, fPow, fLt, fLe, fGt, fGe, fNeg, fMin2, fMax2, startG, endsOf_nx, xcOf, endsOf_rt, endsOf_bk, OutP, wipeG, restore, keepV,
  List.map_cons, List.map_nil, List.length_cons, List.length_nil, List.cons_append, List.nil_append, List.append_nil, List.replicate, true_and, and_true, decide_eq_true_eq, decide_eq_false_iff_not, Bool.not_eq_true', Bool.not_eq_false', forall_const, false_implies, true_implies, List.nodup_cons, List.not_mem_nil, not_false_eq_true, List.nodup_nil, Nat.add_zero, Nat.zero_add, Nat.reduceAdd, Nat.reduceSub, Nat.reduceLeDiff, Nat.reduceMul,
  kb_ii, kb_ib, kb_il, kb_it, kb_is, kb_bi, kb_bb, kb_li, kb_ll, kb_lt, kb_ti, kb_tt, kb_tl, kb_si, kb_sb, kb_ss, kb_ni, kb_nl, kb_nt, Option.some.injEq, exists_eq_left', exists_eq_left, Bool.true_eq_false, Bool.false_eq_true, reduceCtorEq, implies_true, Sx.own.injEq, own_ex, exists_eq', dOk_ints, dOk_nil, deq_ints, deq_ints_nil,  List.length_map, List.length_reverse, Sx.val.injEq, D.int.injEq, D.bl.injEq, D.str.injEq, atI_zero, ixN_s0, seqIx_s0, List.set_cons_zero, List.eraseIdx_cons_zero, List.getElem?_cons_zero, rg_snoc, dLc_eq, dLc2_eq, dRaise0, fShl, fShr, fOr, fAnd, fXor, dFor_eq, dWhile_eq, not_true_eq_false, decide_true, decide_false, fFld, dSetF, dAugF, dMake, dMakeL, dCallN, lentL, lendN, D.nol, nolAll, nolF, nol_ints, nol_strs, dFz, dMeth, dMethX, putD_nil, putD_cons, seqD, dStar, fCatT, fSlT, List.lookup, allV_app, allV_vals, data_app, data_vals, ofS_inj, ofS_beq, String.reduceEq, String.reduceBEq, ↓reduceIte, deq_int, deq_str, deq_tcons, deq_tnil, deq_tints, dOk_tints, decide_not, deq_lnil, deq_lcn, deq_lnc, puts, Bool.not_not, decide_eq_decide, exKit, exKit_1, exKit_2, exKit_3, exKit_4, exKit_5, exKit_6, exKit_7, exKit_8, exKit_9, exKit_10, exKit_11, exRd, ltD_t, ltD_f, exFt, fLtV, fGtV, fLeV, fGeV, fV2, vD_f, vD_t, dom_f, dom_t, Bool.or_true, Bool.true_or, Bool.and_self, Bool.and_true, Bool.true_and, Bool.or_false, Bool.false_or, mp_Bridge_keeps, mc_MOST, fCon, dProp, dOpOX, dMakeN, fInC, fDIn, dDNew, dSetK, fLenD, dIS, dIET, fSorted, dJoin, key_vD, key_int, at_one, dMakeX, dMakeLX, dCMX, dInO, mn_Book___contains__, mtX_Book_code_of, mtX_Book_value_of, mtX_Bridge_back, mtX_Bridge___call__, dCallOX, mCount, fDGet, dVoid, kb_tb, kb_ts, exSub_0, exSub_10, exSub_11])
local macro_rules | `(tactic| walk_at "ds") => `(tactic| (refine q_seq ?_; walk_at "dd"))
local macro_rules | `(tactic| walk_at "dn") => `(tactic| (with_reducible refine q_later (q_seq ?_); walk_at "dd"))
local macro_rules | `(tactic| walk_at "de") => `(tactic| (with_reducible refine q_later ?_; walk_at "dd"))
local macro_rules | `(tactic| walk_at "an") => `(tactic| ((with_reducible refine And.intro ?ga ?_); (case ga => (first | exact True.intro | decide | omega | assumption | exact flat_ints _ | exact dOk_ints _ | exact dOk_tints _))))
local macro_rules | `(tactic| walk_at "go") => `(tactic| repeat (first | walk_at "an" | walk_at "dn" | walk_at "de"))
local macro_rules | `(tactic| walk_at "gg") => `(tactic| ((try walk_at "dd"); walk_at "go"))
local macro_rules | `(tactic| walk_at "xd") => `(tactic| simp only [dNext, dDrop, dRet, dRetN, dBreak, dCont, dIf, dAsg, gN, gsNil, gsCons, gT, dAsgG, dAug, dMut, isL, mApp, mPopAt, mPop, dSetI, RS.kept, dC, dVar, dVarV, dVarM, look, put, d2, d1, RS.ok, RS.data, OC.data, dNil, dCons, RS.fz, RS.now, dCB, dCall, dCallB, dCallZ, noNew, flatR, flatD, ownIx, argsOf, upds, putC,
  fI0, fI, fU, fEq, fNe, fIsN, fNotN, fAddS, fLtS, fCat, fRep, fIxL, fIxT, fIxS, fLen, fLenS, fInt, fAbs, fI2, fSum, fMin, fMax, fAll, fAny, fList, fTuple, fIsi, fEqD, fNeD, dNo, dPart, dSl, fSlL, fRev, allV, dLst, dTup, dB, dAnd, dOr, dNot, dAndV, dOrV, dNotV, dIfE, dTru, dChain, dIL, dIT, dIQ, dIR1, dIR2, dIR3, dIZ, dIE, dIV, dYes, dLRg1, dLRg2, dFr, dSt, meltR, fIxQ, dBits, dRd, mIndex, mIns, mClear, mRev, mExt, dCallX, dCallL, dCallLX, lendR, dTryAs_eq, dIsE, dXf, dRaise1, dRaise2, flatAll,
  fAdd, fSub, fMul, fDiv, fMod, fMulW, fDivW, fPow, fLt, fLe, fGt, fGe, fNeg, fMin2, fMax2, startG, endsOf_nx, xcOf, endsOf_rt, endsOf_bk, OutP, wipeG, restore, keepV,
  List.map_cons, List.map_nil, List.length_cons, List.length_nil, List.cons_append, List.nil_append, List.append_nil, List.replicate, true_and, and_true, decide_eq_true_eq, decide_eq_false_iff_not, Bool.not_eq_true', Bool.not_eq_false', forall_const, false_implies, true_implies, List.nodup_cons, List.not_mem_nil, not_false_eq_true, List.nodup_nil, Nat.add_zero, Nat.zero_add, Nat.reduceAdd, Nat.reduceSub, Nat.reduceLeDiff, Nat.reduceMul,
  kb_ii, kb_ib, kb_il, kb_it, kb_is, kb_bi, kb_bb, kb_li, kb_ll, kb_lt, kb_ti, kb_tt, kb_tl, kb_si, kb_sb, kb_ss, kb_ni, kb_nl, kb_nt, Option.some.injEq, exists_eq_left', exists_eq_left, Bool.true_eq_false, Bool.false_eq_true, reduceCtorEq, implies_true, Sx.own.injEq, own_ex, exists_eq', dOk_ints, dOk_nil, deq_ints, deq_ints_nil,  List.length_map, List.length_reverse, Sx.val.injEq, D.int.injEq, D.bl.injEq, D.str.injEq, atI_zero, ixN_s0, seqIx_s0, List.set_cons_zero, List.eraseIdx_cons_zero, List.getElem?_cons_zero, rg_snoc, dLc_eq, dLc2_eq, dRaise0, fShl, fShr, fOr, fAnd, fXor, dFor_eq, dWhile_eq, not_true_eq_false, decide_true, decide_false, fFld, dSetF, dAugF, dMake, dMakeL, dCallN, lentL, lendN, D.nol, nolAll, nolF, nol_ints, nol_strs, dFz, dMeth, dMethX, putD_nil, putD_cons, seqD, dStar, fCatT, fSlT, List.lookup, allV_app, allV_vals, data_app, data_vals, ofS_inj, ofS_beq, String.reduceEq, String.reduceBEq, ↓reduceIte, deq_int, deq_str, deq_tcons, deq_tnil, deq_tints, dOk_tints, decide_not, deq_lnil, deq_lcn, deq_lnc, puts, Bool.not_not, decide_eq_decide, exKit, exKit_1, exKit_2, exKit_3, exKit_4, exKit_5, exKit_6, exKit_7, exKit_8, exKit_9, exKit_10, exKit_11, exRd, ltD_t, ltD_f, exFt, fLtV, fGtV, fLeV, fGeV, fV2, vD_f, vD_t, dom_f, dom_t, Bool.or_true, Bool.true_or, Bool.and_self, Bool.and_true, Bool.true_and, Bool.or_false, Bool.false_or, mp_Bridge_keeps, mc_MOST, fCon, dProp, dOpOX, dMakeN, fInC, fDIn, dDNew, dSetK, fLenD, dIS, dIET, fSorted, dJoin, key_vD, key_int, at_one, dMakeX, dMakeLX, dCMX, dInO, mn_Book___contains__, mtX_Book_code_of, mtX_Book_value_of, mtX_Bridge_back, mtX_Bridge___call__, dCallOX, mCount, fDGet, dVoid, kb_tb, kb_ts, exSub_0, exSub_10, exSub_11])
local macro_rules | `(tactic| walk_at "xs") => `(tactic| (with_reducible refine q_seq ?_; walk_at "xd"))
local macro_rules | `(tactic| walk_at "xn") => `(tactic| (with_reducible refine q_later (q_seq ?_); walk_at "xd"))
local macro_rules | `(tactic| walk_at "xe") => `(tactic| (with_reducible refine q_later ?_; walk_at "xd"))
local macro_rules | `(tactic| walk_at "xg") => `(tactic| repeat (first | walk_at "an" | walk_at "xn" | walk_at "xe" | walk_at "xs"))
local macro_rules | `(tactic| walk_at "x") => `(tactic| ((try walk_at "xd"); walk_at "xg"))

theorem vD_flt {w : Bool} {v : Vt w} : (vD w v).flt = true := by cases w <;> rfl
theorem vD_inj {w : Bool} {a b : Vt w} (h : vD w a = vD w b) : a = b := by cases w <;> (cases h; rfl)
theorem vK_inj {w : Bool} {a b : Vt w} (h : vK w a = vK w b) : a = b := by cases w <;> (cases h; rfl)
theorem deq_vD {w : Bool} {a b : Vt w} : deq (vD w a) (vD w b) = decide (a = b) := by
  cases w
  · show deq (.int a) (.int b) = _
    rw [deq_int]
  · show deq (.str a) (.str b) = _
    rw [deq_str]
theorem pD_f {e : Pr false} : pD false e = .tup [.int e.1, .int e.2] := rfl
theorem pD_t {e : Pr true} : pD true e = .tup [.str e.1, .int e.2] := rfl
theorem pure_check_room (as : List Sx) (p : RS → List Sx → Prop) (x : Nat → Xf → List Sx → Prop) (hl : as.length = 1) (h : fs_check_room as p x) : ds_check_room (xcOf as x) (endsOf as p) (startG 1 as) := by
  obtain ⟨r, rfl, h1, h2⟩ := h
  unfold badRoom at h1 h2
  unfold ds_check_room
  walk_at "x"
  refine ⟨fun z => ⟨fun w => h1 (by omega), fun w => h2 (by omega)⟩, fun z => h1 (by omega)⟩
theorem pure_is_code (as : List Sx) (p : RS → List Sx → Prop) (hl : as.length = 1) (h : fs_is_code as p) : ds_is_code (endsOf as p) (startG 1 as) := by
  obtain ⟨c, rfl, kk⟩ := h
  unfold ds_is_code
  walk_at "x"
  refine ⟨fun z => ?_, fun z => ?_⟩
  · simpa [z] using kk
  · simpa [z] using kk
theorem all_map {α : Type} {l : List α} {f : α → Bool} : (l.map f).all id = l.all f := by rw [List.all_map]; rfl
theorem map_get {α : Type} {f : α → D} {l : List α} {i : Nat} {d : D} (h : (l.map f)[i]? = some d) : ∃ e, l[i]? = some e ∧ d = f e := by
  rw [List.getElem?_map] at h
  obtain ⟨e, h1, h2⟩ := Option.map_eq_some_iff.mp h
  exact ⟨e, h1, h2.symm⟩
theorem mp_s {α β : Type} {l : List α} {i : Nat} {x : α} (h : l[i]? = some x) (f : α → β) : (l.take i).map f ++ [f x] = (l.take (i + 1)).map f := by
  rw [List.take_add_one, h]
  simp
theorem ft_t {α β : Type} {l : List α} {i : Nat} {x : α} (h : l[i]? = some x) (P : α → Bool) (f : α → β) (hp : P x = true) : ((l.take i).filter P).map f ++ [f x] = ((l.take (i + 1)).filter P).map f := by
  rw [List.take_add_one, h]
  simp [hp]
theorem ft_f {α β : Type} {l : List α} {i : Nat} {x : α} (h : l[i]? = some x) (P : α → Bool) (f : α → β) (hp : P x = false) : ((l.take i).filter P).map f = ((l.take (i + 1)).filter P).map f := by
  rw [List.take_add_one, h]
  simp [hp]
theorem take_all {α : Type} {l : List α} : l.take l.length = l := List.take_of_length_le (Nat.le_refl _)
theorem pure_is_word (as : List Sx) (p : RS → List Sx → Prop) (hl : as.length = 1) (h : fs_is_word as p) : ds_is_word (endsOf as p) (startG 2 as) := by
  obtain ⟨s, rfl, hs, kk⟩ := h
  unfold ds_is_word
  walk_at "x"
  have hs' : s.cps.size ≤ 1000 := hs
  unfold isW at kk
  refine ⟨fun h1 => ⟨fun h2 => ?_, fun h2 => ?_⟩, fun h1 => ?_⟩
  · refine lc_a (by omega) (fun i => (s.cps.toList.take i).map fun c => D.bl (decide (c ∈ letters.cps.toList))) rfl ?_ ?_
    · rintro i _ hi ⟨c, hc, rfl⟩
      walk_at "x"
      refine ⟨c, rfl, mp_s (by rw [Array.getElem?_toList]; exact hc) _⟩
    · walk_at "x"
      refine ⟨(s.cps.toList.map fun c => decide (c ∈ letters.cps.toList)), ?_, ?_⟩
      · rw [List.take_of_length_le (by simp), List.map_map]
        rfl
      · rw [all_map]
        rw [decide_eq_true (show 1 ≤ s.length by omega), decide_eq_true (show s.length ≤ 8 by omega)] at kk
        exact kk
  · rw [decide_eq_false (show ¬ s.length ≤ 8 by omega)] at kk
    simpa using kk
  · rw [decide_eq_false (show ¬ 1 ≤ s.length by omega)] at kk
    simpa using kk
theorem pure_is_value (as : List Sx) (p : RS → List Sx → Prop) (hl : as.length = 2) (h : fs_is_value as p) : ds_is_value (endsOf as p) (startG 2 as) := by
  obtain ⟨w, d, rfl, hs, kk⟩ := h
  cases d <;> try exact hs.elim
  · rename_i v
    cases w
    · unfold ds_is_value
      walk_at "xs"
      have kk : p (.val (.bl (decide (-999999999 ≤ (v : Int)) && decide ((v : Int) ≤ 999999999)))) [.val (.str "number"), .val (.int v)] := kk
      refine ⟨fun z => ?_, fun z => ?_⟩
      · rw [decide_eq_true z] at kk
        exact kk
      · rw [decide_eq_false z] at kk
        exact kk
    · unfold ds_is_value
      walk_at "xs"
      walk_at "x"
      exact kk
  · rename_i v
    cases w
    · unfold ds_is_value
      walk_at "xs"
      exact kk
    · unfold ds_is_value
      walk_at "xs"
      walk_at "x"
      refine ⟨v, rfl, hs.1, ?_⟩
      walk_at "x"
      exact kk
theorem pD_e {w : Bool} {e : Pr w} : pD w e = .tup [vD w e.1, .int e.2] := rfl
theorem pool_len {ms : List Int} (h : Pool ms) : ∃ x xs, ms = x :: xs ∧ 0 ≤ x ∧ (∀ y ∈ xs, 0 ≤ y) ∧ xs.length ≤ 63 := by
  obtain ⟨h1, h2, h3⟩ := h
  cases ms with
  | nil => simp at h2
  | cons x xs => exact ⟨x, xs, rfl, h1 x List.mem_cons_self, fun y hy => h1 y (List.mem_cons_of_mem _ hy), by simp at h3; omega⟩
theorem pool_mk {x : Int} {xs : List Int} (h1 : 0 ≤ x) (h3 : ∀ y ∈ xs, 0 ≤ y) (h4 : xs.length ≤ 63) : Pool (x :: xs) := ⟨fun y hy => by
  rcases List.mem_cons.mp hy with rfl | hy
  · exact h1
  · exact h3 y hy, by simp, by simp; omega⟩
theorem pure_l_take (as : List Sx) (p : RS → List Sx → Prop) (hl : as.length = 2) (h : fs_l_take as p) : ds_l_take (endsOf as p) (startG 3 as) := by
  obtain ⟨ms, m, rfl, hp, h0, h1, k⟩ := h
  obtain ⟨x, xs, rfl, x0, hx, hl2⟩ := pool_len hp
  have rest : ∀ y ys, Pool (y :: ys) → DL.Later (dSeq (dAsg 2 (d2 fMod (dCB fInt (dCons (d2 fIxL (dVar 0) (dC (.int 0))) dNil)) (dVar 1)))
      (dSeq (dSetI 0 (d2 fDivW (d2 fIxL (dVar 0) (dC (.int 0))) (dVar 1)) (dC (.int 0))) (dRet (dVarM 2))))
      (endsOf [.own (some 0) (.lst (intsD (x :: xs))), .val (.int m)] p) [.own (some 0) (.lst (intsD (y :: ys))), .val (.int m), .no] := fun y ys hq => by
    obtain ⟨y', ys', e, y0, hy, hl3⟩ := pool_len hq
    cases e
    walk_at "dn"
    refine ⟨h0, ?_⟩
    walk_at "dn"
    refine ⟨divW h0 h1, ?_⟩
    walk_at "de"
    exact k (y % m) (y / m :: ys) (Int.emod_nonneg _ (by omega)) (Int.emod_lt_of_pos _ h0) (pool_mk (Int.ediv_nonneg y0 (by omega)) hy hl3)
  unfold ds_l_take
  walk_at "ds"
  refine ⟨fun z => ⟨fun w => ?_, fun w => ?_⟩, fun z => ?_⟩
  · cases xs with
    | nil => simp at w
    | cons y ys =>
      refine ⟨by decide, by decide, 1, .int y, by simp [seqIndex?]; omega, rfl, 0, ixN_zero (by simp), ?_⟩
      have y0 := hx y List.mem_cons_self
      exact rest y ys (pool_mk y0 (fun v hv => hx v (List.mem_cons_of_mem _ hv)) (by simp at hl2; omega))
  · exact rest x xs hp
  · exact rest x xs hp

theorem vlt_irr {w : Bool} {a : Vt w} : vlt w a a = false := by
  cases w
  · exact decide_eq_false (Int.lt_irrefl _)
  · exact decide_eq_false (List.lt_irrefl _)
theorem vlt_tr {w : Bool} {a b c : Vt w} (h : vlt w a b = true) (k : vlt w b c = true) : vlt w a c = true := by
  cases w
  · exact decide_eq_true (Int.lt_trans (of_decide_eq_true h) (of_decide_eq_true k))
  · exact decide_eq_true (List.lt_trans (of_decide_eq_true h) (of_decide_eq_true k))
theorem vlt_as {w : Bool} {a b : Vt w} (h : vlt w a b = true) : vlt w b a = false := by
  cases e : vlt w b a with
  | false => rfl
  | true =>
    have := vlt_tr h e
    rw [vlt_irr] at this
    cases this
theorem vlt_ne {w : Bool} {a b : Vt w} (h : vlt w a b = true) : a ≠ b := fun e => by
  subst e
  rw [vlt_irr] at h
  cases h
theorem vlt_tri {w : Bool} (a b : Vt w) : vlt w a b = true ∨ a = b ∨ vlt w b a = true := by
  cases w
  · rcases Int.lt_trichotomy a b with h | h | h
    · exact .inl (decide_eq_true h)
    · exact .inr (.inl h)
    · exact .inr (.inr (decide_eq_true h))
  · by_cases h : (show Str from a).cps.toList < (show Str from b).cps.toList
    · exact .inl (decide_eq_true h)
    · by_cases k : (show Str from b).cps.toList < (show Str from a).cps.toList
      · exact .inr (.inr (decide_eq_true k))
      · exact .inr (.inl (PySem.W.str_of_cps (List.le_antisymm (List.not_lt.mp k) (List.not_lt.mp h))))
theorem eqv_v {w : Bool} {a b : Vt w} : PyData.eqv (vD w a).py (vD w b).py = decide (a = b) := deq_vD
theorem alike_v {w : Bool} {a b : Vt w} : PySem.W.alike (vD w a).py (vD w b).py = true := by cases w <;> rfl
theorem dlt_v {w : Bool} {a b : Vt w} : PySem.W.dataLt (vD w a).py (vD w b).py = vlt w a b := by
  cases w
  · exact PySem.W.dataLt_int _ _
  · exact PySem.W.dataLt_str _ _
theorem dle_pD {w : Bool} (a b : Pr w) : dle (pD w a) (pD w b) = ple w a b := by
  unfold dle
  have e : ∀ c : Pr w, (pD w c).py = .tuple [(vD w c.1).py, .int c.2] := fun c => rfl
  rw [e, e, PySem.W.dataLt_pair alike_v rfl, eqv_v, dlt_v, PySem.W.dataLt_int]
  unfold ple
  rcases vlt_tri a.1 b.1 with h | h | h
  · rw [h, vlt_as h, if_neg (by simp; exact fun q => vlt_ne h q.symm)]
    rfl
  · rw [h, vlt_irr, if_pos (by simp)]
    simp only [PyData.eqv, Bool.false_or, decide_true, Bool.true_and]
    by_cases c : b.2 = a.2
    · simp [c]
    · by_cases d : b.2 < a.2
      · simp [c, d]
      · simp [c, d]
        omega
  · rw [h, vlt_as h, if_neg (by simp; exact fun q => vlt_ne h q)]
    simp only [Bool.not_true, Bool.false_or, Bool.false_eq, Bool.and_eq_false_iff, decide_eq_false_iff_not]
    exact .inl fun q => vlt_ne h q.symm
theorem ple_tr {w : Bool} (a b c : Pr w) (h : ple w a b = true) (k : ple w b c = true) : ple w a c = true := by
  unfold ple at *
  simp only [Bool.or_eq_true, Bool.and_eq_true, decide_eq_true_eq] at *
  rcases h with h | ⟨h1, h2⟩
  · rcases k with k | ⟨k1, k2⟩
    · exact .inl (vlt_tr h k)
    · rw [← k1]; exact .inl h
  · rw [h1]
    rcases k with k | ⟨k1, k2⟩
    · exact .inl k
    · exact .inr ⟨k1, by omega⟩
theorem ple_tot {w : Bool} (a b : Pr w) : (ple w a b || ple w b a) = true := by
  unfold ple
  simp only [Bool.or_eq_true, Bool.and_eq_true, decide_eq_true_eq]
  rcases vlt_tri a.1 b.1 with h | h | h
  · exact .inl (.inl h)
  · rcases Int.le_total a.2 b.2 with c | c
    · exact .inl (.inr ⟨h, c⟩)
    · exact .inr (.inr ⟨h.symm, c⟩)
  · exact .inr (.inl h)
theorem ple_as {w : Bool} (a b : Pr w) (h : ple w a b = true) (k : ple w b a = true) : a = b := by
  unfold ple at *
  simp only [Bool.or_eq_true, Bool.and_eq_true, decide_eq_true_eq] at *
  rcases h with h | ⟨h1, h2⟩
  · rcases k with k | ⟨k1, k2⟩
    · rw [vlt_as h] at k; cases k
    · exact absurd k1.symm (vlt_ne h)
  · rcases k with k | ⟨k1, k2⟩
    · exact absurd h1.symm (vlt_ne k)
    · exact Prod.ext h1 (by omega)
theorem srt_uniq {w : Bool} {es0 es : List (Pr w)} (h : es0.Perm es) (up : Up w es) : es0.mergeSort (ple w) = es := by
  refine List.Perm.eq_of_pairwise (le := fun a b => ple w a b = true) (fun a b _ _ => ple_as a b) (List.pairwise_mergeSort ple_tr ple_tot es0) (up.imp fun {a b} z => ?_) ((List.mergeSort_perm _ _).trans h)
  unfold ple
  rw [z]
  rfl
theorem sort_ps {w : Bool} {es0 es : List (Pr w)} (h : es0.Perm es) (up : Up w es) : (psD w es0).mergeSort dle = psD w es := by
  rw [sort_map (f := pD w) (le := ple w) dle_pD, srt_uniq h up]
/-- code before value -/
def qD (w : Bool) (e : Pr w) : D := .tup [.int e.2, vD w e.1]
theorem srtOk_ps {w : Bool} {es : List (Pr w)} (h : es.length ≤ 1000000) : SrtOk (psD w es) := by
  refine srtOk_of (f := pD w) (fun x => ?_) h (fun x y => ?_) (.inl fun b => ⟨_, _, rfl⟩) (fun x => ?_)
  · cases w <;> rfl
  · cases w <;> rfl
  · cases w <;> simp [pD, qD, vD, D.py, pyAll, PyData.depth, PyData.depthAll]
theorem srtOk_qs {w : Bool} {es : List (Pr w)} (h : es.length ≤ 1000000) : SrtOk (es.map (qD w)) := by
  refine srtOk_of (f := qD w) (fun x => ?_) h (fun x y => ?_) (.inl fun b => ⟨_, _, rfl⟩) (fun x => ?_)
  · cases w <;> rfl
  · cases w <;> rfl
  · cases w <;> simp [pD, qD, vD, D.py, pyAll, PyData.depth, PyData.depthAll]
theorem sort_qs {w : Bool} (es : List (Pr w)) : ∃ es' : List (Pr w), (es.map (qD w)).mergeSort dle = es'.map (qD w) ∧ es'.Perm es :=
  ⟨_, sort_map (f := qD w) (le := fun a b => dle (qD w a) (qD w b)) (fun _ _ => rfl) es, List.mergeSort_perm _ _⟩
theorem ok_pair {a b : D} (h : dOkN 0 a = true) (k : dOkN 0 b = true) : dOkN 1 (.tup [a, b]) = true :=
  ok_tup (f := fun x : D => x) (xs := [a, b]) fun x hx => by
    rcases List.mem_cons.mp hx with rfl | hx
    · exact h
    · rcases List.mem_cons.mp hx with rfl | hx
      · exact k
      · cases hx
/-- is the next code above? -/
def bo {w : Bool} (es : List (Pr w)) (j : Nat) : Bool := match es[j]?, es[j + 1]? with
  | some a, some b => decide (a.2 < b.2)
  | _, _ => false
theorem adj_up {w : Bool} (es : List (Pr w)) : (List.range (es.length - 1)).all (bo es) = upc es := by
  have e : (List.range (es.length - 1)).all (bo es) = true ↔ es.Pairwise fun a b => a.2 < b.2 := by
    rw [List.all_eq_true]
    constructor
    · intro h
      refine List.pairwise_iff_getElem.mpr fun i j hi hj hij => ?_
      have step : ∀ m, (hm : m + 1 < es.length) → es[m].2 < es[m + 1].2 := fun m hm => by
        have := h m (List.mem_range.mpr (by omega))
        unfold bo at this
        rw [List.getElem?_eq_getElem (show m < es.length by omega), List.getElem?_eq_getElem hm] at this
        exact of_decide_eq_true this
      have all : ∀ d, (hd : i + d + 1 < es.length) → es[i].2 < es[i + d + 1].2 := fun d => by
        induction d with
        | zero => exact fun hd => step i hd
        | succ d ih => exact fun hd => Int.lt_trans (ih (by omega)) (step (i + d + 1) hd)
      have := all (j - i - 1) (by omega)
      have q : i + (j - i - 1) + 1 = j := by omega
      simp only [q] at this
      exact this
    · intro h j hj
      have hj := List.mem_range.mp hj
      unfold bo
      rw [List.getElem?_eq_getElem (show j < es.length by omega), List.getElem?_eq_getElem (show j + 1 < es.length by omega)]
      exact decide_eq_true (List.pairwise_iff_getElem.mp h j (j + 1) (by omega) (by omega) (by omega))
  unfold upc
  by_cases c : es.Pairwise fun a b => a.2 < b.2
  · rw [decide_eq_true c, e.mpr c]
  · rw [decide_eq_false c]
    cases q : (List.range (es.length - 1)).all (bo es) with
    | false => rfl
    | true => exact absurd (e.mp q) c
theorem pure_in_order (as : List Sx) (p : RS → List Sx → Prop) (hl : as.length = 1) (h : fs_in_order as p) : ds_in_order (endsOf as p) (startG 5 as) := by
  obtain ⟨w, es, rfl, hn, up, kk⟩ := h
  unfold ds_in_order
  walk_at "x"
  rw [cut_from (by decide), show (1 : Int).toNat = 1 from rfl]
  have hm : min es.length ((psD w es).drop 1).length = es.length - 1 := by simp
  rw [hm]
  refine lc_a (by omega) (fun i => (List.range i).map fun j => D.bl (bo es j)) rfl ?_ ?_
  · rintro i _ hi ⟨x, y, hx, hy, rfl⟩
    rw [List.getElem?_drop] at hy
    obtain ⟨a, ha, rfl⟩ := map_get hx
    obtain ⟨b, hb, rfl⟩ := map_get hy
    rw [Nat.add_comm] at hb
    have hv : vlt w a.1 b.1 = true := by
      obtain ⟨h1, e1⟩ := List.getElem?_eq_some_iff.mp ha
      obtain ⟨h2, e2⟩ := List.getElem?_eq_some_iff.mp hb
      rw [← e1, ← e2]
      exact List.pairwise_iff_getElem.mp up i (i + 1) h1 h2 (by omega)
    have hb' : bo es i = decide (a.2 < b.2) := by
      unfold bo
      rw [ha, hb]
    have goal : (List.range i).map (fun j => D.bl (bo es j)) ++ [D.bl (decide (a.2 < b.2))] = (List.range (i + 1)).map fun j => D.bl (bo es j) := by
      rw [List.range_succ, List.map_append, ← hb']
      rfl
    rw [pD_e, pD_e]
    cases w
    · have hv' : (a.1 : Int) < (b.1 : Int) := of_decide_eq_true hv
      walk_at "x"
      exact ⟨fun _ => ⟨fun z => by rw [hb', decide_eq_true z], fun z => ⟨fun e => absurd e (vlt_ne hv), fun e => by rw [hb', decide_eq_false z]⟩⟩, fun z => absurd hv' z⟩
    · have hv' : slt a.1 b.1 = true := hv
      walk_at "x"
      exact ⟨fun _ => ⟨fun z => by rw [hb', decide_eq_true z], fun z => ⟨fun e => absurd e (vlt_ne hv), fun e => by rw [hb', decide_eq_false z]⟩⟩, fun z => by rw [hv'] at z; cases z⟩
  · walk_at "x"
    refine ⟨(List.range (es.length - 1)).map (bo es), List.map_map.symm, ?_⟩
    rw [all_map, adj_up]
    exact kk
theorem pure_told_by_first (as : List Sx) (p : RS → List Sx → Prop) (hl : as.length = 1) (h : fs_told_by_first as p) : ds_told_by_first (endsOf as p) (startG 3 as) := by
  obtain ⟨w, ps, rfl, hn, hf, nd, kk⟩ := h
  unfold ds_told_by_first
  walk_at "x"
  rw [cut_from (by decide), show (1 : Int).toNat = 1 from rfl]
  generalize hm : min ps.length _ = m
  have hm' : m ≤ 1000 := by
    have : m ≤ ps.length := by rw [← hm]; exact Nat.min_le_left _ _
    omega
  refine lc_a (by omega) (fun i => (List.replicate i true).map D.bl) rfl ?_ ?_
  · rintro i _ hi ⟨x, y, hx, hy, rfl⟩
    rw [List.getElem?_drop] at hy
    obtain ⟨a, ha, rfl⟩ := map_get hx
    obtain ⟨b, hb, rfl⟩ := map_get hy
    rw [Nat.add_comm] at hb
    obtain ⟨h1, e1⟩ := List.getElem?_eq_some_iff.mp ha
    obtain ⟨h2, e2⟩ := List.getElem?_eq_some_iff.mp hb
    have ne : a.1 ≠ b.1 := by
      have := List.pairwise_iff_getElem.mp nd i (i + 1) (by simpa using h1) (by simpa using h2) (by omega)
      rw [List.getElem_map, List.getElem_map, e1, e2] at this
      exact this
    have d1 : dOk (.tup [vD w a.1, a.2]) = true := dOk_of (ok_pair (hf a (by rw [← e1]; exact List.getElem_mem _)).1 (hf a (by rw [← e1]; exact List.getElem_mem _)).2) (by decide)
    have d2 : dOk (.tup [vD w b.1, b.2]) = true := dOk_of (ok_pair (hf b (by rw [← e2]; exact List.getElem_mem _)).1 (hf b (by rw [← e2]; exact List.getElem_mem _)).2) (by decide)
    have goal : (List.replicate i true).map D.bl ++ [D.bl true] = D.bl true :: (List.replicate i true).map D.bl := by
      rw [show D.bl true :: (List.replicate i true).map D.bl = (List.replicate (i + 1) true).map D.bl from rfl]
      simp [List.replicate_succ']
    cases w
    · have ne' : ¬ (a.1 : Int) = (b.1 : Int) := ne
      walk_at "x"
      exact ⟨fun z => goal, fun z => by rw [decide_eq_false ne']; exact goal⟩
    · have ne' : ¬ (a.1 : Str) = (b.1 : Str) := ne
      walk_at "x"
      exact ⟨fun z => goal, fun z => by rw [decide_eq_false ne']; exact goal⟩
  · walk_at "x"
    refine ⟨List.replicate m true, rfl, ?_⟩
    rw [show (List.replicate m true).all id = true by simp]
    exact kk
theorem ok_v {w : Bool} {v : Vt w} (h : isV w v = true) : dOkN 0 (vD w v) = true := by
  cases w
  · exact ok_int _
  · have h : isW v = true := h
    unfold isW at h
    simp only [Bool.and_eq_true, decide_eq_true_eq, List.all_eq_true] at h
    unfold dOkN
    have lt : ∀ c ∈ letters.cps.toList, c < 0x110000 := by decide
    have : PyData.strOk v = true := by
      unfold PyData.strOk
      rw [Array.all_eq_true]
      intro i hi
      exact decide_eq_true (lt _ (h.2.2 _ (by rw [Array.mem_toList_iff]; exact Array.getElem_mem hi)))
    simp [D.pure, vD, D.py, PyData.canLay0, PyData.depth, this]
theorem up_nd {w : Bool} {es : List (Pr w)} (up : Up w es) : (fsts es).Nodup := List.Pairwise.map _ (fun a b h => vlt_ne h) up
theorem eqg_cons {e : Pr false} {r : List (Pr false)} : eqg false (e :: r) = if (r.all fun x => decide (gap x = gap e)) = true then some (gap e) else none := rfl
theorem eqg_some {es : List (Pr false)} {g : Int} (ne : es ≠ []) (h : ∀ e ∈ es, gap e = g) : eqg false es = some g := by
  cases es with
  | nil => exact absurd rfl ne
  | cons e r =>
    have h0 := h e List.mem_cons_self
    rw [eqg_cons, if_pos (List.all_eq_true.mpr fun x hx => decide_eq_true (by rw [h x (List.mem_cons_of_mem _ hx), h0])), h0]
theorem eqg_all {es : List (Pr false)} {g : Int} (h : eqg false es = some g) : ∀ e ∈ es, gap e = g := by
  cases es with
  | nil => cases h
  | cons e r =>
    rw [eqg_cons] at h
    split at h
    · rename_i q
      injection h with h
      intro x hx
      rcases List.mem_cons.mp hx with rfl | hx
      · exact h
      · rw [← h]
        exact of_decide_eq_true (List.all_eq_true.mp q x hx)
    · cases h
theorem eqg_t {es : List (Pr true)} : eqg true es = none := by cases es <;> rfl
theorem kpt_none {w : Bool} {es : List (Pr w)} (ne : es ≠ []) (h : eqg w es = none) : kpt w es = if upc es then ("order" : Str) else ("same" : Str) := by
  unfold kpt
  rw [if_neg ne, h]
theorem kpt_some {w : Bool} {es : List (Pr w)} {g : Int} (ne : es ≠ []) (h : eqg w es = some g) : kpt w es = if g = 0 then ("value" : Str) else ("distance" : Str) := by
  unfold kpt
  rw [if_neg ne, h]
theorem eqg_upc {w : Bool} {es : List (Pr w)} {g : Int} (up : Up w es) (h : eqg w es = some g) : upc es = true := by
  cases w
  · refine decide_eq_true (List.Pairwise.imp_of_mem (fun {a b} ha hb (hab : vlt false a.1 b.1 = true) => ?_) up)
    have hab' : (a.1 : Int) < (b.1 : Int) := of_decide_eq_true hab
    have ma : a.2 - (a.1 : Int) = g := eqg_all h a ha
    have mb : b.2 - (b.1 : Int) = g := eqg_all h b hb
    have key : ∀ x y c d : Int, x < y → c - x = g → d - y = g → c < d := fun x y c d _ _ _ => by omega
    exact key a.1 b.1 a.2 b.2 hab' ma mb
  · rw [eqg_t] at h; cases h
theorem rl_kpt {w : Bool} {es : List (Pr w)} (up : Up w es) : (upc es = true → kpt w es = "order" ∨ kpt w es = "distance" ∨ kpt w es = "value") ∧ (upc es = false → kpt w es = "same") := by
  by_cases ne : es = []
  · subst ne
    exact ⟨fun _ => .inr (.inr rfl), fun q => by cases q⟩
  · cases h : eqg w es with
    | none =>
      rw [kpt_none ne h]
      exact ⟨fun u => .inl (by rw [u]; rfl), fun u => by rw [u]; rfl⟩
    | some g =>
      rw [kpt_some ne h, eqg_upc up h]
      refine ⟨fun _ => ?_, fun q => by cases q⟩
      split
      · exact .inr (.inr rfl)
      · exact .inr (.inl rfl)
def kb_T : DS := (dSeq (dIf (dB (dCallL 1 fs_in_order (dCons (dVar 1) dNil))) (dRet (dC (.str "order"))) dNext)
  (dSeq (dIf (dAnd (dB (dCallL 1 fs_told_by_first (dCons (dVar 1) dNil))) (dB (dCallL 1 fs_told_by_first (dCons (dCB fSorted (dCons (dLc (dIL (dVarV 1)) (gT 2 (gsCons (gN 3) (gsCons (gN 4) gsNil))) dYes (dTup (dCons (dVarV 4) (dCons (dVarV 3) dNil))) [3, 4]) dNil)) dNil)))) (dRet (dC (.str "same"))) dNext)
  (dRet (dC (.str "none")))))
theorem kb_rest {w : Bool} {es : List (Pr w)} {p : RS → List Sx → Prop} (hn : es.length ≤ 1000) (up : Up w es) (nd : (snds es).Nodup) (hv : ∀ e ∈ es, isV w e.1 = true) (ne : es ≠ []) (he : eqg w es = none) (kk : p (.val (.str (kpt w es))) [.val (.lst (psD w es))]) {s1 s2 : Sx}
    (h1 : s1 = .own none (.lst (psD w es)) ∨ s1 = .val (.lst (psD w es))) : DL.Later kb_T (endsOf [.val (.lst (psD w es))] p) [.val (.lst (psD w es)), s1, s2, .no, .no] := by
  have io : ∀ q : RS → List Sx → Prop, q (.val (.bl (upc es))) [.val (.lst (psD w es))] → fs_in_order [.val (.lst (psD w es))] q := fun q hq => ⟨w, es, rfl, hn, up, hq⟩
  have t1 : ∀ q : RS → List Sx → Prop, q (.val (.bl true)) [.val (.lst (psD w es))] → fs_told_by_first [.val (.lst (psD w es))] q := fun q hq => ⟨w, es.map fun e => (e.1, D.int e.2), by rw [List.map_map]; rfl, by simpa using hn, fun e he => by
    obtain ⟨a, ha, rfl⟩ := List.mem_map.mp he
    exact ⟨ok_v (hv a ha), ok_int _⟩, by rw [List.map_map]; exact up_nd up, hq⟩
  obtain ⟨es', hq, hperm⟩ := sort_qs es
  have t2 : ∀ q : RS → List Sx → Prop, q (.val (.bl true)) [.val (.lst (es'.map (qD w)))] → fs_told_by_first [.val (.lst (es'.map (qD w)))] q := fun q hq => ⟨false, es'.map fun e => (e.2, vD w e.1), by rw [List.map_map]; rfl, by rw [List.length_map, hperm.length_eq]; exact hn, fun e he => by
    obtain ⟨a, ha, rfl⟩ := List.mem_map.mp he
    exact ⟨ok_int _, ok_v (hv a (hperm.mem_iff.mp ha))⟩, by
    rw [List.map_map]
    exact (hperm.map Prod.snd).nodup_iff.mpr nd, hq⟩
  rw [kpt_none ne he] at kk
  unfold kb_T
  rcases h1 with rfl | rfl
  all_goals
    walk_at "xn"
    refine io _ ?_
    walk_at "xd"
    refine ⟨fun z => by rw [z] at kk; exact kk, fun z => ?_⟩
    walk_at "xn"
    refine t1 _ ?_
    walk_at "xd"
    refine lc_a (by omega) (fun i => (es.take i).map (qD w)) rfl ?_ ?_
    · rintro i _ hi hx
      obtain ⟨e, he, rfl⟩ := map_get hx
      rw [pD_e]
      walk_at "x"
      exact mp_s he (qD w)
    · rw [take_all]
      walk_at "xd"
      refine ⟨srtOk_qs (by omega), ?_⟩
      rw [hq]
      refine t2 _ ?_
      walk_at "xd"
      rw [z] at kk
      exact kk
theorem pure_kept_by (as : List Sx) (p : RS → List Sx → Prop) (hl : as.length = 1) (h : fs_kept_by as p) : ds_kept_by (endsOf as p) (startG 5 as) := by
  obtain ⟨w, es, rfl, hn, up, nd, hv, kk⟩ := h
  unfold ds_kept_by
  walk_at "xs"
  refine lc_a (by omega) (fun i => psD w (es.take i)) rfl ?_ ?_
  · rintro i _ hi hx
    obtain ⟨e, he, rfl⟩ := map_get hx
    rw [pD_e]
    walk_at "x"
    exact mp_s he (pD w)
  · rw [take_all]
    walk_at "xd"
    refine ⟨srtOk_ps (by omega), ?_⟩
    rw [sort_ps (List.Perm.refl es) up]
    walk_at "xn"
    refine ⟨fun z => ?_, fun z => ?_⟩
    · have : es = [] := by
        cases es with
        | nil => rfl
        | cons a b => simp at z
      subst this
      exact kk
    · have ne : es ≠ [] := fun e => by subst e; cases z
      obtain ⟨e0, h0⟩ : ∃ e0, es[0]? = some e0 := by
        cases es with
        | nil => exact absurd rfl ne
        | cons a b => exact ⟨a, rfl⟩
      have a0 : atI (psD w es) 0 = some (pD w e0) := atI_map (f := pD w) (atI_nat (j := 0) h0)
      cases w
      · walk_at "xn"
        refine ⟨_, a0, ?_⟩
        rw [pD_e]
        walk_at "xd"
        walk_at "xs"
        refine lc_a (by omega) (fun i => (es.take i).map fun e => D.int (e.2 - (e.1 : Int))) rfl ?_ ?_
        · rintro i _ hi hx
          obtain ⟨e, he, rfl⟩ := map_get hx
          rw [pD_e]
          walk_at "x"
          exact mp_s he fun e => D.int (e.2 - (e.1 : Int))
        · rw [take_all]
          walk_at "xd"
          walk_at "xe"
          have ln : 0 < (es.map fun e => e.2 - (e.1 : Int)).length := by
            rw [List.length_map]
            exact List.length_pos_iff.mpr ne
          have em : (es.map fun e => D.int (e.2 - (e.1 : Int))) = (es.map fun e => e.2 - (e.1 : Int)).map D.int := List.map_map.symm
          refine ⟨_, em, ln, fun m hm hlo => ⟨_, em, ln, fun M hM hhi => ⟨fun e => ?_, fun hne => ?_⟩⟩⟩
          · have all : ∀ x ∈ es, gap x = m := fun x hx => by
              have mx := List.mem_map_of_mem (f := fun e : Pr false => e.2 - (e.1 : Int)) hx
              have h1 : m ≤ x.2 - (x.1 : Int) := hlo _ mx
              have h2 : x.2 - (x.1 : Int) ≤ M := hhi _ mx
              have key : ∀ a b : Int, m ≤ b - a → b - a ≤ M → m = M → b - a = m := fun a b _ _ _ => by omega
              exact key x.1 x.2 h1 h2 e
            have g := eqg_some ne all
            rw [kpt_some ne g] at kk
            have e0m : e0.2 - (e0.1 : Int) = m := all e0 (List.mem_of_getElem? h0)
            refine ⟨_, atI_map (f := fun e : Pr false => D.int (e.2 - (e.1 : Int))) (atI_nat (j := 0) h0), ?_⟩
            walk_at "xd"
            rw [e0m]
            refine ⟨fun z => by rw [if_pos z] at kk; exact kk, fun z => by rw [if_neg z] at kk; exact kk⟩
          · refine kb_rest hn up nd hv ne ?_ kk (.inr rfl)
            cases g : eqg false es with
            | none => rfl
            | some g' =>
              have all := eqg_all g
              obtain ⟨a, ha, ea⟩ := List.mem_map.mp hm
              obtain ⟨b, hb, eb⟩ := List.mem_map.mp hM
              have h1 : m = g' := by rw [← ea]; exact all a ha
              have h2 : M = g' := by rw [← eb]; exact all b hb
              exact absurd (h1.trans h2.symm) hne
      · walk_at "xn"
        refine ⟨_, a0, ?_⟩
        rw [pD_e]
        walk_at "xd"
        exact kb_rest hn up nd hv ne eqg_t kk (.inl rfl)

theorem isVD_v {w : Bool} {v : Vt w} : isVD w (vD w v) = isV w v := by cases w <;> rfl
theorem isVD_of {w : Bool} {d : D} (h : isVD w d = true) : ∃ v : Vt w, d = vD w v ∧ isV w v = true := by
  cases d <;> try (cases h; done)
  · rename_i n
    cases w
    · exact ⟨n, rfl, h⟩
    · cases h
  · rename_i n
    cases w
    · cases h
    · exact ⟨n, rfl, h⟩
theorem iq_ok {t : Bool} {ds : List D} {P : List D → Prop} (h : P ds) : (match ltD t ds with
  | .lst ds => P ds
  | .tup ds => P ds
  | _ => False) := by cases t <;> exact h
theorem in_dom {w : Bool} {q : RS → Prop} (h : q (.val (.bl false))) : fInQ true (.str (dom w)) (.tup [.str "number", .str "word"]) q := by
  cases w
  · refine ⟨rfl, rfl, ?_⟩
    simpa [deq_str, dom_f] using h
  · refine ⟨rfl, rfl, ?_⟩
    simpa [deq_str, dom_t] using h
def kdv (w : Bool) (es : List (Pr w)) : List (Key × D) := es.map fun e => (vK w e.1, .int e.2)
def kdc (w : Bool) (es : List (Pr w)) : List (Key × D) := es.map fun e => (.inl e.2, vD w e.1)
theorem any_key {α : Type} {f : α → Key × D} {l : List α} {k : Key} : ((l.map f).any fun kv => decide (kv.1 = k)) = l.any fun a => decide ((f a).1 = k) := by rw [List.any_map]; rfl
theorem vlk_some {kd : List (Key × D)} {k : Key} : (vlk kd k).isSome = kd.any fun kv => decide (kv.1 = k) := by
  unfold vlk
  rw [Option.isSome_map]
  rw [Bool.eq_iff_iff, List.find?_isSome, List.any_eq_true]
theorem kdv_in {w : Bool} {es : List (Pr w)} {v : Vt w} : (vlk (kdv w es) (vK w v)).isSome = decide (v ∈ fsts es) := by
  rw [vlk_some]
  unfold kdv
  rw [any_key, Bool.eq_iff_iff, List.any_eq_true, decide_eq_true_eq, List.mem_map]
  constructor
  · rintro ⟨e, he, hk⟩
    exact ⟨e, he, vK_inj (of_decide_eq_true hk)⟩
  · rintro ⟨e, he, rfl⟩
    exact ⟨e, he, decide_eq_true rfl⟩
theorem kdc_in {w : Bool} {es : List (Pr w)} {c : Int} : (vlk (kdc w es) (.inl c)).isSome = decide (c ∈ snds es) := by
  rw [vlk_some]
  unfold kdc
  rw [any_key, Bool.eq_iff_iff, List.any_eq_true, decide_eq_true_eq, List.mem_map]
  constructor
  · rintro ⟨e, he, hk⟩
    have := of_decide_eq_true hk
    exact ⟨e, he, by injection this⟩
  · rintro ⟨e, he, rfl⟩
    exact ⟨e, he, decide_eq_true rfl⟩
theorem vlk_kdv {w : Bool} {es : List (Pr w)} (nd : (fsts es).Nodup) {e : Pr w} (he : e ∈ es) : vlk (kdv w es) (vK w e.1) = some (.int e.2) := by
  unfold vlk kdv
  rw [List.find?_map]
  have key : es.find? ((fun kv : Key × D => decide (kv.1 = vK w e.1)) ∘ fun e => (vK w e.1, D.int e.2)) = some e := by
    have hs : (es.find? ((fun kv : Key × D => decide (kv.1 = vK w e.1)) ∘ fun e => (vK w e.1, D.int e.2))).isSome = true := List.find?_isSome.mpr ⟨e, he, decide_eq_true rfl⟩
    obtain ⟨a, ha⟩ := Option.isSome_iff_exists.mp hs
    have h1 := List.mem_of_find?_eq_some ha
    have h2 := List.find?_some ha
    have h3 : a.1 = e.1 := vK_inj (of_decide_eq_true h2)
    rw [ha]
    congr 1
    obtain ⟨i, hi, rfl⟩ := List.mem_iff_getElem.mp h1
    obtain ⟨j, hj, rfl⟩ := List.mem_iff_getElem.mp he
    have : i = j := by
      have := (List.getElem_inj (h₀ := by simpa using hi) (h₁ := by simpa using hj) nd).mp (by simpa using h3)
      exact this
    subst this
    rfl
  rw [key]
  rfl
theorem vlk_kdc {w : Bool} {es : List (Pr w)} (nd : (snds es).Nodup) {e : Pr w} (he : e ∈ es) : vlk (kdc w es) (.inl e.2) = some (vD w e.1) := by
  unfold vlk kdc
  rw [List.find?_map]
  have key : es.find? ((fun kv : Key × D => decide (kv.1 = .inl e.2)) ∘ fun e => ((.inl e.2 : Key), vD w e.1)) = some e := by
    have hs : (es.find? ((fun kv : Key × D => decide (kv.1 = .inl e.2)) ∘ fun e => ((.inl e.2 : Key), vD w e.1))).isSome = true := List.find?_isSome.mpr ⟨e, he, decide_eq_true rfl⟩
    obtain ⟨a, ha⟩ := Option.isSome_iff_exists.mp hs
    have h1 := List.mem_of_find?_eq_some ha
    have h2 := List.find?_some ha
    have h3 : a.2 = e.2 := by have := of_decide_eq_true h2; injection this
    rw [ha]
    congr 1
    obtain ⟨i, hi, rfl⟩ := List.mem_iff_getElem.mp h1
    obtain ⟨j, hj, rfl⟩ := List.mem_iff_getElem.mp he
    have : i = j := by
      have := (List.getElem_inj (h₀ := by simpa using hi) (h₁ := by simpa using hj) nd).mp (by simpa using h3)
      exact this
    subst this
    rfl
  rw [key]
  rfl
theorem ptk_new {kd : List (Key × D)} {k : Key} {d : D} (h : (vlk kd k).isSome = false) : ptk kd k d = kd ++ [(k, d)] := by
  unfold ptk
  rw [← vlk_some, h]
  rfl
theorem nd_at {α : Type} {l : List α} {i : Nat} {a : α} (nd : l.Nodup) (h : l[i]? = some a) : a ∉ l.take i := fun hm => by
  obtain ⟨j, hj, e⟩ := List.mem_iff_getElem.mp hm
  rw [List.length_take] at hj
  rw [List.getElem_take] at e
  obtain ⟨hi, e2⟩ := List.getElem?_eq_some_iff.mp h
  have := List.pairwise_iff_getElem.mp nd j i (by omega) hi (by omega)
  exact this (e.trans e2.symm)
def bi_T (xc : DX) : DS := (dSeq (dIf (dB (d2 fGt (dCB fLenD (dCons (dVar 4) dNil)) (d1 (fCon "MOST" mc_MOST) (dVar 0)))) (dRaise1 xc 7 "value" (dCons (d2 fIxT (d2 fIxQ (dVar 3) (d1 (fCon "MOST" mc_MOST) (dVar 0))) (dC (.int (0)))) dNil)) dNext)
  (dSeq (dAsg 6 (dCB fSorted (dCons (dLc (dIQ (dVarV 3)) (gT 2 (gsCons (gN 8) (gsCons (gN 9) gsNil))) dYes (dTup (dCons (dVarV 8) (dCons (dVarV 9) dNil))) [8, 9]) dNil)))
  (dSeq (dAsg 7 (dLc (dIL (dVarV 6)) (gT 2 (gsCons (gN 8) (gsCons (gN 9) gsNil))) (dB (d2 fLt (dVar 9) (dVar 2))) (dTup (dCons (dVarV 8) (dCons (dVarV 9) dNil))) [8, 9]))
  (dSeq (dFor (dIZ (dCons (dVarV 7) (dCons (dSl fSlL (dVar 7) (dPart (dC (.int (1)))) dNo) dNil))) (gT 2 (gsCons (gT 2 (gsCons (gN 10) (gsCons (gN 11) gsNil))) (gsCons (gT 2 (gsCons (gN 8) (gsCons (gN 9) gsNil))) gsNil))) (dIf (dB (d2 fLe (dVar 9) (dVar 11))) (dRaise1 xc 8 "value" (dCons (dVarV 8) dNil)) dNext))
  (dSeq (dSetF exFt 0 "domain" (dVarV 1))
  (dSeq (dSetF exFt 0 "room" (dVarV 2))
  (dSeq (dSetF exFt 0 "entries" (dCB fTuple (dCons (dVar 6) dNil)))
  (dSeq (dSetF exFt 0 "code_by_value" (dVarV 4))
  (dSeq (dSetF exFt 0 "value_by_code" (dVarV 5))
  (dSetF exFt 0 "relation" (dCall 1 fs_kept_by [] (dCons (dVarV 6) dNil))))))))))))
theorem bi_rest {w t : Bool} {room : Int} {es0 es : List (Pr w)} {p : RS → List Sx → Prop} {xc : DX} {a8 a9 : Sx} (hp : es0.Perm es) (E : Ents w es room)
    (kk : ∀ fs, Bk w room es fs → p (.val .non) [.own (some 0) (.ins "Book" fs), .val (.str (dom w)), .val (.int room), .val (ltD t (psD w es0))]) :
    DL.Later (bi_T xc) (endsOf [.own (some 0) (.ins "Book" []), .val (.str (dom w)), .val (.int room), .val (ltD t (psD w es0))] p)
      [.own (some 0) (.ins "Book" []), .val (.str (dom w)), .val (.int room), .val (ltD t (psD w es0)), .own none (.dct (kdv w es0)), .own none (.dct (kdc w es0)), .no, .no, a8, a9, .no, .no] := by
  have hn := E.len
  have hn0 : es0.length ≤ 120 := by rw [hp.length_eq]; exact hn
  have l4 : (kdv w es0).length = es0.length := List.length_map ..
  unfold bi_T
  walk_at "xn"
  rw [l4]
  refine ⟨fun z => by omega, fun _ => ?_⟩
  walk_at "xn"
  refine iq_ok (P := fun ds => LcOk ds.length (fun i d => ds[i]? = some d) _ _ _ _ _ _) ?_
  simp only [List.length_map]
  refine lc_a (by omega) (fun i => psD w (es0.take i)) rfl ?_ ?_
  · rintro i _ hi hx
    obtain ⟨e, he, rfl⟩ := map_get hx
    rw [pD_e]
    walk_at "x"
    exact mp_s he (pD w)
  rw [take_all]
  walk_at "xd"
  refine ⟨srtOk_ps (by omega), ?_⟩
  rw [sort_ps hp E.up]
  walk_at "xn"
  refine lc_a (by omega) (fun i => psD w ((es.take i).filter fun e => decide (e.2 < room))) rfl ?_ ?_
  · rintro i _ hi hx
    obtain ⟨e, he, rfl⟩ := map_get hx
    rw [pD_e]
    walk_at "x"
    exact ⟨fun z => ft_t he _ (pD w) (decide_eq_true z), fun z => ft_f he _ (pD w) (decide_eq_false z)⟩
  rw [take_all]
  walk_at "xd"
  have inr := E.inr
  have lR : (es.filter fun e => decide (e.2 < room)).length ≤ es.length := List.length_filter_le _ _
  generalize (es.filter fun e => decide (e.2 < room)) = R at inr lR
  walk_at "xn"
  rw [cut_from (by decide), show (1 : Int).toNat = 1 from rfl]
  refine for_ok (fun i γ => ∃ b8 b9 b10 b11, γ = [.own (some 0) (.ins "Book" []), .val (.str (dom w)), .val (.int room), .val (ltD t (psD w es0)), .own none (.dct (kdv w es0)), .own none (.dct (kdc w es0)), .val (.lst (psD w es)), .val (.lst (psD w R)), b8, b9, b10, b11]) ⟨_, _, _, _, rfl⟩ ?_ ?_
  · rintro i _ hi ⟨b8, b9, b10, b11, rfl⟩ _ ⟨x, y, hx, hy, rfl⟩
    rw [List.getElem?_drop] at hy
    obtain ⟨a, ha, rfl⟩ := map_get hx
    obtain ⟨b, hb, rfl⟩ := map_get hy
    rw [Nat.add_comm] at hb
    have lt : a.2 < b.2 := by
      obtain ⟨h1, e1⟩ := List.getElem?_eq_some_iff.mp ha
      obtain ⟨h2, e2⟩ := List.getElem?_eq_some_iff.mp hb
      rw [← e1, ← e2]
      exact List.pairwise_iff_getElem.mp inr i (i + 1) h1 h2 (by omega)
    rw [pD_e, pD_e]
    walk_at "x"
    exact fun z => ⟨_, _, _, _, rfl⟩
  · rintro _ ⟨b8, b9, b10, b11, rfl⟩
    walk_at "x"
    refine ⟨w, es, rfl, by omega, E.up, E.nd, E.val, ?_⟩
    walk_at "x"
    refine kk _ ⟨rfl, rfl, rfl, rfl, rfl, rfl, rfl, ⟨_, rfl, fun v => ?_, fun e he => ?_⟩, ⟨_, rfl, fun c => ?_, fun e he => ?_⟩⟩
    · rw [kdv_in]
      exact decide_eq_decide.mpr (hp.map Prod.fst).mem_iff
    · exact vlk_kdv ((hp.map Prod.fst).nodup_iff.mpr (up_nd E.up)) (hp.mem_iff.mpr he)
    · rw [kdc_in]
      exact decide_eq_decide.mpr (hp.map Prod.snd).mem_iff
    · exact vlk_kdc ((hp.map Prod.snd).nodup_iff.mpr E.nd) (hp.mem_iff.mpr he)
theorem vS_of {w : Bool} {v : Vt w} (h : isV w v = true) : vS w v := by
  cases w
  · exact trivial
  · have h : isW v = true := h
    unfold isW at h
    simp only [Bool.and_eq_true, decide_eq_true_eq] at h
    have := h.2.1
    show v.length ≤ 1000
    omega
theorem strOk_v {v : Str} (h : isW v = true) : PyData.strOk v = true := by
  unfold isW at h
  simp only [Bool.and_eq_true, decide_eq_true_eq, List.all_eq_true] at h
  have lt : ∀ c ∈ letters.cps.toList, c < 0x110000 := by decide
  unfold PyData.strOk
  rw [Array.all_eq_true]
  intro i hi
  exact decide_eq_true (lt _ (h.2.2 _ (by rw [Array.mem_toList_iff]; exact Array.getElem_mem hi)))
theorem vl_of {w : Bool} {v : Vt w} (h : isV w v = true) : vlOk (vD w v) := by
  cases w
  · exact trivial
  · exact ⟨vS_of (w := true) h, strOk_v h⟩
theorem pure_Book___init__ (as : List Sx) (p : RS → List Sx → Prop) (x : Nat → Xf → List Sx → Prop) (hl : as.length = 4) (h : fs_Book___init__ as p x) : ds_Book___init__ (xcOf as x) (endsOf as p) (startG 12 as) := by
  obtain ⟨w, t, room, es0, rfl, h⟩ := h
  unfold ds_Book___init__
  walk_at "xs"
  refine in_dom ?_
  walk_at "xd"
  walk_at "xn"
  rcases h with ⟨bad, hx⟩ | ⟨es, hp, E, kk⟩
  · refine ⟨room, rfl, fun _ => ?_, fun z => absurd bad z⟩
    walk_at "x"
    exact hx
  have hn := E.len
  have hn0 : es0.length ≤ 120 := by rw [hp.length_eq]; exact hn
  have nd0 : (snds es0).Nodup := (hp.map Prod.snd).nodup_iff.mpr E.nd
  have nv0 : (fsts es0).Nodup := (hp.map Prod.fst).nodup_iff.mpr (up_nd E.up)
  have val0 : ∀ e ∈ es0, isV w e.1 = true := fun e he => E.val e (hp.mem_iff.mp he)
  have cod0 : ∀ e ∈ es0, 0 ≤ e.2 ∧ e.2 ≤ 9999999 := fun e he => E.cod e (hp.mem_iff.mp he)
  have r0 := E.r0
  have r1 := E.r1
  refine ⟨room, rfl, fun z => absurd ⟨r0, r1⟩ z, fun _ => ?_⟩
  walk_at "xd"
  walk_at "xn"
  walk_at "xn"
  walk_at "xn"
  refine iq_ok (P := fun ds => ForOk ds.length (fun i d => ds[i]? = some d) _ _ _ _) ?_
  simp only [List.length_map]
  refine for_ok (fun i γ => ∃ a8 a9, γ = [.own (some 0) (.ins "Book" []), .val (.str (dom w)), .val (.int room), .val (ltD t (psD w es0)), .own none (.dct (kdv w (es0.take i))), .own none (.dct (kdc w (es0.take i))), .no, .no, a8, a9, .no, .no]) ⟨_, _, rfl⟩ ?_ ?_
  · rintro i _ hi ⟨a8, a9, rfl⟩ _ hx
    obtain ⟨e, he, rfl⟩ := map_get hx
    have me : e ∈ es0 := List.mem_of_getElem? he
    have n1 : (vlk (kdv w (es0.take i)) (vK w e.1)).isSome = false := by
      rw [kdv_in]
      refine decide_eq_false ?_
      show e.1 ∉ (es0.take i).map Prod.fst
      rw [List.map_take]
      exact nd_at nv0 (by rw [List.getElem?_map, he]; rfl)
    have n2 : (vlk (kdc w (es0.take i)) (.inl e.2)).isSome = false := by
      rw [kdc_in]
      refine decide_eq_false ?_
      show e.2 ∉ (es0.take i).map Prod.snd
      rw [List.map_take]
      exact nd_at nd0 (by rw [List.getElem?_map, he]; rfl)
    have p1 : ptk (kdv w (es0.take i)) (vK w e.1) (.int e.2) = kdv w (es0.take (i + 1)) := by
      rw [ptk_new n1]
      exact mp_s he fun e => (vK w e.1, D.int e.2)
    have p2 : ptk (kdc w (es0.take i)) (.inl e.2) (vD w e.1) = kdc w (es0.take (i + 1)) := by
      rw [ptk_new n2]
      exact mp_s he fun e => ((.inl e.2 : Key), vD w e.1)
    have q1 : (kdv w (es0.take i)).length < 1000000 := by unfold kdv; rw [List.length_map, List.length_take]; omega
    have q2 : (kdc w (es0.take i)).length < 1000000 := by unfold kdc; rw [List.length_map, List.length_take]; omega
    rw [pD_e]
    walk_at "xd"
    walk_at "xs"
    refine ⟨w, vD w e.1, rfl, vl_of (val0 e me), ?_⟩
    rw [isVD_v, val0 e me]
    walk_at "xd"
    walk_at "xn"
    refine ⟨e.2, rfl, ?_⟩
    rw [decide_eq_true (cod0 e me).1, decide_eq_true (cod0 e me).2]
    walk_at "xd"
    walk_at "xn"
    rw [n1, n2]
    walk_at "xd"
    walk_at "xn"
    refine ⟨⟨_, _, rfl, rfl⟩, q1, ?_⟩
    rw [p1]
    walk_at "xe"
    refine ⟨⟨_, _, rfl, rfl⟩, q2, ?_⟩
    rw [p2]
    exact ⟨_, _, rfl⟩
  · rintro _ ⟨a8, a9, rfl⟩
    rw [take_all]
    exact bi_rest hp E kk

theorem pure_Book___contains__ (as : List Sx) (p : RS → List Sx → Prop) (hl : as.length = 2) (h : fs_Book___contains__ as p) : ds_Book___contains__ (endsOf as p) (startG 2 as) := by
  obtain ⟨w, room, es, fs, v, rfl, B, val, kk⟩ := h
  unfold ds_Book___contains__
  walk_at "x"
  refine ⟨_, B.dm, ?_⟩
  refine ⟨w, vD w v, rfl, vl_of val, ?_⟩
  rw [isVD_v, val]
  walk_at "x"
  obtain ⟨kd, k1, k2, k3⟩ := B.cv
  refine ⟨_, k1, ?_⟩
  walk_at "x"
  rw [k2 v]
  exact kk
theorem pure_Book_code_of (as : List Sx) (p : RS → List Sx → Prop) (x : Nat → Xf → List Sx → Prop) (hl : as.length = 2) (h : fs_Book_code_of as p x) : ds_Book_code_of (xcOf as x) (endsOf as p) (startG 2 as) := by
  obtain ⟨w, room, es, fs, e, rfl, B, val, he, kk⟩ := h
  unfold ds_Book_code_of
  walk_at "xs"
  refine ⟨w, room, es, fs, e.1, rfl, B, val, ?_⟩
  rw [decide_eq_true (List.mem_map_of_mem (f := Prod.fst) he)]
  refine ⟨_, rfl, fun z => (by cases z), fun _ => ?_⟩
  walk_at "x"
  obtain ⟨kd, k1, k2, k3⟩ := B.cv
  refine ⟨_, k1, ?_⟩
  walk_at "x"
  exact ⟨_, _, rfl, k3 e he, kk⟩
theorem cnt_len {low : Int} {n : Nat} : (cnt low n).length = n := by unfold cnt; simp
theorem pure_Book_counted (as : List Sx) (p : RS → List Sx → Prop) (x : Nat → Xf → List Sx → Prop) (hl : as.length = 4) (h : fs_Book_counted as p x) : ds_Book_counted (xcOf as x) (endsOf as p) (startG 5 as) := by
  obtain ⟨low, room, n, rfl, hn, l0, l1, h⟩ := h
  unfold ds_Book_counted
  walk_at "x"
  rw [show (low + n - 1 + 1 - low).toNat = n by omega]
  refine lc_a (by omega) (fun i => psD false (cnt low i)) rfl ?_ ?_
  · rintro i _ hi rfl
    walk_at "x"
    unfold psD cnt
    rw [List.range_succ, List.map_append, List.map_append]
    refine congrArg _ ?_
    show [D.tup [D.int (low + i), D.int (low + i - low)]] = [D.tup [D.int (low + i), D.int i]]
    rw [show low + (i : Int) - low = i by omega]
  walk_at "xd"
  rcases h with ⟨bad, hx⟩ | ⟨E, kk⟩
  · exact ⟨false, false, room, cnt low n, rfl, .inl ⟨bad, rfl, hx⟩⟩
  · exact ⟨false, false, room, cnt low n, rfl, .inr ⟨_, List.Perm.refl _, E, fun fs B => ⟨rfl, rfl, kk fs B⟩⟩⟩
theorem pure_Book_value_of (as : List Sx) (p : RS → List Sx → Prop) (x : Nat → Xf → List Sx → Prop) (hl : as.length = 2) (h : fs_Book_value_of as p x) : ds_Book_value_of (xcOf as x) (endsOf as p) (startG 2 as) := by
  obtain ⟨w, room, es, fs, c, rfl, B, E, hx, kk⟩ := h
  obtain ⟨kd, k1, k2, k3⟩ := B.vc
  unfold ds_Book_value_of
  walk_at "xs"
  refine ⟨c, rfl, ?_⟩
  by_cases m : c ∈ snds es
  · obtain ⟨e, he, ee⟩ := List.mem_map.mp m
    subst ee
    rw [decide_eq_true (E.cod e he).1, decide_eq_true (E.cod e he).2]
    walk_at "xd"
    refine ⟨_, k1, ?_⟩
    walk_at "xd"
    rw [k2, decide_eq_true m]
    walk_at "xd"
    walk_at "xe"
    refine ⟨_, k1, ?_⟩
    walk_at "xd"
    exact ⟨_, _, rfl, k3 e he, kk e.1 he⟩
  · cases (decide (0 ≤ c) && decide (c ≤ 9999999)) with
    | false =>
      walk_at "xd"
      exact hx m
    | true =>
      walk_at "xd"
      refine ⟨_, k1, ?_⟩
      walk_at "xd"
      rw [k2, decide_eq_false m]
      walk_at "xd"
      exact hx m
theorem strOk_dOk {s : Str} (h : PyData.strOk s = true) : dOkN 0 (.str s) = true := by
  unfold dOkN
  simp [D.pure, D.py, PyData.canLay0, PyData.depth, h]
theorem pureH_l_same (as : List Sx) (p : RS → List Sx → Prop) (hl : as.length = 2) (h : fsH_l_same as p) : dsH_l_same (endsOf as p) (startG 3 as) := by
  obtain ⟨d, rfl, hd, kk⟩ := h
  cases d <;> try exact hd.elim
  · unfold dsH_l_same
    walk_at "x"
    exact kk
  · rename_i i
    unfold dsH_l_same
    walk_at "x"
    have q : dOk (.int i) = true := dOk_of (ok_int _) (by decide)
    exact ⟨q, q, kk⟩
  · rename_i s
    unfold dsH_l_same
    walk_at "x"
    have q : dOk (.str s) = true := dOk_of (strOk_dOk hd.2) (by decide)
    exact ⟨q, q, kk⟩
theorem pure_l_same (m : Nat) (as : List Sx) (p : RS → List Sx → Prop) (hl : as.length = 2) (h : fs_l_samen m as p) : ds_l_same (fro_l_same m) (endsOf as p) (startG 3 as) := by
  obtain ⟨d, rfl, hd, kk⟩ := h
  cases d <;> try (cases m <;> exact hd.elim)
  · unfold ds_l_same
    walk_at "x"
    exact kk
  · rename_i i
    unfold ds_l_same
    walk_at "x"
    have q : dOk (.int i) = true := dOk_of (ok_int _) (by decide)
    exact ⟨q, q, kk⟩
  · rename_i s
    have hs : PyData.strOk s = true := by cases m <;> exact hd.2
    unfold ds_l_same
    walk_at "x"
    have q : dOk (.str s) = true := dOk_of (strOk_dOk hs) (by decide)
    exact ⟨q, q, kk⟩
  · rename_i ds
    cases m with
    | zero => exact hd.elim
    | succ m =>
    obtain ⟨h1, h2⟩ := hd
    unfold ds_l_same
    walk_at "x"
    refine lc_a (by omega) (fun i => (List.replicate i true).map D.bl) rfl ?_ ?_
    · rintro i _ hi rfl
      have hi' : i < ds.length := by omega
      have goal : (List.replicate i true).map D.bl ++ [D.bl true] = D.bl true :: (List.replicate i true).map D.bl := by
        rw [show D.bl true :: (List.replicate i true).map D.bl = (List.replicate (i + 1) true).map D.bl from rfl]
        simp [List.replicate_succ']
      walk_at "x"
      refine ⟨_, atI_ofNat hi', _, atI_ofNat hi', ds[i], rfl, h2 _ (List.getElem_mem hi'), ?_⟩
      walk_at "x"
      exact goal
    · walk_at "x"
      refine ⟨_, rfl, ?_⟩
      rw [show (List.replicate (ds.length : Int).toNat true).all id = true by simp]
      exact kk
theorem pureG_l_same (as : List Sx) (p : RS → List Sx → Prop) (hl : as.length = 2) (h : fsG_l_same as p) : ds_l_same fsH_l_same (endsOf as p) (startG 3 as) := by
  obtain ⟨d, rfl, hd, kk⟩ := h
  cases d <;> try (exact hd.elim)
  · unfold ds_l_same
    walk_at "x"
    exact kk
  · rename_i i
    unfold ds_l_same
    walk_at "x"
    have q : dOk (.int i) = true := dOk_of (ok_int _) (by decide)
    exact ⟨q, q, kk⟩
  · rename_i s
    have hs : PyData.strOk s = true := hd.2
    unfold ds_l_same
    walk_at "x"
    have q : dOk (.str s) = true := dOk_of (strOk_dOk hs) (by decide)
    exact ⟨q, q, kk⟩
  · rename_i ds
    obtain ⟨h1, h2⟩ := hd
    unfold ds_l_same
    walk_at "x"
    refine lc_a (by omega) (fun i => (List.replicate i true).map D.bl) rfl ?_ ?_
    · rintro i _ hi rfl
      have hi' : i < ds.length := by omega
      have goal : (List.replicate i true).map D.bl ++ [D.bl true] = D.bl true :: (List.replicate i true).map D.bl := by
        rw [show D.bl true :: (List.replicate i true).map D.bl = (List.replicate (i + 1) true).map D.bl from rfl]
        simp [List.replicate_succ']
      walk_at "x"
      refine ⟨_, atI_ofNat hi', _, atI_ofNat hi', ds[i], rfl, h2 _ (List.getElem_mem hi'), ?_⟩
      walk_at "x"
      exact goal
    · walk_at "x"
      refine ⟨_, rfl, ?_⟩
      rw [show (List.replicate (ds.length : Int).toNat true).all id = true by simp]
      exact kk

theorem map_inj {α β : Type} {f : α → β} {l : List α} (nd : (l.map f).Nodup) {a e : α} (ha : a ∈ l) (he : e ∈ l) (h : f a = f e) : a = e := by
  obtain ⟨i, hi, rfl⟩ := List.mem_iff_getElem.mp ha
  obtain ⟨j, hj, rfl⟩ := List.mem_iff_getElem.mp he
  have : i = j := (List.getElem_inj (h₀ := by simpa using hi) (h₁ := by simpa using hj) nd).mp (by simpa using h)
  subst this
  rfl
theorem find_in {w : Bool} {b : List (Pr w)} (nd : (fsts b).Nodup) {e : Pr w} (he : e ∈ b) : b.find? (fun a => decide (a.1 = e.1)) = some e := by
  have hs : (b.find? fun a => decide (a.1 = e.1)).isSome = true := List.find?_isSome.mpr ⟨e, he, decide_eq_true rfl⟩
  obtain ⟨a, ha⟩ := Option.isSome_iff_exists.mp hs
  rw [ha, map_inj (f := Prod.fst) nd (List.mem_of_find?_eq_some ha) he (of_decide_eq_true (by have := List.find?_some ha; exact this))]
theorem cd_in {w : Bool} {b : List (Pr w)} (nd : (fsts b).Nodup) {e : Pr w} (he : e ∈ b) : cd b e.1 = e.2 := by
  unfold cd
  rw [find_in nd he]
  rfl
theorem cdD_in {w : Bool} {b : List (Pr w)} (nd : (fsts b).Nodup) {e : Pr w} (he : e ∈ b) : cdD b e.1 = .int e.2 := by
  unfold cdD
  rw [find_in nd he]
theorem cdD_out {w : Bool} {b : List (Pr w)} {v : Vt w} (h : v ∉ fsts b) : cdD b v = .non := by
  unfold cdD
  have : b.find? (fun a => decide (a.1 = v)) = none := List.find?_eq_none.mpr fun a ha q => h (List.mem_map.mpr ⟨a, ha, of_decide_eq_true q⟩)
  rw [this]
theorem bq_len {w : Bool} {a b : List (Pr w)} : (bq a b).length ≤ a.length := by
  unfold bq
  rw [List.length_map]
  exact List.length_filter_le _ _
theorem brg_perm {w : Bool} {a b : List (Pr w)} : (brg a b).Perm (bq a b) := List.mergeSort_perm _ _
theorem brg_len {w : Bool} {a b : List (Pr w)} : (brg a b).length ≤ a.length := by
  rw [brg_perm.length_eq]
  exact bq_len
theorem bq_fst {w : Bool} {a b : List (Pr w)} (nd : (snds a).Nodup) : (fsts (bq a b)).Nodup := by
  have e : fsts (bq a b) = snds (a.filter fun e => decide (e.1 ∈ fsts b)) := List.map_map
  rw [e]
  exact nd.sublist (List.filter_sublist.map _)
theorem bq_snd {w : Bool} {a b : List (Pr w)} (na : (fsts a).Nodup) (nb : (fsts b).Nodup) (ns : (snds b).Nodup) : (snds (bq a b)).Nodup := by
  have e : snds (bq a b) = (a.filter fun e => decide (e.1 ∈ fsts b)).map fun e => cd b e.1 := List.map_map
  rw [e]
  have p : (a.filter fun e => decide (e.1 ∈ fsts b)).Pairwise fun x y => x.1 ≠ y.1 := by
    have := na.sublist ((List.filter_sublist (p := fun e => decide (e.1 ∈ fsts b)) (l := a)).map Prod.fst)
    exact List.pairwise_map.mp this
  refine List.pairwise_map.mpr (p.imp_of_mem fun {x y} hx hy ne q => ?_)
  obtain ⟨f, hf, ef⟩ := List.mem_map.mp (of_decide_eq_true (List.mem_filter.mp hx).2)
  obtain ⟨g, hg, eg⟩ := List.mem_map.mp (of_decide_eq_true (List.mem_filter.mp hy).2)
  rw [← ef, ← eg, cd_in nb hf, cd_in nb hg] at q
  have := map_inj (f := Prod.snd) ns hf hg q
  subst this
  exact ne (ef.symm.trans eg)
theorem brg_up {w : Bool} {a b : List (Pr w)} (nd : (snds a).Nodup) : Up false (brg a b) := by
  have p1 : (brg a b).Pairwise fun x y => ple false x y = true := List.pairwise_mergeSort ple_tr ple_tot _
  have p2 : (brg a b).Pairwise fun x y => x.1 ≠ y.1 := List.pairwise_map.mp ((brg_perm.map Prod.fst).nodup_iff.mpr (bq_fst nd))
  refine (p1.and p2).imp fun {x y} ⟨h, n⟩ => ?_
  unfold ple at h
  rw [decide_eq_false n] at h
  simpa using h
theorem brg_snd {w : Bool} {a b : List (Pr w)} (na : (fsts a).Nodup) (nb : (fsts b).Nodup) (ns : (snds b).Nodup) : (snds (brg a b)).Nodup := (brg_perm.map Prod.snd).nodup_iff.mpr (bq_snd na nb ns)
theorem brg_val {w : Bool} {a b : List (Pr w)} {r : Int} (E : Ents w a r) : ∀ e ∈ brg a b, isV false e.1 = true := fun e he => by
  obtain ⟨x, hx, rfl⟩ := List.mem_map.mp (brg_perm.mem_iff.mp he)
  obtain ⟨c0, c1⟩ := E.cod x (List.mem_filter.mp hx).1
  show (decide (-999999999 ≤ x.2) && decide (x.2 ≤ 999999999)) = true
  rw [decide_eq_true (by omega), decide_eq_true (by omega)]
  rfl
theorem sort_brg {w : Bool} {a b : List (Pr w)} : (psD false (bq a b)).mergeSort dle = psD false (brg a b) := sort_map (f := pD false) (le := ple false) dle_pD _
theorem dom_inj {w w' : Bool} (h : dom w = dom w') : w = w' := by
  cases w <;> cases w' <;> first | rfl | (revert h; decide)
theorem bq_t {w : Bool} {a b : List (Pr w)} {i : Nat} {e : Pr w} (h : a[i]? = some e) (hm : e.1 ∈ fsts b) : psD false (bq (a.take i) b) ++ [D.tup [D.int e.2, D.int (cd b e.1)]] = psD false (bq (a.take (i + 1)) b) := by
  unfold bq psD
  rw [List.take_add_one, h]
  simp [hm]
  rfl
theorem bq_f {w : Bool} {a b : List (Pr w)} {i : Nat} {e : Pr w} (h : a[i]? = some e) (hm : e.1 ∉ fsts b) : psD false (bq (a.take i) b) = psD false (bq (a.take (i + 1)) b) := by
  unfold bq psD
  rw [List.take_add_one, h]
  simp [hm]
theorem pure_Bridge_keeps (as : List Sx) (p : RS → List Sx → Prop) (hl : as.length = 1) (h : fs_Bridge_keeps as p) : ds_Bridge_keeps (endsOf as p) (startG 1 as) := by
  obtain ⟨w, a, b, fs, rfl, B, kk⟩ := h
  obtain ⟨r1, g1, _, _, E1⟩ := B.f1
  obtain ⟨r2, g2, _, _, E2⟩ := B.f2
  have l1 := E1.len
  have l2 := brg_len (a := a) (b := b)
  unfold ds_Bridge_keeps
  walk_at "x"
  refine ⟨_, B.pr, ?_⟩
  walk_at "x"
  refine ⟨false, brg a b, rfl, by omega, brg_up E1.nd, brg_snd (up_nd E1.up) (up_nd E2.up) E2.nd, brg_val E1, ?_⟩
  walk_at "x"
  exact kk
theorem pure_Bridge___init__ (as : List Sx) (p : RS → List Sx → Prop) (x : Nat → Xf → List Sx → Prop) (hl : as.length = 3) (h : fs_Bridge___init__ as p x) : ds_Bridge___init__ (xcOf as x) (endsOf as p) (startG 6 as) := by
  obtain ⟨w, w', r, r', a, b, g, g', rfl, B, B', E, E', hx, kk⟩ := h
  unfold ds_Bridge___init__
  walk_at "xs"
  refine ⟨_, B.dm, _, B'.dm, ?_⟩
  by_cases h : w' = w
  · subst h
    refine ⟨fun z => by simp at z, fun _ => ?_⟩
    have ln := E.len
    walk_at "xn"
    refine ⟨_, B.en, ?_⟩
    refine lc_a (by simp; omega) (fun i => psD false (bq (a.take i) b)) rfl ?_ ?_
    · rintro i _ hi hx
      obtain ⟨e, he, rfl⟩ := map_get hx
      have me : e ∈ a := List.mem_of_getElem? he
      rw [pD_e]
      walk_at "x"
      refine ⟨w', r', b, g', e.1, rfl, B', E.val e me, ?_⟩
      walk_at "x"
      by_cases m : e.1 ∈ fsts b
      · rw [decide_eq_true m]
        refine ⟨_, rfl, fun _ => ?_, fun z => (by cases z)⟩
        obtain ⟨f, hf, ef⟩ := List.mem_map.mp m
        have ef : f.1 = e.1 := ef
        refine ⟨B'.co, w', r', b, g', f, by rw [ef], B', E'.val f hf, hf, ?_⟩
        walk_at "x"
        have q := bq_t he m
        rw [← ef, cd_in (up_nd E'.up) hf] at q
        exact q
      · rw [decide_eq_false m]
        exact ⟨_, rfl, fun z => (by cases z), fun _ => bq_f he m⟩
    simp only [List.length_map]
    rw [take_all]
    walk_at "x"
    have lb := bq_len (a := a) (b := b)
    refine ⟨srtOk_ps (by omega), ?_⟩
    rw [sort_brg]
    walk_at "x"
    refine kk rfl _ ⟨⟨_, _, rfl, B, E⟩, ⟨_, _, rfl, B', E'⟩, rfl, rfl⟩
  · refine ⟨fun _ => ?_, fun z => absurd (dom_inj (by simpa using z)).symm h⟩
    walk_at "x"
    refine ⟨_, B.dm, _, B'.dm, ?_⟩
    exact hx fun z => h z.symm
theorem pure_Bridge___call__ (as : List Sx) (p : RS → List Sx → Prop) (x : Nat → Xf → List Sx → Prop) (hl : as.length = 2) (h : fs_Bridge___call__ as p x) : ds_Bridge___call__ (xcOf as x) (endsOf as p) (startG 3 as) := by
  obtain ⟨w, a, b, fs, c, rfl, G, hx, kk⟩ := h
  obtain ⟨r1, g1, h1, B1, E1⟩ := G.f1
  obtain ⟨r2, g2, h2, B2, E2⟩ := G.f2
  unfold ds_Bridge___call__
  walk_at "xs"
  refine ⟨_, h1, ?_⟩
  refine ⟨B1.vo, _, rfl, w, r1, a, g1, c, rfl, B1, E1, fun m => hx m, fun v hv => ?_⟩
  walk_at "xd"
  walk_at "xn"
  refine ⟨_, h2, ?_⟩
  walk_at "xd"
  have vv : isV w v = true := E1.val _ hv
  refine ⟨w, r2, b, g2, v, rfl, B2, vv, ?_⟩
  have kv := kk v hv
  by_cases m : v ∈ fsts b
  · rw [decide_eq_true m]
    walk_at "xd"
    refine ⟨_, rfl, fun _ => ?_, fun z => (by cases z)⟩
    obtain ⟨f, hf, ef⟩ := List.mem_map.mp m
    subst ef
    refine ⟨_, h2, ?_⟩
    refine ⟨B2.co, _, rfl, w, r2, b, g2, f, rfl, B2, vv, hf, ?_⟩
    walk_at "x"
    rw [cdD_in (up_nd E2.up) hf] at kv
    exact kv
  · rw [decide_eq_false m]
    walk_at "xd"
    refine ⟨_, rfl, fun z => (by cases z), fun _ => ?_⟩
    walk_at "x"
    rw [cdD_out m] at kv
    exact kv
theorem pure_Bridge_back (as : List Sx) (p : RS → List Sx → Prop) (x : Nat → Xf → List Sx → Prop) (hl : as.length = 1) (h : fs_Bridge_back as p x) : ds_Bridge_back (xcOf as x) (endsOf as p) (startG 1 as) := by
  obtain ⟨w, a, b, fs, rfl, G, kk⟩ := h
  obtain ⟨r1, g1, h1, B1, E1⟩ := G.f1
  obtain ⟨r2, g2, h2, B2, E2⟩ := G.f2
  unfold ds_Bridge_back
  walk_at "x"
  refine ⟨_, h2, _, h1, ?_⟩
  exact ⟨w, w, r2, r1, b, a, g2, g1, rfl, B2, B1, E2, E1, fun z => absurd rfl z, fun h fs' G' => ⟨rfl, rfl, kk fs' G'⟩⟩

def words10 : List Str := ["a", "aa", "ab", "b", "oslo", "paris", "pisa", "rome", "zz", "zzzzzzzz"]
theorem words10_up : words10.Pairwise fun a b => slt a b = true := by decide
theorem words10_ok : ∀ s ∈ words10, isW s = true := by decide
theorem pure_l_room (as : List Sx) (p : RS → List Sx → Prop) (hl : as.length = 2) (h : fs_l_room as p) : ds_l_room (endsOf as p) (startG 2 as) := by
  obtain ⟨ms, k, rfl, hp, kk⟩ := h
  unfold ds_l_room
  walk_at "xs"
  refine ⟨fun z => kk 1 ms (by decide) (by decide) (fun _ => rfl) hp, fun z => ?_⟩
  walk_at "xe"
  refine ⟨ms, 4, rfl, hp, by decide, by decide, fun e ms2 e0 e1 hp2 => ?_⟩
  walk_at "xd"
  obtain ⟨r, hr, r0, r1⟩ : ∃ r : Int, atI [D.int 4, D.int 20, D.int 1, D.int 1000000] e = some (.int r) ∧ 1 ≤ r ∧ r ≤ 1000000 := by
    obtain ⟨k, rfl⟩ : ∃ k : Nat, e = (k : Int) := ⟨e.toNat, by omega⟩
    have : k < 4 := by omega
    match k, this with
    | 0, _ => exact ⟨4, rfl, by decide, by decide⟩
    | 1, _ => exact ⟨20, rfl, by decide, by decide⟩
    | 2, _ => exact ⟨1, rfl, by decide, by decide⟩
    | 3, _ => exact ⟨1000000, rfl, by decide, by decide⟩
  refine ⟨_, hr, ?_⟩
  walk_at "x"
  exact kk _ _ r0 r1 (fun h => absurd h z) hp2
theorem pure_l_values (as : List Sx) (p : RS → List Sx → Prop) (hl : as.length = 3) (h : fs_l_values as p) : ds_l_values (endsOf as p) (startG 7 as) := by
  obtain ⟨ms, w, n, rfl, hp, hn, kk⟩ := h
  unfold ds_l_values
  walk_at "xs"
  refine ⟨ms, 4, rfl, hp, by decide, by decide, fun a ms1 a0 a1 hp1 => ?_⟩
  obtain ⟨low, hr, l0, l1⟩ : ∃ r : Int, atI [D.int (-3), D.int (-999999999), D.int 999999900, D.int 0] a = some (.int r) ∧ -999999999 ≤ r ∧ r ≤ 999999900 := by
    obtain ⟨k, rfl⟩ : ∃ k : Nat, a = (k : Int) := ⟨a.toNat, by omega⟩
    have : k < 4 := by omega
    match k, this with
    | 0, _ => exact ⟨-3, rfl, by decide, by decide⟩
    | 1, _ => exact ⟨-999999999, rfl, by decide, by decide⟩
    | 2, _ => exact ⟨999999900, rfl, by decide, by decide⟩
    | 3, _ => exact ⟨0, rfl, by decide, by decide⟩
  walk_at "xd"
  refine ⟨_, hr, ?_⟩
  walk_at "xn"
  walk_at "xn"
  refine ⟨ms1, 3, rfl, hp1, by decide, by decide, fun s ms2 s0 s1 hp2 => ?_⟩
  walk_at "xd"
  cases w
  · walk_at "xn"
    walk_at "xe"
    refine ⟨by omega, by omega, ?_⟩
    rw [Int.toNat_natCast]
    refine lc_a (by omega) (fun i => (List.range i).map fun k : Nat => D.int (low + (1 + s) * (k : Int))) rfl ?_ ?_
    · rintro i _ hi rfl
      walk_at "x"
      exact .inl ⟨by omega, by omega⟩
    · have K := kk ((List.range n).map fun k : Nat => low + (1 + s) * (k : Int)) ms2 (by simp; omega) (List.pairwise_map.mpr ((List.pairwise_lt_range (n := n)).imp fun {i j} h => ?_)) (fun v hv => ?_) hp2
      · walk_at "xd"
        rw [List.map_map] at K
        exact K
      · refine decide_eq_true ?_
        show low + (1 + s) * (i : Int) < low + (1 + s) * (j : Int)
        have := Int.mul_lt_mul_of_pos_left (show (i : Int) < j by omega) (show 0 < 1 + s by omega)
        omega
      · obtain ⟨i, hi, rfl⟩ := List.mem_map.mp hv
        have hi := List.mem_range.mp hi
        have h1 : 0 ≤ (1 + s) * (i : Int) := Int.mul_nonneg (by omega) (by omega)
        have h2 : (1 + s) * (i : Int) ≤ 3 * 8 := Int.mul_le_mul (by omega) (by omega) (by omega) (by decide)
        show (decide (-999999999 ≤ low + (1 + s) * (i : Int)) && decide (low + (1 + s) * (i : Int) ≤ 999999999)) = true
        rw [decide_eq_true (by omega), decide_eq_true (by omega)]
        rfl
  · walk_at "xn"
    refine ⟨ms2, 3, rfl, hp2, by decide, by decide, fun b ms3 b0 b1 hp3 => ?_⟩
    walk_at "xd"
    rw [show [D.str "a", D.str "aa", D.str "ab", D.str "b", D.str "oslo", D.str "paris", D.str "pisa", D.str "rome", D.str "zz", D.str "zzzzzzzz"] = words10.map D.str from rfl, cut_map, cut_map, cut_from b0, cut_to (by omega), Int.toNat_natCast]
    have sb : ((words10.drop b.toNat).take n).Sublist words10 := (List.take_sublist _ _).trans (List.drop_sublist _ _)
    exact kk ((words10.drop b.toNat).take n) ms3 (by rw [List.length_take]; omega) (words10_up.sublist sb) (fun v hv => words10_ok v (sb.subset hv)) hp3
theorem pure_l_counted (as : List Sx) (p : RS → List Sx → Prop) (hl : as.length = 1) (h : fs_l_counted as p) : ds_l_counted (endsOf as p) (startG 3 as) := by
  obtain ⟨ms, rfl, hp, kk⟩ := h
  unfold ds_l_counted
  walk_at "xs"
  refine ⟨ms, 100, rfl, hp, by decide, by decide, fun a ms1 a0 a1 hp1 => ?_⟩
  walk_at "xd"
  walk_at "xe"
  refine ⟨ms1, 21, rfl, hp1, by decide, by decide, fun b ms2 b0 b1 hp2 => ?_⟩
  walk_at "xd"
  refine ⟨by omega, by omega, ?_⟩
  refine lc_a (by omega) (fun i => psD false (cnt (a - 50) i)) rfl ?_ ?_
  · rintro i _ hi rfl
    walk_at "x"
    unfold psD cnt
    rw [List.range_succ, List.map_append, List.map_append]
    rfl
  · walk_at "xd"
    exact kk _ _ _ (by omega) (by omega) (by omega) (by omega) hp2
theorem pure_l_code (as : List Sx) (p : RS → List Sx → Prop) (hl : as.length = 2) (h : fs_l_code as p) : ds_l_code (endsOf as p) (startG 3 as) := by
  obtain ⟨w, b, v, rfl, hn, kk⟩ := h
  unfold ds_l_code
  walk_at "xs"
  refine for_ok (fun i γ => ∃ s, γ = [.val (.lst (psD w b)), .val (vD w v), s] ∧ ∀ e ∈ b.take i, e.1 ≠ v) ⟨_, rfl, by simp⟩ ?_ ?_
  · rintro i _ hi ⟨s, rfl, hb⟩ _ hx
    obtain ⟨e, he, rfl⟩ := map_get hx
    rw [pD_e]
    walk_at "xd"
    show fEq (vD w e.1) (vD w v) _
    rw [fEq_v]
    walk_at "xd"
    refine ⟨fun z => ?_, fun z => ⟨_, rfl, fun a ha => ?_⟩⟩
    · have me := List.mem_of_getElem? he
      have q : cdD b v = .int e.2 := by
        unfold cdD
        have f : b.find? (fun a => decide (a.1 = v)) = some e := by
          rw [List.find?_eq_some_iff_getElem]
          obtain ⟨h1, h2⟩ := List.getElem?_eq_some_iff.mp he
          refine ⟨decide_eq_true z, i, h1, h2, fun j hj => ?_⟩
          rw [decide_eq_false (hb _ (List.mem_iff_getElem.mpr ⟨j, by rw [List.length_take]; omega, by rw [List.getElem_take]⟩))]
          rfl
        rw [f]
      rw [q] at kk
      exact kk
    · rw [List.take_add_one, he] at ha
      rcases List.mem_append.mp ha with ha | ha
      · exact hb a ha
      · simp at ha
        subst ha
        exact z
  · rintro _ ⟨s, rfl, hb⟩
    walk_at "x"
    rw [take_all] at hb
    rw [cdD_out (fun hm => by
      obtain ⟨e, he, q⟩ := List.mem_map.mp hm
      exact hb e he q)] at kk
    exact kk
theorem bq_map {w : Bool} {a b : List (Pr w)} : (a.filter fun e => decide (e.1 ∈ fsts b)).map (fun e => D.tup [.int e.2, cdD b e.1]) = (a.filter fun e => decide (e.1 ∈ fsts b)).map (fun e => D.tup [.int e.2, .int (cd b e.1)]) := by
  refine List.map_congr_left fun e he => ?_
  have m := of_decide_eq_true (List.mem_filter.mp he).2
  unfold cdD cd
  cases h : b.find? fun x => decide (x.1 = e.1) with
  | some x => rfl
  | none =>
    obtain ⟨f, hf, q⟩ := List.mem_map.mp m
    have := List.find?_eq_none.mp h f hf
    exact absurd (decide_eq_true q) this
theorem any_v {w : Bool} {v : Vt w} {b : List (Pr w)} : (b.map fun e => vD w e.1).any (fun x => deq x (vD w v)) = decide (v ∈ fsts b) := by
  rw [List.any_map, Bool.eq_iff_iff, List.any_eq_true, decide_eq_true_eq, List.mem_map]
  constructor
  · rintro ⟨e, he, q⟩
    have q : deq (vD w e.1) (vD w v) = true := q
    rw [deq_vD] at q
    exact ⟨e, he, of_decide_eq_true q⟩
  · rintro ⟨e, he, q⟩
    refine ⟨e, he, ?_⟩
    show deq (vD w e.1) (vD w v) = true
    rw [deq_vD]
    exact decide_eq_true q
theorem fInQ_v {w : Bool} {v : Vt w} {b : List (Pr w)} {ng : Bool} {q : RS → Prop} (h : q (.val (.bl (if ng then !decide (v ∈ fsts b) else decide (v ∈ fsts b))))) : fInQ ng (vD w v) (.lst (b.map fun e => vD w e.1)) q := by
  refine ⟨vD_flt, ?_⟩
  show _ ∧ _
  refine ⟨by simp [vD_flt], ?_⟩
  rw [any_v]
  exact h
theorem pure_l_pairs (as : List Sx) (p : RS → List Sx → Prop) (hl : as.length = 2) (h : fs_l_pairs as p) : ds_l_pairs (endsOf as p) (startG 5 as) := by
  obtain ⟨w, a, b, r, r', rfl, E, E', kk⟩ := h
  have la := E.len
  have lb := E'.len
  unfold ds_l_pairs
  walk_at "xs"
  refine lc_a (by omega) (fun i => (b.take i).map fun e => vD w e.1) rfl ?_ ?_
  · rintro i _ hi hx
    obtain ⟨e, he, rfl⟩ := map_get hx
    rw [pD_e]
    walk_at "x"
    exact mp_s he fun e => vD w e.1
  rw [take_all]
  walk_at "xd"
  walk_at "xn"
  refine lc_a (by omega) (fun i => psD w ((a.take i).filter fun e => decide (e.1 ∈ fsts b))) rfl ?_ ?_
  · rintro i _ hi hx
    obtain ⟨e, he, rfl⟩ := map_get hx
    rw [pD_e]
    walk_at "xd"
    refine fInQ_v ?_
    walk_at "xd"
    exact ⟨fun z => ft_t he _ (pD w) (decide_eq_true z), fun z => ft_f he _ (pD w) (decide_eq_false z)⟩
  rw [take_all]
  walk_at "xd"
  walk_at "xe"
  have lf : (a.filter fun e => decide (e.1 ∈ fsts b)).length ≤ a.length := List.length_filter_le _ _
  refine lc_a (by omega) (fun i => ((a.filter fun e => decide (e.1 ∈ fsts b)).take i).map fun e => D.tup [.int e.2, cdD b e.1]) rfl ?_ ?_
  · rintro i _ hi hx
    obtain ⟨e, he, rfl⟩ := map_get hx
    rw [pD_e]
    walk_at "x"
    refine ⟨w, b, e.1, rfl, by omega, ?_⟩
    walk_at "x"
    exact mp_s he fun e => D.tup [.int e.2, cdD b e.1]
  rw [take_all, bq_map]
  walk_at "xd"
  have eb : (a.filter fun e => decide (e.1 ∈ fsts b)).map (fun e => D.tup [.int e.2, .int (cd b e.1)]) = psD false (bq a b) := by
    unfold psD bq
    rw [List.map_map]
    rfl
  rw [eb]
  refine ⟨srtOk_ps (by have := bq_len (a := a) (b := b); omega), ?_⟩
  rw [sort_brg]
  exact kk
theorem sort_upc {w : Bool} {es : List (Pr w)} (nd : (snds es).Nodup) : decide (snds es = (snds es).mergeSort fun a b => decide (a ≤ b)) = upc es := by
  have hp := List.pairwise_mergeSort (le := fun a b : Int => decide (a ≤ b)) (fun a b c h k => by simp at *; omega) (fun a b => by simp; omega) (snds es)
  unfold upc
  refine decide_eq_decide.mpr ⟨fun e => ?_, fun h => ?_⟩
  · rw [← e] at hp
    refine List.pairwise_map.mp (List.Pairwise.imp₂ ?_ hp nd)
    intro a b h1 h2
    simp at h1
    omega
  · exact (List.mergeSort_of_pairwise ((List.pairwise_map.mpr h).imp fun {a b} z => by simp; omega)).symm
theorem cnt_all {ns : List Int} {g : Int} : ns.count g = ns.length ↔ ∀ x ∈ ns, x = g := by
  rw [List.count_eq_length]
  exact ⟨fun h x hx => (h x hx).symm, fun h x hx => (h x hx).symm⟩
theorem pure_l_kept (as : List Sx) (p : RS → List Sx → Prop) (hl : as.length = 1) (h : fs_l_kept as p) : ds_l_kept (endsOf as p) (startG 4 as) := by
  obtain ⟨es, rfl, up, nd, hn, kk⟩ := h
  have el : es.map (fun e => D.int e.2) = intsD (snds es) := List.map_map.symm
  have e1 : deq (.lst (intsD (snds es))) (.lst ((intsD (snds es)).mergeSort dle)) = upc es := by
    rw [sort_ints, deq_ints]
    exact sort_upc nd
  have okc : dOk (.lst ((intsD (snds es)).mergeSort dle)) = true := by rw [sort_ints]; exact dOk_ints _
  unfold ds_l_kept
  walk_at "xs"
  have eg : es.map (fun e => D.int (gap e)) = intsD (es.map gap) := List.map_map.symm
  refine lc_a (by omega) (fun i => (es.take i).map fun e => D.int (gap e)) rfl ?_ ?_
  · rintro i _ hi hx
    obtain ⟨e, he, rfl⟩ := map_get hx
    rw [pD_e]
    walk_at "x"
    exact mp_s he fun e => D.int (gap e)
  rw [take_all, eg]
  walk_at "xd"
  walk_at "xn"
  refine ⟨_, rfl, fun c => ?_, fun c => ?_⟩
  · have c2 : (es.map gap).count 0 = (es.map gap).length := by rw [List.length_map]; omega
    have al := cnt_all.mp c2
    by_cases ne : es = []
    · subst ne
      exact kk
    · rw [kpt_some ne (eqg_some ne fun e he => al _ (List.mem_map_of_mem he))] at kk
      exact kk
  have ne : es ≠ [] := fun e => by
    subst e
    exact c rfl
  obtain ⟨e0, h0⟩ : ∃ e0, es[0]? = some e0 := by
    cases es with
    | nil => exact absurd rfl ne
    | cons a b => exact ⟨a, rfl⟩
  have m0 := List.mem_of_getElem? h0
  have n0 : eqg false es ≠ some 0 := fun q => c (by
    have : (es.map gap).count 0 = (es.map gap).length := cnt_all.mpr fun x hx => by
      obtain ⟨e, he, rfl⟩ := List.mem_map.mp hx
      exact eqg_all q e he
    rw [List.length_map] at this
    omega)
  walk_at "xn"
  refine ⟨_, atI_map (f := D.int) (atI_nat (j := 0) (show (es.map gap)[0]? = some (gap e0) by rw [List.getElem?_map, h0]; rfl)), ?_⟩
  walk_at "xd"
  refine ⟨_, rfl, fun c => ?_, fun c => ?_⟩
  · have c2 : (es.map gap).count (gap e0) = (es.map gap).length := by rw [List.length_map]; omega
    have al := cnt_all.mp c2
    have q := eqg_some ne fun e he => al _ (List.mem_map_of_mem he)
    rw [kpt_some ne q, if_neg fun q2 => n0 (by rw [q, q2])] at kk
    exact kk
  have g : eqg false es = none := by
    cases q : eqg false es with
    | none => rfl
    | some g' =>
      refine absurd ?_ c
      have : (es.map gap).count (gap e0) = (es.map gap).length := cnt_all.mpr fun x hx => by
        obtain ⟨e, he, rfl⟩ := List.mem_map.mp hx
        rw [eqg_all q e he, eqg_all q e0 m0]
      rw [List.length_map] at this
      omega
  rw [kpt_none ne g] at kk
  walk_at "xn"
  refine lc_a (by omega) (fun i => (es.take i).map fun e => D.int e.2) rfl ?_ ?_
  · rintro i _ hi hx
    obtain ⟨e, he, rfl⟩ := map_get hx
    rw [pD_e]
    walk_at "x"
    exact mp_s he fun e => D.int e.2
  rw [take_all, el]
  walk_at "xd"
  walk_at "xn"
  refine ⟨srtOk_ints (by simp; omega), okc, fun q => ?_, fun q => ?_⟩
  · rw [e1] at q
    rw [q] at kk
    exact kk
  · rw [e1] at q
    rw [q] at kk
    walk_at "x"
    exact kk
theorem pure_l_no_code (as : List Sx) (p : RS → List Sx → Prop) (hl : as.length = 2) (h : fs_l_no_code as p) : ds_l_no_code (endsOf as p) (startG 4 as) := by
  obtain ⟨w, a, b, fs, c, rfl, B, hm, kk⟩ := h
  unfold ds_l_no_code
  walk_at "xs"
  refine ⟨w, a, b, fs, c, rfl, B, fun _ => ?_, fun v hc => absurd (show c ∈ snds a from List.mem_map.mpr ⟨_, hc, rfl⟩) hm⟩
  refine try_in rfl fun a => ?_
  walk_at "xs"
  walk_at "xe"
  refine ⟨_, _, rfl, rfl, _, rfl, trivial, ?_⟩
  walk_at "x"
  exact kk
theorem okS_dom {w : Bool} {n : Nat} : okS n (.str (dom w)) := by
  cases w <;> cases n <;> exact ⟨by decide, by decide +kernel⟩
theorem pure_l_refused (as : List Sx) (p : RS → List Sx → Prop) (hl : as.length = 3) (h : fs_l_refused as p) : ds_l_refused (endsOf as p) (startG 4 as) := by
  obtain ⟨w, w', r, r', a, b, g, g', rfl, ne, B, B', E, E', kk⟩ := h
  unfold ds_l_refused
  walk_at "xs"
  refine ⟨w, w', r, r', a, b, g, g', rfl, B, B', E, E', fun _ => ⟨rfl, ?_⟩, fun h => absurd h.symm ne⟩
  refine try_in rfl fun q => ?_
  walk_at "xs"
  walk_at "xe"
  refine ⟨_, _, rfl, rfl, _, _, rfl, rfl, _, rfl, ⟨by simp, fun d hd => ?_⟩, ?_⟩
  · rcases List.mem_cons.mp hd with rfl | hd
    · exact okS_dom
    rcases List.mem_cons.mp hd with rfl | hd
    · exact okS_dom
    · cases hd
  walk_at "x"
  exact kk

def cB (k : Int) (i : Nat) : Int := if k = 0 then i else if k = 1 then i + 5 else if k = 2 then 2 * i else 9999985 + i
structure EI {w : Bool} (vs : List (Vt w)) (k : Int) (i : Nat) (rest : List Int) (es : List (Pr w)) : Prop where
  nd : rest.Nodup
  len : rest.length = 12 - i
  bd : ∀ x ∈ rest, 0 ≤ x ∧ x < 12
  sub : (fsts es).Sublist (vs.take i)
  cod : ∀ e ∈ es, 0 ≤ e.2 ∧ e.2 ≤ 9999999
  k3 : k = 3 → (snds es).Nodup ∧ ∀ e ∈ es, e.2 ∉ rest
  kn : k ≠ 3 → es.Pairwise (fun a b => a.2 < b.2) ∧ ∀ e ∈ es, e.2 < cB k i
def cAt (k : Int) (i : Nat) (near pop : Int) : Int := if k = 0 then i else if k = 1 then i + 5 else if k = 2 then near else if k = 3 then pop else 9999985 + i
theorem ei_pop {w : Bool} {vs : List (Vt w)} {k : Int} {i j : Nat} {rest : List Int} {es : List (Pr w)} (I : EI vs k i rest es) (hi : i < vs.length) (h8 : vs.length ≤ 8) (k0 : 0 ≤ k) (k5 : k < 5) (hj : j < rest.length) : EI vs k (i + 1) (rest.eraseIdx j) es := by
  obtain ⟨h1, h2, h3, h4, h5, h6, h7⟩ := I
  have sb := List.eraseIdx_sublist rest j
  refine ⟨h1.sublist sb, by rw [List.length_eraseIdx, if_pos hj]; omega, fun x hx => h3 x (sb.subset hx), h4.trans (by rw [List.take_add_one]; exact List.sublist_append_left _ _), h5, fun e => ⟨(h6 e).1, fun x hx hm => (h6 e).2 x hx (sb.subset hm)⟩, fun e => ⟨(h7 e).1, fun x hx => ?_⟩⟩
  have := (h7 e).2 x hx
  have m : cB k i ≤ cB k (i + 1) := by
    unfold cB
    (repeat' split) <;> omega
  omega
theorem ei_add {w : Bool} {vs : List (Vt w)} {k : Int} {i j : Nat} {rest : List Int} {es : List (Pr w)} {v : Vt w} {near x : Int} (I : EI vs k i rest es) (hv : vs[i]? = some v) (h8 : vs.length ≤ 8) (k0 : 0 ≤ k) (k5 : k < 5) (hx : rest[j]? = some x)
    (n0 : 2 * (i : Int) ≤ near) (n1 : near < 2 * i + 2) : EI vs k (i + 1) (rest.eraseIdx j) (es ++ [(v, cAt k i near x)]) := by
  have hi : i < vs.length := (List.getElem?_eq_some_iff.mp hv).1
  obtain ⟨hj, ej⟩ := List.getElem?_eq_some_iff.mp hx
  have P := ei_pop I hi h8 k0 k5 hj
  have mx : x ∈ rest := List.mem_of_getElem? hx
  have x0 := I.bd x mx
  refine ⟨P.nd, P.len, P.bd, ?_, fun e he => ?_, fun q => ?_, fun q => ?_⟩
  · show ((es ++ [(v, cAt k i near x)]).map Prod.fst).Sublist _
    rw [List.map_append, List.take_add_one, hv]
    exact I.sub.append (List.Sublist.refl _)
  · rcases List.mem_append.mp he with he | he
    · exact I.cod e he
    · simp at he
      subst he
      unfold cAt
      dsimp only
      (repeat' split) <;> omega
  · have ec : cAt k i near x = x := by subst q; rfl
    rw [ec]
    obtain ⟨h1, h2⟩ := I.k3 q
    refine ⟨?_, fun e he => ?_⟩
    · show ((es ++ [(v, x)]).map Prod.snd).Nodup
      rw [List.map_append]
      refine List.nodup_append.mpr ⟨h1, by simp, fun a ha b hb => ?_⟩
      simp at hb
      subst hb
      obtain ⟨e, he, rfl⟩ := List.mem_map.mp ha
      exact fun z => h2 e he (by rw [z]; exact mx)
    · rcases List.mem_append.mp he with he | he
      · exact (P.k3 q).2 e he
      · simp at he
        subst he
        intro hm
        have : x ∈ rest.eraseIdx j := hm
        rw [← ej] at this
        obtain ⟨l, hl, e2⟩ := List.mem_iff_getElem.mp this
        rw [List.getElem_eraseIdx] at e2
        split at e2
        · have := (List.getElem_inj (h₀ := by omega) (h₁ := hj) I.nd).mp e2
          omega
        · rw [List.length_eraseIdx, if_pos hj] at hl
          have := (List.getElem_inj (h₀ := by omega) (h₁ := hj) I.nd).mp e2
          omega
  · obtain ⟨h1, h2⟩ := I.kn q
    have c1 : cB k i ≤ cAt k i near x := by
      unfold cB cAt
      (repeat' split) <;> omega
    have c2 : cAt k i near x < cB k (i + 1) := by
      unfold cB cAt
      (repeat' split) <;> omega
    refine ⟨List.pairwise_append.mpr ⟨h1, by simp, fun a ha b hb => ?_⟩, fun e he => ?_⟩
    · simp at hb
      subst hb
      have := h2 a ha
      show a.2 < cAt k i near x
      omega
    · rcases List.mem_append.mp he with he | he
      · have := h2 e he
        omega
      · simp at he
        subst he
        exact c2
theorem ei_ents {w : Bool} {vs : List (Vt w)} {k r : Int} {i : Nat} {rest : List Int} {es : List (Pr w)} (I : EI vs k i rest es) (h8 : vs.length ≤ 8) (up : vs.Pairwise fun a b => vlt w a b = true) (val : ∀ v ∈ vs, isV w v = true) (r0 : 1 ≤ r) (r1 : r ≤ 1000000) (k3 : k = 3 → r = 1) : Ents w es r := by
  have sb := I.sub.trans (List.take_sublist i vs)
  have ln : es.length ≤ vs.length := by have := sb.length_le; simpa using this
  have nd : (snds es).Nodup := by
    by_cases q : k = 3
    · exact (I.k3 q).1
    · exact List.pairwise_map.mpr ((I.kn q).1.imp fun {a b} h => by omega)
  refine ⟨by omega, List.pairwise_map.mp (up.sublist sb), nd, fun e he => val _ (sb.subset (List.mem_map_of_mem he)), I.cod, ?_, r0, r1⟩
  by_cases q : k = 3
  · have := k3 q
    subst this
    have p := (List.pairwise_map.mp nd).sublist (List.filter_sublist (p := fun e : Pr w => decide (e.2 < 1)) (l := es))
    refine p.imp_of_mem fun {a b} ha hb ne => ?_
    obtain ⟨ma, la⟩ := List.mem_filter.mp ha
    obtain ⟨mb, lb⟩ := List.mem_filter.mp hb
    have := I.cod a ma
    have := I.cod b mb
    have la := of_decide_eq_true la
    have lb := of_decide_eq_true lb
    exact absurd (show a.2 = b.2 by omega) ne
  · exact (I.kn q).1.sublist List.filter_sublist
theorem map_erase {α β : Type} {f : α → β} : ∀ {l : List α} {j : Nat}, (l.map f).eraseIdx j = (l.eraseIdx j).map f
  | [], _ => rfl
  | _ :: _, 0 => rfl
  | a :: l, j + 1 => by
    show f a :: (l.map f).eraseIdx j = f a :: (l.eraseIdx j).map f
    rw [map_erase]
theorem pure_l_entries (as : List Sx) (p : RS → List Sx → Prop) (hl : as.length = 3) (h : fs_l_entries as p) : ds_l_entries (endsOf as p) (startG 11 as) := by
  obtain ⟨ms, w, vs, t, rfl, hp, h8, up, val, t0, t1, kk⟩ := h
  unfold ds_l_entries
  walk_at "xs"
  refine ⟨ms, 5, rfl, hp, by decide, by decide, fun a ms1 a0 a1 hp1 => ?_⟩
  walk_at "xd"
  refine ⟨.inr ⟨by omega, by omega⟩, by decide, ?_⟩
  have k0 : 0 ≤ (a + 2 * t) % 5 := by omega
  have k5 : (a + 2 * t) % 5 < 5 := by omega
  generalize hK : (a + 2 * t) % 5 = K at k0 k5
  walk_at "xn"
  refine ⟨by decide, by decide, ?_⟩
  walk_at "xn"
  walk_at "xn"
  refine ⟨by omega, by omega, ?_⟩
  rw [Int.toNat_natCast]
  refine for_ok (fun i γ => ∃ (ms' rest : List Int) (es : List (Pr w)) (s6 s7 s8 s9 s10 : Sx), γ = [.own (some 0) (.lst (intsD ms')), .val (.lst (vs.map (vD w))), .val (.int t), .val (.int K), .own none (.lst (intsD rest)), .own none (.lst (psD w es)), s6, s7, s8, s9, s10] ∧ Pool ms' ∧ EI vs K i rest es) ?_ ?_ ?_
  · refine ⟨ms1, (List.range 12).map fun i : Nat => (i : Int), [], _, _, _, _, _, rfl, hp1, ?_⟩
    exact ⟨by decide, by decide, by decide, by simp, by simp, fun _ => ⟨by simp, by simp⟩, fun _ => ⟨by simp, by simp⟩⟩
  · rintro i _ hi ⟨ms2, rest, es, s6, s7, s8, s9, s10, rfl, hp2, I⟩ _ rfl
    have ln := I.len
    have rl : 0 < rest.length := by omega
    walk_at "xd"
    walk_at "xs"
    refine ⟨ms2, 5, rfl, hp2, by decide, by decide, fun b ms3 b0 b1 hp3 => ?_⟩
    walk_at "xd"
    refine ⟨by decide, ?_⟩
    walk_at "xn"
    refine ⟨ms3, (rest.length : Int), rfl, hp3, by omega, by omega, fun c ms4 c0 c1 hp4 => ?_⟩
    walk_at "xd"
    refine ⟨.inr ⟨by omega, by omega⟩, by omega, ?_⟩
    have j0 : 0 ≤ (c + 5 * i) % (rest.length : Int) := Int.emod_nonneg _ (by omega)
    have j1 : (c + 5 * i) % (rest.length : Int) < rest.length := Int.emod_lt_of_pos _ (by omega)
    generalize hJ : (c + 5 * i) % (rest.length : Int) = J at j0 j1
    obtain ⟨j, rfl⟩ : ∃ j : Nat, J = (j : Int) := ⟨J.toNat, by omega⟩
    walk_at "xn"
    refine ⟨.inr ⟨by omega, by omega⟩, ?_⟩
    refine ⟨ms4, 2, rfl, hp4, by decide, by decide, fun d ms5 d0 d1 hp5 => ?_⟩
    walk_at "xd"
    walk_at "xn"
    have jl : j < rest.length := by omega
    have hx : rest[j]? = some rest[j] := List.getElem?_eq_getElem jl
    refine ⟨by omega, by omega, j, .int rest[j], by simp [seqIndex?]; omega, by rw [List.getElem?_map, hx]; rfl, ?_⟩
    have hv : vs[i]? = some vs[i] := List.getElem?_eq_getElem hi
    have em : (intsD rest).eraseIdx j = intsD (rest.eraseIdx j) := map_erase
    rw [em]
    have IP := ei_pop I hi h8 k0 k5 jl
    have IA := ei_add (near := 2 * i + d) I hv h8 k0 k5 hx (by omega) (by omega)
    have hc : atI [D.int i, D.int (i + 5), D.int (2 * i + d), D.int rest[j], D.int (9999985 + i)] K = some (.int (cAt K i (2 * i + d) rest[j])) := by
      obtain ⟨k, rfl⟩ : ∃ k : Nat, K = (k : Int) := ⟨K.toNat, by omega⟩
      have : k < 5 := by omega
      match k, this with
      | 0, _ => rfl
      | 1, _ => rfl
      | 2, _ => rfl
      | 3, _ => rfl
      | 4, _ => rfl
    walk_at "xe"
    refine ⟨fun _ => ⟨_, atI_map (f := vD w) (atI_nat hv), _, hc, ?_⟩, fun _ => ⟨_, _, _, _, _, _, _, _, rfl, hp5, IP⟩⟩
    have ea : psD w es ++ [D.tup [vD w vs[i], D.int (cAt K i (2 * i + d) rest[j])]] = psD w (es ++ [(vs[i], cAt K i (2 * i + d) rest[j])]) := by
      unfold psD
      rw [List.map_append]
      rfl
    rw [ea]
    have le : es.length ≤ i := by have := I.sub.length_le; simp at this; omega
    exact ⟨by omega, ms5, rest.eraseIdx j, _, _, _, _, _, _, rfl, hp5, IA⟩
  · rintro _ ⟨ms2, rest, es, s6, s7, s8, s9, s10, rfl, hp2, I⟩
    walk_at "x"
    exact kk K es ms2 (fun r r0 r1 k3 => ei_ents I h8 up val r0 r1 k3) hp2

theorem okS_str {n : Nat} {s : Str} (h : s.length ≤ 1000) (k : PyData.strOk s = true) : okS n (.str s) := by cases n <;> exact ⟨h, k⟩
theorem okS_int {n : Nat} {i : Int} : okS n (.int i) := by cases n <;> trivial
theorem okS_non {n : Nat} : okS n .non := by cases n <;> trivial
theorem okS_kpt {w : Bool} {es : List (Pr w)} {n : Nat} : okS n (.str (kpt w es)) := by
  have : kpt w es = "value" ∨ kpt w es = "distance" ∨ kpt w es = "order" ∨ kpt w es = "same" := by
    unfold kpt
    split
    · exact .inl rfl
    · split
      · split
        · exact .inl rfl
        · exact .inr (.inl rfl)
      · split
        · exact .inr (.inr (.inl rfl))
        · exact .inr (.inr (.inr rfl))
  rcases this with h | h | h | h <;> (rw [h]; exact okS_str (by decide +kernel) (by decide +kernel))
theorem okS_tup {n : Nat} {ds : List D} (h : ds.length ≤ 1000) (k : ∀ d ∈ ds, okS n d) : okS (n + 1) (.tup ds) := ⟨h, k⟩
theorem okS_ints {n : Nat} {ps : List (Pr false)} (h : ps.length ≤ 1000) : okS (n + 2) (.tup (psD false ps)) := okS_tup (by simpa using h) fun d hd => by
  obtain ⟨e, _, rfl⟩ := List.mem_map.mp hd
  refine okS_tup (by simp) fun x hx => ?_
  rcases List.mem_cons.mp hx with rfl | hx
  · exact okS_int
  rcases List.mem_cons.mp hx with rfl | hx
  · exact okS_int
  · cases hx
theorem okS_v {w : Bool} {n : Nat} {v : Vt w} (h : isV w v = true) : okS n (vD w v) := by
  cases w
  · exact okS_int
  · exact okS_str (vS_of (w := true) h) (strOk_v h)
theorem okS_ps {w : Bool} {r : Int} {es : List (Pr w)} {n : Nat} (E : Ents w es r) : okS (n + 2) (.tup (psD w es)) := okS_tup (by have := E.len; simp; omega) fun d hd => by
  obtain ⟨e, he, rfl⟩ := List.mem_map.mp hd
  refine okS_tup (by simp) fun x hx => ?_
  rcases List.mem_cons.mp hx with rfl | hx
  · exact okS_v (E.val e he)
  rcases List.mem_cons.mp hx with rfl | hx
  · exact okS_int
  · cases hx
theorem okS_cdD {w : Bool} {b : List (Pr w)} {v : Vt w} {n : Nat} : okS n (cdD b v) := by
  unfold cdD
  split
  · exact okS_int
  · exact okS_non
theorem fInQ_i {x : Int} {l : List Int} {ng : Bool} {q : RS → Prop} (h : q (.val (.bl (if ng then !decide (x ∈ l) else decide (x ∈ l))))) : fInQ ng (.int x) (.lst (intsD l)) q := by
  refine ⟨rfl, ?_⟩
  show _ ∧ _
  have e : (intsD l).any (fun d => deq d (.int x)) = decide (x ∈ l) := by
    rw [List.any_map, Bool.eq_iff_iff, List.any_eq_true, decide_eq_true_eq]
    constructor
    · rintro ⟨y, hy, q⟩
      have q : deq (.int y) (.int x) = true := q
      rw [deq_int] at q
      rw [← of_decide_eq_true q]
      exact hy
    · intro hy
      refine ⟨x, hy, ?_⟩
      show deq (.int x) (.int x) = true
      rw [deq_int]
      exact decide_eq_true rfl
  refine ⟨by simp [D.flt], ?_⟩
  rw [e]
  exact h
theorem pure_l_right (as : List Sx) (p : RS → List Sx → Prop) (hl : as.length = 3) (h : fs_l_right as p) : ds_l_right (endsOf as p) (startG 8 as) := by
  obtain ⟨w, a, b, fs, rfl, G, kk⟩ := h
  obtain ⟨r1, g1, h1, B1, E1⟩ := G.f1
  obtain ⟨r2, g2, h2, B2, E2⟩ := G.f2
  have la := E1.len
  have lb := E2.len
  have lr := brg_len (a := a) (b := b)
  unfold ds_l_right
  walk_at "xs"
  refine ⟨w, a, b, r1, r2, rfl, E1, E2, ?_⟩
  walk_at "x"
  refine ⟨_, G.pr, ?_⟩
  refine ⟨_, rfl, okS_ints (by omega), ?_⟩
  walk_at "x"
  refine ⟨w, a, b, fs, rfl, G, ?_⟩
  walk_at "x"
  refine ⟨brg a b, rfl, brg_up E1.nd, brg_snd (up_nd E1.up) (up_nd E2.up) E2.nd, by omega, ?_⟩
  walk_at "x"
  refine ⟨_, rfl, okS_kpt, ?_⟩
  walk_at "x"
  refine for_ok (fun i γ => ∃ s, γ = [.val (.obj "Bridge" fs), .val (.lst (psD w a)), .val (.lst (psD w b)), .val (.lst (psD false (brg a b))), s, .no, .no, .no]) ⟨_, rfl⟩ ?_ ?_
  · rintro i _ hi ⟨s, rfl⟩ _ hx
    obtain ⟨e, he, rfl⟩ := map_get hx
    have me : e ∈ a := List.mem_of_getElem? he
    rw [pD_e]
    walk_at "x"
    refine ⟨w, a, b, fs, e.2, rfl, G, fun m => absurd (List.mem_map_of_mem (f := Prod.snd) me) m, fun v hv => ?_⟩
    have ev : v = e.1 := by
      have := map_inj (f := Prod.snd) E1.nd hv me rfl
      rw [← this]
    subst ev
    walk_at "x"
    refine ⟨w, b, e.1, rfl, by omega, ?_⟩
    walk_at "x"
    refine ⟨_, rfl, okS_cdD, ?_⟩
    walk_at "x"
    exact ⟨_, rfl⟩
  · rintro _ ⟨s, rfl⟩
    walk_at "xn"
    refine lc_a (by omega) (fun i => (a.take i).map fun e => D.int e.2) rfl ?_ ?_
    · rintro i _ hi hx
      obtain ⟨e, he, rfl⟩ := map_get hx
      rw [pD_e]
      walk_at "x"
      exact mp_s he fun e => D.int e.2
    rw [take_all]
    walk_at "xd"
    walk_at "xn"
    refine lc_a (by omega) (fun i => (b.take i).map fun e => D.int e.2) rfl ?_ ?_
    · rintro i _ hi hx
      obtain ⟨e, he, rfl⟩ := map_get hx
      rw [pD_e]
      walk_at "x"
      exact mp_s he fun e => D.int e.2
    rw [take_all]
    walk_at "xd"
    refine lc_a (by omega) (fun i => (a.take i).map fun e => D.int (e.2 + 1)) rfl ?_ ?_
    · rintro i _ hi hx
      obtain ⟨e, he, rfl⟩ := map_get hx
      rw [pD_e]
      walk_at "x"
      exact mp_s he fun e => D.int (e.2 + 1)
    rw [take_all]
    walk_at "xd"
    have e1 : b.map (fun e => D.int e.2) ++ a.map (fun e => D.int (e.2 + 1)) = intsD (snds b ++ a.map fun e : Pr w => e.2 + 1) := by
      unfold intsD
      rw [List.map_append, List.map_map, List.map_map]
      rfl
    have e2 : a.map (fun e => D.int e.2) = intsD (snds a) := List.map_map.symm
    rw [e1, e2]
    refine ⟨by omega, ?_⟩
    have lO : (snds b ++ a.map fun e : Pr w => e.2 + 1).length ≤ 240 := by simp; omega
    generalize (snds b ++ a.map fun e : Pr w => e.2 + 1) = O at lO
    walk_at "xn"
    have e3 : intsD O ++ [D.int 0, D.int 11, D.int 9999999] = intsD (O ++ [0, 11, 9999999]) := by
      unfold intsD
      rw [List.map_append]
      rfl
    rw [e3]
    have lO2 : (O ++ [0, 11, 9999999]).length ≤ 243 := by simp; omega
    generalize (O ++ [0, 11, 9999999]) = O2 at lO2
    refine ⟨by omega, ?_⟩
    walk_at "xe"
    refine lc_a (by omega) (fun i => ((O2.take i).filter fun x => !decide (x ∈ snds a)).map fun _ => D.bl true) rfl ?_ ?_
    · rintro i _ hi hx
      obtain ⟨c, hc, rfl⟩ := map_get hx
      walk_at "xd"
      refine fInQ_i ?_
      walk_at "xd"
      refine ⟨fun z => ⟨w, a, b, fs, c, rfl, G, z, ?_⟩, fun z => ft_f hc _ (fun _ => D.bl true) (by rw [decide_eq_true z]; rfl)⟩
      walk_at "x"
      exact ft_t hc _ (fun _ => D.bl true) (by rw [decide_eq_false z]; rfl)
    rw [take_all]
    walk_at "xd"
    refine ⟨(O2.filter fun x => !decide (x ∈ snds a)).map fun _ => true, by rw [List.map_map]; rfl, ?_⟩
    rw [all_map, List.all_eq_true.mpr fun _ _ => rfl]
    exact kk

def law_T9 : DS := (dSeq (dFor (dIR1 (dCons (dC (.int (4))) dNil)) (gN 10) (dSeq (dAsg 18 (d2 fIxL (dVar 5) (d2 fIxT (d2 fIxL (dVar 8) (dVar 10)) (dC (.int (0))))))
  (dSeq (dAsg 19 (d2 fIxL (dVar 5) (d2 fIxT (d2 fIxL (dVar 8) (dVar 10)) (dC (.int (1))))))
  (dSeq (dIf (dNot (dB (dCall 3 fs_l_right [] (dCons (d2 fIxL (dVar 9) (dVar 10)) (dCons (dVarV 18) (dCons (dVarV 19) dNil)))))) (dRet (dC (.bl false))) dNext)
  (dSeq (dIf (dNot (dB (dCall 3 fs_l_right [] (dCons (dMethX (fun _ _ _ => False) "back" 1 mtX_Bridge_back (d2 fIxL (dVar 9) (dVar 10)) dNil) (dCons (dVarV 19) (dCons (dVarV 18) dNil)))))) (dRet (dC (.bl false))) dNext)
  (dSeq (dIf (dNot (dB (dCall 3 fs_l_right [] (dCons (dMethX (fun _ _ _ => False) "back" 1 mtX_Bridge_back (dMethX (fun _ _ _ => False) "back" 1 mtX_Bridge_back (d2 fIxL (dVar 9) (dVar 10)) dNil) dNil) (dCons (dVarV 18) (dCons (dVarV 19) dNil)))))) (dRet (dC (.bl false))) dNext)
  (dIf (dNot (dB (dCall 2 fs_l_same [] (dCons (d1 (fFld exFt "entries") (d2 fIxL (dVar 6) (d2 fIxT (d2 fIxL (dVar 8) (dVar 10)) (dC (.int (1)))))) (dCons (dCB fTuple (dCons (dCB fSorted (dCons (dVar 19) dNil)) dNil)) dNil))))) (dRet (dC (.bl false))) dNext)))))))
  (dSeq (dFor (dIL (d2 fIxL (dVar 5) (dC (.int (0))))) (gN 11) (dSeq (dAsg 20 (dCallOX (fun _ _ _ => False) 2 mtX_Bridge___call__ (d2 fIxL (dVar 9) (dC (.int (0)))) (dCons (d2 fIxT (dVar 11) (dC (.int (1)))) dNil)))
  (dIf (dAnd (dB (d2 fNotN (dVar 20) (dC .non))) (dNot (dB (dCall 2 fs_l_same [] (dCons (dCallOX (fun _ _ _ => False) 2 mtX_Bridge___call__ (d2 fIxL (dVar 9) (dC (.int (1)))) (dCons (dVarV 20) dNil)) (dCons (dCallOX (fun _ _ _ => False) 2 mtX_Bridge___call__ (d2 fIxL (dVar 9) (dC (.int (2)))) (dCons (d2 fIxT (dVar 11) (dC (.int (1)))) dNil)) dNil)))))) (dRet (dC (.bl false))) dNext)))
  (dSeq (dAsg 12 (d2 fIxL (dLst (dCons (dC (.str "word")) (dCons (dC (.str "number")) dNil))) (dCB fInt (dCons (d2 fEq (dVar 2) (dC (.str "word"))) dNil))))
  (dSeq (dAsg 13 (dFz (dMakeN "Book" 4 fs_Book___init__ [.tup []] (dCons (dVarV 12) (dCons (dC (.int (3))) dNil)))))
  (dSeq (dIf (dNot (dB (dCall 3 fs_l_refused [] (dCons (d2 fIxL (dVar 6) (dC (.int (0)))) (dCons (dVarV 13) (dCons (dTup (dCons (dVarV 2) (dCons (dVarV 12) dNil))) dNil)))))) (dRet (dC (.bl false))) dNext)
  (dSeq (dIf (dNot (dB (dCall 3 fs_l_refused [] (dCons (dVarV 13) (dCons (d2 fIxL (dVar 6) (dC (.int (1)))) (dCons (dTup (dCons (dVarV 12) (dCons (dVarV 2) dNil))) dNil)))))) (dRet (dC (.bl false))) dNext)
  (dRet (dCall 3 fs_l_right [] (dCons (d2 fIxL (dVar 9) (dC (.int (0)))) (dCons (d2 fIxL (dVar 5) (dC (.int (0)))) (dCons (d2 fIxL (dVar 5) (dC (.int (1)))) dNil)))))))))))
def law_T10 : DS := (dSeq (dFor (dIL (d2 fIxL (dVar 5) (dC (.int (0))))) (gN 11) (dSeq (dAsg 20 (dCallOX (fun _ _ _ => False) 2 mtX_Bridge___call__ (d2 fIxL (dVar 9) (dC (.int (0)))) (dCons (d2 fIxT (dVar 11) (dC (.int (1)))) dNil)))
  (dIf (dAnd (dB (d2 fNotN (dVar 20) (dC .non))) (dNot (dB (dCall 2 fs_l_same [] (dCons (dCallOX (fun _ _ _ => False) 2 mtX_Bridge___call__ (d2 fIxL (dVar 9) (dC (.int (1)))) (dCons (dVarV 20) dNil)) (dCons (dCallOX (fun _ _ _ => False) 2 mtX_Bridge___call__ (d2 fIxL (dVar 9) (dC (.int (2)))) (dCons (d2 fIxT (dVar 11) (dC (.int (1)))) dNil)) dNil)))))) (dRet (dC (.bl false))) dNext)))
  (dSeq (dAsg 12 (d2 fIxL (dLst (dCons (dC (.str "word")) (dCons (dC (.str "number")) dNil))) (dCB fInt (dCons (d2 fEq (dVar 2) (dC (.str "word"))) dNil))))
  (dSeq (dAsg 13 (dFz (dMakeN "Book" 4 fs_Book___init__ [.tup []] (dCons (dVarV 12) (dCons (dC (.int (3))) dNil)))))
  (dSeq (dIf (dNot (dB (dCall 3 fs_l_refused [] (dCons (d2 fIxL (dVar 6) (dC (.int (0)))) (dCons (dVarV 13) (dCons (dTup (dCons (dVarV 2) (dCons (dVarV 12) dNil))) dNil)))))) (dRet (dC (.bl false))) dNext)
  (dSeq (dIf (dNot (dB (dCall 3 fs_l_refused [] (dCons (dVarV 13) (dCons (d2 fIxL (dVar 6) (dC (.int (1)))) (dCons (dTup (dCons (dVarV 12) (dCons (dVarV 2) dNil))) dNil)))))) (dRet (dC (.bl false))) dNext)
  (dRet (dCall 3 fs_l_right [] (dCons (d2 fIxL (dVar 9) (dC (.int (0)))) (dCons (d2 fIxL (dVar 5) (dC (.int (0)))) (dCons (d2 fIxL (dVar 5) (dC (.int (1)))) dNil))))))))))
structure Wy (w : Bool) (R B W F : List D) : Prop where
  each : ∀ i : Nat, i < 4 → ∃ (x y : Int) (a b : List (Pr w)) (fs g : List (Str × D)) (r : Int), atI W (i : Int) = some (.tup [.int x, .int y]) ∧ atI R x = some (.lst (psD w a)) ∧ atI R y = some (.lst (psD w b)) ∧ atI F (i : Int) = some (.obj "Bridge" fs) ∧ atI B y = some (.obj "Book" g) ∧ Bg w a b fs ∧ Bk w r b g ∧ Ents w b r
  fst : ∃ (a0 a1 a2 : List (Pr w)) (f0 f1 f2 g0 g1 : List (Str × D)) (r0 r1 : Int), atI R 0 = some (.lst (psD w a0)) ∧ atI R 1 = some (.lst (psD w a1)) ∧ atI F 0 = some (.obj "Bridge" f0) ∧ atI F 1 = some (.obj "Bridge" f1) ∧ atI F 2 = some (.obj "Bridge" f2) ∧ Bg w a0 a1 f0 ∧ Bg w a1 a2 f1 ∧ Bg w a0 a2 f2 ∧
    atI B 0 = some (.obj "Book" g0) ∧ atI B 1 = some (.obj "Book" g1) ∧ Bk w r0 a0 g0 ∧ Bk w r1 a1 g1 ∧ Ents w a0 r0 ∧ Ents w a1 r1
theorem ents_nil {w : Bool} {r : Int} (r0 : 1 ≤ r) (r1 : r ≤ 1000000) : Ents w [] r := ⟨by simp, .nil, by simp, by simp, by simp, by simp, r0, r1⟩
theorem law_t10 {w : Bool} {R B W F : List D} {ns : List Int} {p : RS → List Sx → Prop} {s1 s3 s4 s7 s10 s11 s12 s13 s14 s15 s16 s17 s18 s19 s20 s21 s22 : Sx} (H : Wy w R B W F) (kk : p (.val (.bl true)) [.val (.scr ns)]) :
    DL.Later law_T10 (endsOf [.val (.scr ns)] p) [.val (.scr ns), s1, .val (.str (dom w)), s3, s4, .own none (.lst R), .own none (.lst B), s7, .val (.lst W), .own none (.lst F), s10, s11, s12, s13, s14, s15, s16, s17, s18, s19, s20, s21, s22] := by
  obtain ⟨a0, a1, a2, f0, f1, f2, g0, g1, r0, r1, hR0, hR1, hF0, hF1, hF2, G0, G1, G2, hB0, hB1, B0, B1, E0, E1⟩ := H.fst
  have l0 := E0.len
  unfold law_T10
  walk_at "xn"
  refine ⟨_, hR0, ?_⟩
  walk_at "xd"
  refine for_ok (fun i γ => ∃ t11 t20, γ = [.val (.scr ns), s1, .val (.str (dom w)), s3, s4, .own none (.lst R), .own none (.lst B), s7, .val (.lst W), .own none (.lst F), s10, t11, s12, s13, s14, s15, s16, s17, s18, s19, t20, s21, s22]) ⟨_, _, rfl⟩ ?_ ?_
  · rintro i _ hi ⟨t11, t20, rfl⟩ _ hx
    obtain ⟨e, he, rfl⟩ := map_get hx
    have me : e ∈ a0 := List.mem_of_getElem? he
    rw [pD_e]
    walk_at "x"
    refine ⟨_, hF0, ?_⟩
    walk_at "xd"
    refine ⟨w, a0, a1, f0, e.2, rfl, G0, fun m => absurd (List.mem_map_of_mem (f := Prod.snd) me) m, fun v hv => ?_⟩
    have ev : v = e.1 := by
      have := map_inj (f := Prod.snd) E0.nd hv me rfl
      rw [← this]
    subst ev
    walk_at "xd"
    walk_at "xe"
    by_cases m : e.1 ∈ fsts a1
    · obtain ⟨f, hf, ef⟩ := List.mem_map.mp m
      have ef : f.1 = e.1 := ef
      have q : cdD a1 e.1 = .int f.2 := by rw [← ef]; exact cdD_in (up_nd E1.up) hf
      rw [q]
      walk_at "xd"
      refine ⟨_, hF1, ?_⟩
      walk_at "xd"
      refine ⟨w, a1, a2, f1, f.2, rfl, G1, fun m => absurd (List.mem_map_of_mem (f := Prod.snd) hf) m, fun v hv => ?_⟩
      have ev : v = e.1 := by
        have := map_inj (f := Prod.snd) E1.nd hv hf rfl
        rw [← ef, ← this]
      subst ev
      walk_at "xd"
      refine ⟨_, hF2, ?_⟩
      walk_at "xd"
      refine ⟨w, a0, a2, f2, e.2, rfl, G2, fun m => absurd (List.mem_map_of_mem (f := Prod.snd) me) m, fun v hv => ?_⟩
      have ev : v = e.1 := by
        have := map_inj (f := Prod.snd) E0.nd hv me rfl
        rw [← this]
      subst ev
      walk_at "xd"
      refine ⟨_, rfl, okS_cdD, ?_⟩
      walk_at "x"
      exact ⟨_, _, rfl⟩
    · rw [cdD_out m]
      walk_at "x"
      exact ⟨_, _, rfl⟩
  · rintro _ ⟨t11, t20, rfl⟩
    walk_at "xn"
    refine ⟨.str (dom (!w)), by cases w <;> rfl, ?_⟩
    have En : Ents (!w) [] 3 := ents_nil (by decide) (by decide)
    have ne : w ≠ !w := by cases w <;> decide
    walk_at "xn"
    refine ⟨!w, true, 3, [], rfl, .inr ⟨[], List.Perm.refl _, En, fun gn Bn => ?_⟩⟩
    refine ⟨rfl, rfl, ?_⟩
    walk_at "x"
    refine ⟨_, hB0, ?_⟩
    refine ⟨w, !w, r0, 3, a0, [], g0, gn, rfl, ne, B0, Bn, E0, En, ?_⟩
    walk_at "xd"
    walk_at "xn"
    refine ⟨_, hB1, ?_⟩
    refine ⟨!w, w, 3, r1, [], a1, gn, g1, rfl, ne.symm, Bn, B1, En, E1, ?_⟩
    walk_at "xd"
    walk_at "xe"
    refine ⟨_, hF0, _, hR0, _, hR1, ?_⟩
    refine ⟨w, a0, a1, f0, rfl, G0, ?_⟩
    walk_at "x"
    exact kk
theorem law_t9 {w : Bool} {R B W F : List D} {ns : List Int} {p : RS → List Sx → Prop} {s1 s3 s4 s7 s10 s11 s12 s13 s14 s15 s16 s17 s18 s19 s20 s21 s22 : Sx} (H : Wy w R B W F) (kk : p (.val (.bl true)) [.val (.scr ns)]) :
    DL.Later law_T9 (endsOf [.val (.scr ns)] p) [.val (.scr ns), s1, .val (.str (dom w)), s3, s4, .own none (.lst R), .own none (.lst B), s7, .val (.lst W), .own none (.lst F), s10, s11, s12, s13, s14, s15, s16, s17, s18, s19, s20, s21, s22] := by
  unfold law_T9
  walk_at "xn"
  refine ⟨by decide, by decide, ?_⟩
  refine for_ok (fun i γ => ∃ t10 t18 t19, γ = [.val (.scr ns), s1, .val (.str (dom w)), s3, s4, .own none (.lst R), .own none (.lst B), s7, .val (.lst W), .own none (.lst F), t10, s11, s12, s13, s14, s15, s16, s17, t18, t19, s20, s21, s22]) ⟨_, _, _, rfl⟩ ?_ ?_
  · rintro i _ hi ⟨t10, t18, t19, rfl⟩ _ rfl
    obtain ⟨x, y, a, b, fs, g, r, h1, h2, h3, h4, h5, G, K, E⟩ := H.each i (by simpa using hi)
    have le := E.len
    walk_at "xd"
    walk_at "xs"
    refine ⟨_, h1, ?_⟩
    walk_at "xd"
    refine ⟨_, h2, ?_⟩
    walk_at "xn"
    refine ⟨_, h1, ?_⟩
    walk_at "xd"
    refine ⟨_, h3, ?_⟩
    walk_at "xn"
    refine ⟨_, h4, ?_⟩
    refine ⟨w, a, b, fs, rfl, G, ?_⟩
    walk_at "xd"
    walk_at "xn"
    refine ⟨_, h4, ?_⟩
    walk_at "xd"
    refine ⟨G.bk, w, a, b, fs, rfl, G, fun fs1 G1 => ?_⟩
    walk_at "xd"
    refine ⟨w, b, a, fs1, rfl, G1, ?_⟩
    walk_at "xd"
    walk_at "xn"
    refine ⟨_, h4, ?_⟩
    walk_at "xd"
    refine ⟨G.bk, w, a, b, fs, rfl, G, fun fs2 G2 => ?_⟩
    walk_at "xd"
    refine ⟨G2.bk, w, b, a, fs2, rfl, G2, fun fs3 G3 => ?_⟩
    walk_at "xd"
    refine ⟨w, a, b, fs3, rfl, G3, ?_⟩
    walk_at "xd"
    walk_at "xe"
    refine ⟨_, h1, ?_⟩
    walk_at "xd"
    refine ⟨_, h5, ?_⟩
    walk_at "xd"
    refine ⟨_, K.en, ?_⟩
    refine ⟨srtOk_ps (by omega), ?_⟩
    rw [sort_ps (List.Perm.refl _) E.up]
    refine ⟨_, rfl, okS_ps E, ?_⟩
    walk_at "x"
    exact ⟨_, _, _, rfl⟩
  · rintro _ ⟨t10, t18, t19, rfl⟩
    exact law_t10 H kk

theorem cnt_get {low : Int} {n i : Nat} (h : i < n) : (cnt low n)[i]? = some ((low + (i : Int) : Int), (i : Int)) := by
  unfold cnt
  rw [List.getElem?_map, List.getElem?_range h]
  rfl
theorem cnt_mem {low : Int} {n : Nat} {e : Pr false} (h : e ∈ cnt low n) : ∃ k : Nat, k < n ∧ e = ((low + (k : Int) : Int), (k : Int)) := by
  unfold cnt at h
  obtain ⟨k, hk, rfl⟩ := List.mem_map.mp h
  exact ⟨k, List.mem_range.mp hk, rfl⟩
theorem cnt_pw {low : Int} {n : Nat} {R : Pr false → Pr false → Prop} (h : ∀ i j : Nat, i < j → R ((low + (i : Int) : Int), (i : Int)) ((low + (j : Int) : Int), (j : Int))) : (cnt low n).Pairwise R := by
  unfold cnt
  refine List.pairwise_map.mpr (List.pairwise_lt_range.imp fun {a b} hab => h a b hab)
theorem cnt_ents {low room : Int} {n : Nat} (hn : n ≤ 120) (l0 : -999999999 ≤ low) (l1 : low ≤ 999999860) (r0 : 1 ≤ room) (r1 : room ≤ 1000000) : Ents false (cnt low n) room := by
  have cu : (cnt low n).Pairwise fun a b => a.2 < b.2 := cnt_pw fun i j h => by
    show (i : Int) < (j : Int)
    omega
  refine ⟨by rw [cnt_len]; exact hn, cnt_pw fun i j h => decide_eq_true ?_, ?_, fun e he => ?_, fun e he => ?_, cu.filter _, r0, r1⟩
  · show low + (i : Int) < low + (j : Int)
    omega
  · exact List.Pairwise.map _ (fun a b h => by omega) cu
  · obtain ⟨k, hk, rfl⟩ := cnt_mem he
    show (decide (-999999999 ≤ low + (k : Int)) && decide (low + (k : Int) ≤ 999999999)) = true
    rw [decide_eq_true (by omega), decide_eq_true (by omega)]
    rfl
  · obtain ⟨k, hk, rfl⟩ := cnt_mem he
    show 0 ≤ (k : Int) ∧ (k : Int) ≤ 9999999
    omega
theorem pool_start (ns : List Int) (h : ns.length ≤ 63) : Pool (0 :: ns.map fun n => if n < 0 then -n else n) := pool_mk (Int.le_refl _) (fun y hy => by
  obtain ⟨n, _, rfl⟩ := List.mem_map.mp hy
  split <;> omega) (by simpa using h)
theorem ints_snoc {l : List Int} {i : Nat} {x : Int} (h : l[i]? = some x) : intsD (l.take i) ++ [D.int x] = intsD (l.take (i + 1)) := by
  rw [List.take_add_one, h]
  simp
def law_T7 : DS := (dSeq (dAsg 8 (dLst (dCons (dTup (dCons (dC (.int (0))) (dCons (dC (.int (1))) dNil))) (dCons (dTup (dCons (dC (.int (1))) (dCons (dC (.int (2))) dNil))) (dCons (dTup (dCons (dC (.int (0))) (dCons (dC (.int (2))) dNil))) (dCons (dTup (dCons (dC (.int (0))) (dCons (dC (.int (0))) dNil))) dNil))))))
  (dSeq (dAsg 9 (dLc (dIL (dVarV 8)) (gN 21) dYes (dFz (dMakeN "Bridge" 3 fs_Bridge___init__ [] (dCons (d2 fIxL (dVar 6) (d2 fIxT (dVar 21) (dC (.int (0))))) (dCons (d2 fIxL (dVar 6) (d2 fIxT (dVar 21) (dC (.int (1))))) dNil)))) [21]))
  law_T9))
def law_T6 : DS := (dSeq (dFor (dIR1 (dCons (dC (.int (3))) dNil)) (gN 7) (dSeq (dAsg 14 (dCall 3 fs_l_entries [] (dCons (dVar 1) (dCons (dVarV 3) (dCons (dVarV 7) dNil)))))
  (dSeq (dAsg 15 (d2 fIxT (dVar 14) (dC (.int (1)))))
  (dSeq (dAsg 16 (dCall 2 fs_l_room [] (dCons (dVar 1) (dCons (d2 fIxT (dVar 14) (dC (.int (0)))) dNil))))
  (dSeq (dAsg 17 (dFz (dMakeN "Book" 4 fs_Book___init__ [] (dCons (dVarV 2) (dCons (dVarV 16) (dCons (dCB fList (dCons (dVar 15) dNil)) dNil))))))
  (dSeq (dIf (dAnd (dB (dVar 4)) (dB (d2 fNe (dVar 7) (dC (.int (1)))))) (dSeq (dAsg 15 (dCall 1 fs_l_counted [] (dCons (dVar 1) dNil)))
  (dAsg 17 (dCMX (fun _ _ _ => False) "Book" 4 fs_Book_counted (dCons (d2 fIxT (d2 fIxL (dVar 15) (dC (.int (0)))) (dC (.int (0)))) (dCons (d2 fIxT (d2 fIxL (dVar 15) (d1 fNeg (dC (.int (1))))) (dC (.int (0)))) (dCons (dVarV 16) dNil)))))) dNext)
  (dSeq (dDrop (dMut 5 mApp (dCons (dVarV 15) dNil)))
  (dDrop (dMut 6 mApp (dCons (dVarV 17) dNil))))))))))
  law_T7)
def ways : List (Nat × Nat) := [(0, 1), (1, 2), (0, 2), (0, 0)]
def waysD : List D := [.tup [.int 0, .int 1], .tup [.int 1, .int 2], .tup [.int 0, .int 2], .tup [.int 0, .int 0]]
/-- a row, its book, its room -/
abbrev Bo (w : Bool) := List (Pr w) × List (Str × D) × Int
def okB {w : Bool} (b : Bo w) : Prop := Bk w b.2.2 b.1 b.2.1 ∧ Ents w b.1 b.2.2
abbrev rowD {w : Bool} (b : Bo w) : D := .lst (psD w b.1)
abbrev bokD {w : Bool} (b : Bo w) : D := .obj "Book" b.2.1
theorem ways_at {i : Nat} {d : D} (h : waysD[i]? = some d) : ∃ x y : Nat, x < 3 ∧ y < 3 ∧ d = .tup [.int (x : Int), .int (y : Int)] ∧ ways[i]? = some (x, y) := by
  match i, h with
  | 0, h => cases h; exact ⟨0, 1, by decide, by decide, rfl, rfl⟩
  | 1, h => cases h; exact ⟨1, 2, by decide, by decide, rfl, rfl⟩
  | 2, h => cases h; exact ⟨0, 2, by decide, by decide, rfl, rfl⟩
  | 3, h => cases h; exact ⟨0, 0, by decide, by decide, rfl, rfl⟩
theorem law_t7 {w : Bool} {bs : List (Bo w)} {ns : List Int} {p : RS → List Sx → Prop} {s1 s3 s4 s7 s8 s9 s10 s11 s12 s13 s14 s15 s16 s17 s18 s19 s20 s21 s22 : Sx} (hl : bs.length = 3) (hb : ∀ b ∈ bs, okB b) (kk : p (.val (.bl true)) [.val (.scr ns)]) :
    DL.Later law_T7 (endsOf [.val (.scr ns)] p) [.val (.scr ns), s1, .val (.str (dom w)), s3, s4, .own none (.lst (bs.map rowD)), .own none (.lst (bs.map bokD)), s7, s8, s9, s10, s11, s12, s13, s14, s15, s16, s17, s18, s19, s20, s21, s22] := by
  unfold law_T7
  walk_at "xn"
  rw [show [D.tup [D.int 0, D.int 1], D.tup [D.int 1, D.int 2], D.tup [D.int 0, D.int 2], D.tup [D.int 0, D.int 0]] = waysD from rfl]
  walk_at "xn"
  refine lc_ok (by decide) (fun i acc γ => γ = [.val (.scr ns), s1, .val (.str (dom w)), s3, s4, .own none (.lst (bs.map rowD)), .own none (.lst (bs.map bokD)), s7, .val (.lst waysD), s9, s10, s11, s12, s13, s14, s15, s16, s17, s18, s19, s20, .no, s22] ∧ acc.length = i ∧
    ∀ j, j < i → ∃ (x y : Nat) (a b : Bo w) (fs : List (Str × D)), ways[j]? = some (x, y) ∧ bs[x]? = some a ∧ bs[y]? = some b ∧ acc[j]? = some (.obj "Bridge" fs) ∧ Bg w a.1 b.1 fs) ⟨rfl, rfl, fun j hj => absurd hj (Nat.not_lt_zero _)⟩ ?_ ?_
  · rintro i acc _ hi ⟨rfl, la, hj⟩ _ hx
    obtain ⟨x, y, x3, y3, rfl, hw⟩ := ways_at hx
    have ha : bs[x]? = some bs[x] := List.getElem?_eq_getElem (by omega)
    have hb2 : bs[y]? = some bs[y] := List.getElem?_eq_getElem (by omega)
    obtain ⟨K1, E1⟩ := hb _ (List.getElem_mem (show x < bs.length by omega))
    obtain ⟨K2, E2⟩ := hb _ (List.getElem_mem (show y < bs.length by omega))
    walk_at "xd"
    refine ⟨_, atI_map (atI_nat ha), _, atI_map (atI_nat hb2), ?_⟩
    refine ⟨w, w, _, _, _, _, _, _, rfl, K1, K2, E1, E2, fun z => absurd rfl z, fun h fs G => ⟨rfl, rfl, ?_⟩⟩
    walk_at "x"
    refine ⟨by simp [la], fun j hj2 => ?_⟩
    by_cases e : j = i
    · subst e
      exact ⟨x, y, bs[x], bs[y], fs, hw, ha, hb2, by rw [← la]; simp, G⟩
    · obtain ⟨x', y', a, b, fs', h1, h2, h3, h4, h5⟩ := hj j (by omega)
      exact ⟨x', y', a, b, fs', h1, h2, h3, by rw [List.getElem?_append_left (by omega)]; exact h4, h5⟩
  · rintro acc _ ⟨rfl, la, hj⟩
    walk_at "xd"
    refine law_t9 (R := bs.map rowD) (B := bs.map bokD) (W := waysD) (F := acc) ⟨fun i hi => ?_, ?_⟩ kk
    · obtain ⟨x, y, a, b, fs, h1, h2, h3, h4, G⟩ := hj i hi
      obtain ⟨K2, E2⟩ := hb _ (List.mem_of_getElem? h3)
      refine ⟨x, y, a.1, b.1, fs, b.2.1, b.2.2, atI_nat ?_, atI_map (f := rowD) (atI_nat h2), atI_map (f := rowD) (atI_nat h3), atI_nat h4, atI_map (f := bokD) (atI_nat h3), G, K2, E2⟩
      match i, h1 with
      | 0, h1 => cases h1; rfl
      | 1, h1 => cases h1; rfl
      | 2, h1 => cases h1; rfl
      | 3, h1 => cases h1; rfl
    · obtain ⟨x0, y0, a0, b0, f0, p1, p2, p3, p4, G0⟩ := hj 0 (by decide)
      obtain ⟨x1, y1, a1, b1, f1, q1, q2, q3, q4, G1⟩ := hj 1 (by decide)
      obtain ⟨x2, y2, a2, b2, f2, r1, r2, r3, r4, G2⟩ := hj 2 (by decide)
      cases p1
      cases q1
      cases r1
      rw [p3] at q2
      cases q2
      rw [p2] at r2
      cases r2
      rw [q3] at r3
      cases r3
      obtain ⟨K0, E0⟩ := hb _ (List.mem_of_getElem? p2)
      obtain ⟨K1, E1⟩ := hb _ (List.mem_of_getElem? p3)
      exact ⟨a0.1, b0.1, b1.1, f0, f1, f2, a0.2.1, b0.2.1, a0.2.2, b0.2.2, atI_map (f := rowD) (atI_nat (j := 0) p2), atI_map (f := rowD) (atI_nat (j := 1) p3), atI_nat (j := 0) p4, atI_nat (j := 1) q4, atI_nat (j := 2) r4, G0, G1, G2, atI_map (f := bokD) (atI_nat (j := 0) p2), atI_map (f := bokD) (atI_nat (j := 1) p3), K0, K1, E0, E1⟩
theorem cnt_at0 {low : Int} {n : Nat} (h : 0 < n) : atI (psD false (cnt low n)) 0 = some (.tup [.int low, .int 0]) := by
  have e : atI (psD false (cnt low n)) ((0 : Nat) : Int) = _ := atI_map (f := pD false) (atI_nat (cnt_get (low := low) h))
  rw [show ((0 : Nat) : Int) = 0 from rfl] at e
  rw [e]
  show some (D.tup [.int (low + 0), .int 0]) = _
  rw [Int.add_zero]
theorem cnt_atL {low : Int} {n : Nat} (h : 0 < n) : atI (psD false (cnt low n)) (-1) = some (.tup [.int (low + n - 1), .int (n - 1)]) := by
  have ln : (psD false (cnt low n)).length = n := by rw [List.length_map, cnt_len]
  have e : atI (psD false (cnt low n)) (-1) = (psD false (cnt low n))[n - 1]? := by
    unfold atI
    rw [show ixN (psD false (cnt low n)).length (-1) = some (n - 1) from by
      rw [ln]
      unfold ixN
      simp
      omega]
    rfl
  rw [e]
  have := cnt_get (low := low) (show n - 1 < n by omega)
  rw [List.getElem?_map, this]
  show some (D.tup [.int (low + ((n - 1 : Nat) : Int)), .int ((n - 1 : Nat) : Int)]) = _
  rw [show ((n - 1 : Nat) : Int) = n - 1 by omega, show low + ((n : Int) - 1) = low + n - 1 by omega]
theorem rows_snoc {w : Bool} {bs : List (Bo w)} {b : Bo w} : bs.map rowD ++ [.lst (psD w b.1)] = (bs ++ [b]).map rowD := by rw [List.map_append]; rfl
theorem boks_snoc {w : Bool} {bs : List (Bo w)} {b : Bo w} : bs.map bokD ++ [.obj "Book" b.2.1] = (bs ++ [b]).map bokD := by rw [List.map_append]; rfl
theorem law_t6 {w lg : Bool} {vs : List (Vt w)} {ns ms : List Int} {p : RS → List Sx → Prop} {s3 : Sx} (h3 : s3 = .own none (.lst (vs.map (vD w))) ∨ s3 = .val (.lst (vs.map (vD w)))) (hlg : lg = true → w = false) (hp : Pool ms) (h8 : vs.length ≤ 8) (up : vs.Pairwise fun a b => vlt w a b = true) (val : ∀ v ∈ vs, isV w v = true) (kk : p (.val (.bl true)) [.val (.scr ns)]) :
    DL.Later law_T6 (endsOf [.val (.scr ns)] p) [.val (.scr ns), .own none (.lst (intsD ms)), .val (.str (dom w)), s3, .val (.bl lg), .own none (.lst []), .own none (.lst []), .no, .no, .no, .no, .no, .no, .no, .no, .no, .no, .no, .no, .no, .no, .no, .no] := by
  unfold law_T6
  walk_at "xn"
  refine ⟨by decide, by decide, ?_⟩
  refine for_ok (fun i γ => ∃ (ms' : List Int) (bs : List (Bo w)) (t3 t7 t14 t15 t16 t17 : Sx), γ = [.val (.scr ns), .own none (.lst (intsD ms')), .val (.str (dom w)), t3, .val (.bl lg), .own none (.lst (bs.map rowD)), .own none (.lst (bs.map bokD)), t7, .no, .no, .no, .no, .no, .no, t14, t15, t16, t17, .no, .no, .no, .no, .no] ∧
    (t3 = .own none (.lst (vs.map (vD w))) ∨ t3 = .val (.lst (vs.map (vD w)))) ∧ Pool ms' ∧ bs.length = i ∧ ∀ b ∈ bs, okB b) ⟨ms, [], _, _, _, _, _, _, rfl, h3, hp, rfl, by simp⟩ ?_ ?_
  · rintro i _ hi ⟨ms1, bs, t3, t7, t14, t15, t16, t17, rfl, ht3, hp1, lb, hb⟩ _ rfl
    have hi : i < 3 := hi
    rcases ht3 with rfl | rfl
    all_goals
      walk_at "xd"
      walk_at "xs"
      refine ⟨ms1, w, vs, (i : Int), rfl, hp1, h8, up, val, by omega, by omega, fun k es ms2 hE hp2 => ?_⟩
      walk_at "x"
      refine ⟨ms2, k, rfl, hp2, fun r ms3 r0 r1 k3 hp3 => ?_⟩
      have E := hE r r0 r1 k3
      have le := E.len
      walk_at "x"
      refine ⟨w, false, r, es, rfl, .inr ⟨es, List.Perm.refl _, E, fun g G => ⟨rfl, rfl, ?_⟩⟩⟩
      have NEW : ∀ (b : Bo w), okB b → (bs ++ [b]).length = i + 1 ∧ ∀ x ∈ bs ++ [b], okB x := fun b h => ⟨by simp [lb], fun x hx => by
        rcases List.mem_append.mp hx with hx | hx
        · exact hb x hx
        · simp at hx
          subst hx
          exact h⟩
      walk_at "xn"
      cases lg with
      | false =>
        walk_at "x"
        obtain ⟨n1, n2⟩ := NEW (es, g, r) ⟨G, E⟩
        exact ⟨ms3, bs ++ [(es, g, r)], _, _, _, _, _, _, by rw [← rows_snoc, ← boks_snoc], .inr rfl, hp3, n1, n2⟩
      | true =>
        obtain rfl := hlg rfl
        refine ⟨fun _ => ⟨fun _ => ?_, fun _ => ?_⟩, fun z => by cases z⟩
        · walk_at "xd"
          walk_at "xs"
          refine ⟨ms3, rfl, hp3, fun low n ms4 c0 c1 n0 n1 hp4 => ?_⟩
          have C := cnt_ents (low := low) (room := r) (n := n) n1 (by omega) (by omega) r0 r1
          walk_at "xd"
          walk_at "xe"
          refine ⟨_, cnt_at0 (by omega), ?_⟩
          walk_at "xd"
          refine ⟨_, cnt_atL (by omega), ?_⟩
          walk_at "xd"
          refine ⟨low, r, n, rfl, n1, by omega, by omega, .inr ⟨C, fun g2 G2 => ?_⟩⟩
          walk_at "x"
          obtain ⟨n1, n2⟩ := NEW (cnt low n, g2, r) ⟨G2, C⟩
          exact ⟨ms4, bs ++ [(cnt low n, g2, r)], _, _, _, _, _, _, by rw [← rows_snoc, ← boks_snoc], .inr rfl, hp4, n1, n2⟩
        · walk_at "x"
          obtain ⟨n1, n2⟩ := NEW (es, g, r) ⟨G, E⟩
          exact ⟨ms3, bs ++ [(es, g, r)], _, _, _, _, _, _, by rw [← rows_snoc, ← boks_snoc], .inr rfl, hp3, n1, n2⟩
  · rintro _ ⟨ms1, bs, t3, t7, t14, t15, t16, t17, rfl, ht3, hp1, lb, hb⟩
    exact law_t7 lb hb kk
theorem pure_law (as : List Sx) (p : RS → List Sx → Prop) (hl : as.length = 1) (h : fs_law as p) : ds_law (endsOf as p) (startG 23 as) := by
  obtain ⟨ns, rfl, hn, kk⟩ := h
  unfold ds_law
  walk_at "xs"
  have hc : cut ns none (some 63) = ns := by
    rw [cut_to (by decide)]
    exact List.take_of_length_le hn
  rw [hc]
  obtain ⟨ab, hab⟩ : ∃ ab, ab = ns.map fun n => if n < 0 then -n else n := ⟨_, rfl⟩
  refine lc_a (by omega) (fun i => intsD (ab.take i)) rfl ?_ ?_
  · rintro i _ hi hx
    rw [List.getElem?_map, List.getElem?_eq_getElem hi] at hx
    cases hx
    walk_at "x"
    exact ints_snoc (by rw [hab, List.getElem?_map, List.getElem?_eq_getElem hi]; rfl)
  rw [List.take_of_length_le (by rw [hab]; simp)]
  have hp := pool_start ns hn
  have hal : ab.length ≤ 63 := by rw [hab]; simpa using hn
  rw [← hab] at hp
  have hms' : D.int 0 :: intsD ab = intsD (0 :: ab) := rfl
  generalize (0 :: ab) = ms at hp hms'
  walk_at "xd"
  rw [hms']
  refine ⟨by omega, ?_⟩
  walk_at "xn"
  refine ⟨ms, 2, rfl, hp, by decide, by decide, fun d ms1 d0 d1 hp1 => ?_⟩
  walk_at "xd"
  obtain ⟨w, hw⟩ : ∃ w : Bool, atI [D.str "number", D.str "word"] d = some (.str (dom w)) := by
    by_cases c : d = 0
    · subst c; exact ⟨false, rfl⟩
    · have : d = 1 := by omega
      subst this; exact ⟨true, rfl⟩
  refine ⟨_, hw, ?_⟩
  walk_at "xn"
  refine ⟨ms1, 9, rfl, hp1, by decide, by decide, fun m ms2 m0 m1 hp2 => ?_⟩
  walk_at "xd"
  refine ⟨by decide, ?_⟩
  obtain ⟨n, hN⟩ : ∃ n : Nat, (6 + m) % 9 = (n : Int) := ⟨((6 + m) % 9).toNat, by omega⟩
  rw [hN]
  refine ⟨ms2, w, n, rfl, hp2, by omega, fun vs ms3 h8 up val hp3 => ?_⟩
  walk_at "xd"
  walk_at "xn"
  refine ⟨ms3, 16, rfl, hp3, by decide, by decide, fun l ms4 l0 l1 hp4 => ?_⟩
  walk_at "xd"
  refine ⟨fun _ => ?_, fun _ => ?_⟩
  · walk_at "xn"
    walk_at "xn"
    refine law_t6 (.inl rfl) (fun q => ?_) hp4 h8 up val (kk _)
    cases w
    · rfl
    · revert q
      decide
  · walk_at "xn"
    walk_at "xn"
    exact law_t6 (.inl rfl) (fun q => by cases q) hp4 h8 up val (kk _)

/-! printed by gen.py: the text, the bodies as terms, the end -/
def topS (i : Nat) : Stmt := PySem.Challenge.pw_colonnade_k17_bridges.main.body.getD i (.Pass ⟨0, 0, 0, 0⟩)
abbrev s_in_order : Stmt := topS 18
abbrev N_in_order : List Str := ["ordered", "value", "code", "above", "other"]
theorem sc_in_order : FnScope N_in_order ["ordered"] (defScope s_in_order) := ⟨rfl, rfl, rfl, by decide +kernel, rfl, by decide +kernel, by decide +kernel⟩
abbrev s_told_by_first : Stmt := topS 19
abbrev N_told_by_first : List Str := ["ordered", "pair", "other"]
theorem sc_told_by_first : FnScope N_told_by_first ["ordered"] (defScope s_told_by_first) := ⟨rfl, rfl, rfl, by decide +kernel, rfl, by decide +kernel, by decide +kernel⟩
abbrev s_kept_by : Stmt := topS 20
abbrev N_kept_by : List Str := ["pairs", "ordered", "shifts", "value", "code"]
theorem sc_kept_by : FnScope N_kept_by ["pairs"] (defScope s_kept_by) := ⟨rfl, rfl, rfl, by decide +kernel, rfl, by decide +kernel, by decide +kernel⟩
abbrev s_Bridge___init__ : Stmt := methOf 0 (topS 22)
abbrev N_Bridge___init__ : List Str := ["self", "first", "second", "pairs", "value", "code"]
theorem sc_Bridge___init__ : FnScope N_Bridge___init__ ["self", "first", "second"] (defScope s_Bridge___init__) := ⟨rfl, rfl, rfl, by decide +kernel, rfl, by decide +kernel, by decide +kernel⟩
abbrev s_Bridge_keeps : Stmt := methOf 1 (topS 22)
abbrev N_Bridge_keeps : List Str := ["self"]
theorem sc_Bridge_keeps : FnScope N_Bridge_keeps ["self"] (defScope s_Bridge_keeps) := ⟨rfl, rfl, rfl, by decide +kernel, rfl, by decide +kernel, by decide +kernel⟩
abbrev s_Bridge___call__ : Stmt := methOf 2 (topS 22)
abbrev N_Bridge___call__ : List Str := ["self", "code", "value"]
theorem sc_Bridge___call__ : FnScope N_Bridge___call__ ["self", "code"] (defScope s_Bridge___call__) := ⟨rfl, rfl, rfl, by decide +kernel, rfl, by decide +kernel, by decide +kernel⟩
abbrev s_Bridge_back : Stmt := methOf 3 (topS 22)
abbrev N_Bridge_back : List Str := ["self"]
theorem sc_Bridge_back : FnScope N_Bridge_back ["self"] (defScope s_Bridge_back) := ⟨rfl, rfl, rfl, by decide +kernel, rfl, by decide +kernel, by decide +kernel⟩
abbrev s_is_word : Stmt := topS 29
abbrev N_is_word : List Str := ["text", "letter"]
theorem sc_is_word : FnScope N_is_word ["text"] (defScope s_is_word) := ⟨rfl, rfl, rfl, by decide +kernel, rfl, by decide +kernel, by decide +kernel⟩
abbrev s_is_value : Stmt := topS 30
abbrev N_is_value : List Str := ["domain", "value"]
theorem sc_is_value : FnScope N_is_value ["domain", "value"] (defScope s_is_value) := ⟨rfl, rfl, rfl, by decide +kernel, rfl, by decide +kernel, by decide +kernel⟩
abbrev s_check_room : Stmt := topS 34
abbrev N_check_room : List Str := ["room"]
theorem sc_check_room : FnScope N_check_room ["room"] (defScope s_check_room) := ⟨rfl, rfl, rfl, by decide +kernel, rfl, by decide +kernel, by decide +kernel⟩
abbrev s_is_code : Stmt := topS 35
abbrev N_is_code : List Str := ["code"]
theorem sc_is_code : FnScope N_is_code ["code"] (defScope s_is_code) := ⟨rfl, rfl, rfl, by decide +kernel, rfl, by decide +kernel, by decide +kernel⟩
abbrev s_Book___init__ : Stmt := methOf 1 (topS 37)
abbrev N_Book___init__ : List Str := ["self", "domain", "room", "entries", "codes", "values", "ordered", "in_room", "value", "code", "_", "lower"]
theorem sc_Book___init__ : FnScope N_Book___init__ ["self", "domain", "room", "entries"] (defScope s_Book___init__) := ⟨rfl, rfl, rfl, by decide +kernel, rfl, by decide +kernel, by decide +kernel⟩
abbrev s_Book_counted : Stmt := methOf 2 (topS 37)
abbrev N_Book_counted : List Str := ["cls", "low", "high", "room", "value"]
theorem sc_Book_counted : FnScope N_Book_counted ["cls", "low", "high", "room"] (defScope s_Book_counted) := ⟨rfl, rfl, rfl, by decide +kernel, rfl, by decide +kernel, by decide +kernel⟩
abbrev s_Book___contains__ : Stmt := methOf 6 (topS 37)
abbrev N_Book___contains__ : List Str := ["self", "value"]
theorem sc_Book___contains__ : FnScope N_Book___contains__ ["self", "value"] (defScope s_Book___contains__) := ⟨rfl, rfl, rfl, by decide +kernel, rfl, by decide +kernel, by decide +kernel⟩
abbrev s_Book_code_of : Stmt := methOf 7 (topS 37)
abbrev N_Book_code_of : List Str := ["self", "value"]
theorem sc_Book_code_of : FnScope N_Book_code_of ["self", "value"] (defScope s_Book_code_of) := ⟨rfl, rfl, rfl, by decide +kernel, rfl, by decide +kernel, by decide +kernel⟩
abbrev s_Book_value_of : Stmt := methOf 8 (topS 37)
abbrev N_Book_value_of : List Str := ["self", "code"]
theorem sc_Book_value_of : FnScope N_Book_value_of ["self", "code"] (defScope s_Book_value_of) := ⟨rfl, rfl, rfl, by decide +kernel, rfl, by decide +kernel, by decide +kernel⟩
abbrev s_l_take : Stmt := topS 39
abbrev N_l_take : List Str := ["_law_pool", "_law_many", "_law_digit"]
theorem sc_l_take : FnScope N_l_take ["_law_pool", "_law_many"] (defScope s_l_take) := ⟨rfl, rfl, rfl, by decide +kernel, rfl, by decide +kernel, by decide +kernel⟩
abbrev s_l_same : Stmt := topS 40
abbrev N_l_same : List Str := ["_law_told", "_law_due", "_law_k"]
theorem sc_l_same : FnScope N_l_same ["_law_told", "_law_due"] (defScope s_l_same) := ⟨rfl, rfl, rfl, by decide +kernel, rfl, by decide +kernel, by decide +kernel⟩
abbrev s_l_values : Stmt := topS 41
abbrev N_l_values : List Str := ["_law_pool", "_law_domain", "_law_many", "_law_low", "_law_words", "_law_step", "_law_k"]
theorem sc_l_values : FnScope N_l_values ["_law_pool", "_law_domain", "_law_many"] (defScope s_l_values) := ⟨rfl, rfl, rfl, by decide +kernel, rfl, by decide +kernel, by decide +kernel⟩
abbrev s_l_entries : Stmt := topS 42
abbrev N_l_entries : List Str := ["_law_pool", "_law_values_here", "_law_turn", "_law_kind", "_law_rest", "_law_entries_here", "_law_k", "_law_here", "_law_at", "_law_near", "_law_codes"]
theorem sc_l_entries : FnScope N_l_entries ["_law_pool", "_law_values_here", "_law_turn"] (defScope s_l_entries) := ⟨rfl, rfl, rfl, by decide +kernel, rfl, by decide +kernel, by decide +kernel⟩
abbrev s_l_room : Stmt := topS 43
abbrev N_l_room : List Str := ["_law_pool", "_law_kind"]
theorem sc_l_room : FnScope N_l_room ["_law_pool", "_law_kind"] (defScope s_l_room) := ⟨rfl, rfl, rfl, by decide +kernel, rfl, by decide +kernel, by decide +kernel⟩
abbrev s_l_code : Stmt := topS 44
abbrev N_l_code : List Str := ["_law_entries_here", "_law_value", "_law_pair"]
theorem sc_l_code : FnScope N_l_code ["_law_entries_here", "_law_value"] (defScope s_l_code) := ⟨rfl, rfl, rfl, by decide +kernel, rfl, by decide +kernel, by decide +kernel⟩
abbrev s_l_pairs : Stmt := topS 45
abbrev N_l_pairs : List Str := ["_law_first", "_law_second", "_law_known", "_law_common", "_law_x"]
theorem sc_l_pairs : FnScope N_l_pairs ["_law_first", "_law_second"] (defScope s_l_pairs) := ⟨rfl, rfl, rfl, by decide +kernel, rfl, by decide +kernel, by decide +kernel⟩
abbrev s_l_kept : Stmt := topS 46
abbrev N_l_kept : List Str := ["_law_pairs_here", "_law_gaps", "_law_codes", "_law_pair"]
theorem sc_l_kept : FnScope N_l_kept ["_law_pairs_here"] (defScope s_l_kept) := ⟨rfl, rfl, rfl, by decide +kernel, rfl, by decide +kernel, by decide +kernel⟩
abbrev s_l_no_code : Stmt := topS 47
abbrev N_l_no_code : List Str := ["_law_bridge", "_law_code_here", "e", "_law_known"]
theorem sc_l_no_code : FnScope N_l_no_code ["_law_bridge", "_law_code_here"] (defScope s_l_no_code) := ⟨rfl, rfl, rfl, by decide +kernel, rfl, by decide +kernel, by decide +kernel⟩
abbrev s_l_right : Stmt := topS 48
abbrev N_l_right : List Str := ["_law_bridge", "_law_first", "_law_second", "_law_pairs_here", "_law_pair", "_law_own", "_law_others", "_law_x"]
theorem sc_l_right : FnScope N_l_right ["_law_bridge", "_law_first", "_law_second"] (defScope s_l_right) := ⟨rfl, rfl, rfl, by decide +kernel, rfl, by decide +kernel, by decide +kernel⟩
abbrev s_l_refused : Stmt := topS 49
abbrev N_l_refused : List Str := ["_law_first", "_law_second", "_law_domains", "e"]
theorem sc_l_refused : FnScope N_l_refused ["_law_first", "_law_second", "_law_domains"] (defScope s_l_refused) := ⟨rfl, rfl, rfl, by decide +kernel, rfl, by decide +kernel, by decide +kernel⟩
abbrev s_l_counted : Stmt := topS 50
abbrev N_l_counted : List Str := ["_law_pool", "_law_low", "_law_k"]
theorem sc_l_counted : FnScope N_l_counted ["_law_pool"] (defScope s_l_counted) := ⟨rfl, rfl, rfl, by decide +kernel, rfl, by decide +kernel, by decide +kernel⟩
abbrev s_law : Stmt := topS 51
abbrev N_law : List Str := ["_law_script", "_law_pool", "_law_domain", "_law_values_here", "_law_large", "_law_rows", "_law_books", "_law_turn", "_law_ways", "_law_bridges", "_law_k", "_law_pair", "_law_name", "_law_other", "_law_drawn", "_law_row", "_law_room_here", "_law_book", "_law_first", "_law_second", "_law_middle", "_law_way", "_law_cell"]
theorem sc_law : FnScope N_law ["_law_script"] (defScope s_law) := ⟨rfl, rfl, rfl, by decide +kernel, rfl, by decide +kernel, by decide +kernel⟩
abbrev sI_1 : Stmt := methOf 0 (topS 3)
theorem scI_1 : FnScope ["self", "name"] ["self", "name"] (defScope sI_1) := ⟨rfl, rfl, rfl, by decide +kernel, rfl, by decide +kernel, by decide +kernel⟩
abbrev sI_2 : Stmt := methOf 0 (topS 4)
theorem scI_2 : FnScope ["self", "value"] ["self", "value"] (defScope sI_2) := ⟨rfl, rfl, rfl, by decide +kernel, rfl, by decide +kernel, by decide +kernel⟩
abbrev sI_3 : Stmt := methOf 0 (topS 5)
theorem scI_3 : FnScope ["self", "domain"] ["self", "domain"] (defScope sI_3) := ⟨rfl, rfl, rfl, by decide +kernel, rfl, by decide +kernel, by decide +kernel⟩
abbrev sI_4 : Stmt := methOf 0 (topS 6)
theorem scI_4 : FnScope ["self", "room"] ["self", "room"] (defScope sI_4) := ⟨rfl, rfl, rfl, by decide +kernel, rfl, by decide +kernel, by decide +kernel⟩
abbrev sI_5 : Stmt := methOf 0 (topS 7)
theorem scI_5 : FnScope ["self", "code"] ["self", "code"] (defScope sI_5) := ⟨rfl, rfl, rfl, by decide +kernel, rfl, by decide +kernel, by decide +kernel⟩
abbrev sI_6 : Stmt := methOf 0 (topS 8)
theorem scI_6 : FnScope ["self", "name"] ["self", "name"] (defScope sI_6) := ⟨rfl, rfl, rfl, by decide +kernel, rfl, by decide +kernel, by decide +kernel⟩
abbrev sI_7 : Stmt := methOf 0 (topS 9)
theorem scI_7 : FnScope ["self", "value"] ["self", "value"] (defScope sI_7) := ⟨rfl, rfl, rfl, by decide +kernel, rfl, by decide +kernel, by decide +kernel⟩
abbrev sI_8 : Stmt := methOf 0 (topS 10)
theorem scI_8 : FnScope ["self", "value"] ["self", "value"] (defScope sI_8) := ⟨rfl, rfl, rfl, by decide +kernel, rfl, by decide +kernel, by decide +kernel⟩
abbrev sI_9 : Stmt := methOf 0 (topS 11)
theorem scI_9 : FnScope ["self", "value"] ["self", "value"] (defScope sI_9) := ⟨rfl, rfl, rfl, by decide +kernel, rfl, by decide +kernel, by decide +kernel⟩
abbrev sI_10 : Stmt := methOf 0 (topS 12)
theorem scI_10 : FnScope ["self", "code"] ["self", "code"] (defScope sI_10) := ⟨rfl, rfl, rfl, by decide +kernel, rfl, by decide +kernel, by decide +kernel⟩
abbrev sI_11 : Stmt := methOf 0 (topS 13)
theorem scI_11 : FnScope ["self", "first", "second"] ["self", "first", "second"] (defScope sI_11) := ⟨rfl, rfl, rfl, by decide +kernel, rfl, by decide +kernel, by decide +kernel⟩
/-- what the top has written -/
structure Txt (K : PySem.W.Frag) (mg : Str → Option Value) : Type where
  f_in_order : Addr
  d_in_order : FuncData
  g_in_order : mg "in_order" = some (.ref f_in_order)
  F_in_order : Fun K "in_order" "in_order" s_in_order f_in_order d_in_order
  b_in_order : Binds K d_in_order ["ordered"] []
  f_told_by_first : Addr
  d_told_by_first : FuncData
  g_told_by_first : mg "told_by_first" = some (.ref f_told_by_first)
  F_told_by_first : Fun K "told_by_first" "told_by_first" s_told_by_first f_told_by_first d_told_by_first
  b_told_by_first : Binds K d_told_by_first ["ordered"] []
  f_kept_by : Addr
  d_kept_by : FuncData
  g_kept_by : mg "kept_by" = some (.ref f_kept_by)
  F_kept_by : Fun K "kept_by" "kept_by" s_kept_by f_kept_by d_kept_by
  b_kept_by : Binds K d_kept_by ["pairs"] []
  f_Bridge___init__ : Addr
  d_Bridge___init__ : FuncData
  F_Bridge___init__ : Fun K "__init__" "Bridge.__init__" s_Bridge___init__ f_Bridge___init__ d_Bridge___init__
  b_Bridge___init__ : Binds K d_Bridge___init__ ["self", "first", "second"] []
  f_Bridge_keeps : Addr
  d_Bridge_keeps : FuncData
  F_Bridge_keeps : Fun K "keeps" "Bridge.keeps" s_Bridge_keeps f_Bridge_keeps d_Bridge_keeps
  b_Bridge_keeps : Binds K d_Bridge_keeps ["self"] []
  f_Bridge___call__ : Addr
  d_Bridge___call__ : FuncData
  F_Bridge___call__ : Fun K "__call__" "Bridge.__call__" s_Bridge___call__ f_Bridge___call__ d_Bridge___call__
  b_Bridge___call__ : Binds K d_Bridge___call__ ["self", "code"] []
  f_Bridge_back : Addr
  d_Bridge_back : FuncData
  F_Bridge_back : Fun K "back" "Bridge.back" s_Bridge_back f_Bridge_back d_Bridge_back
  b_Bridge_back : Binds K d_Bridge_back ["self"] []
  f_is_word : Addr
  d_is_word : FuncData
  g_is_word : mg "is_word" = some (.ref f_is_word)
  F_is_word : Fun K "is_word" "is_word" s_is_word f_is_word d_is_word
  b_is_word : Binds K d_is_word ["text"] []
  f_is_value : Addr
  d_is_value : FuncData
  g_is_value : mg "is_value" = some (.ref f_is_value)
  F_is_value : Fun K "is_value" "is_value" s_is_value f_is_value d_is_value
  b_is_value : Binds K d_is_value ["domain", "value"] []
  f_check_room : Addr
  d_check_room : FuncData
  g_check_room : mg "check_room" = some (.ref f_check_room)
  F_check_room : Fun K "check_room" "check_room" s_check_room f_check_room d_check_room
  b_check_room : Binds K d_check_room ["room"] []
  f_is_code : Addr
  d_is_code : FuncData
  g_is_code : mg "is_code" = some (.ref f_is_code)
  F_is_code : Fun K "is_code" "is_code" s_is_code f_is_code d_is_code
  b_is_code : Binds K d_is_code ["code"] []
  f_Book___init__ : Addr
  d_Book___init__ : FuncData
  F_Book___init__ : FunV K "__init__" "Book.__init__" s_Book___init__ f_Book___init__ d_Book___init__
  b_Book___init__ : Binds K d_Book___init__ ["self", "domain", "room", "entries"] []
  ad_Book___init__ : Addr
  ud_Book___init__ : Value
  b2_Book___init__ : Binds K d_Book___init__ ["self", "domain", "room", "entries"] [ud_Book___init__]
  hv2_Book___init__ : Vals [.ref ad_Book___init__] [ud_Book___init__]
  ho2_Book___init__ : Paired (fun v d => ∀ z F, Rp ⟨K, z⟩ F v d) [.ref ad_Book___init__] [.tup []]
  f_Book_counted : Addr
  d_Book_counted : FuncData
  F_Book_counted : Fun K "counted" "Book.counted" s_Book_counted f_Book_counted d_Book_counted
  b_Book_counted : Binds K d_Book_counted ["cls", "low", "high", "room"] []
  f_Book___contains__ : Addr
  d_Book___contains__ : FuncData
  F_Book___contains__ : Fun K "__contains__" "Book.__contains__" s_Book___contains__ f_Book___contains__ d_Book___contains__
  b_Book___contains__ : Binds K d_Book___contains__ ["self", "value"] []
  f_Book_code_of : Addr
  d_Book_code_of : FuncData
  F_Book_code_of : Fun K "code_of" "Book.code_of" s_Book_code_of f_Book_code_of d_Book_code_of
  b_Book_code_of : Binds K d_Book_code_of ["self", "value"] []
  f_Book_value_of : Addr
  d_Book_value_of : FuncData
  F_Book_value_of : Fun K "value_of" "Book.value_of" s_Book_value_of f_Book_value_of d_Book_value_of
  b_Book_value_of : Binds K d_Book_value_of ["self", "code"] []
  f_l_take : Addr
  d_l_take : FuncData
  g_l_take : mg "_law_take" = some (.ref f_l_take)
  F_l_take : Fun K "_law_take" "_law_take" s_l_take f_l_take d_l_take
  b_l_take : Binds K d_l_take ["_law_pool", "_law_many"] []
  f_l_same : Addr
  d_l_same : FuncData
  g_l_same : mg "_law_same" = some (.ref f_l_same)
  F_l_same : Fun K "_law_same" "_law_same" s_l_same f_l_same d_l_same
  b_l_same : Binds K d_l_same ["_law_told", "_law_due"] []
  f_l_values : Addr
  d_l_values : FuncData
  g_l_values : mg "_law_values" = some (.ref f_l_values)
  F_l_values : Fun K "_law_values" "_law_values" s_l_values f_l_values d_l_values
  b_l_values : Binds K d_l_values ["_law_pool", "_law_domain", "_law_many"] []
  f_l_entries : Addr
  d_l_entries : FuncData
  g_l_entries : mg "_law_entries" = some (.ref f_l_entries)
  F_l_entries : Fun K "_law_entries" "_law_entries" s_l_entries f_l_entries d_l_entries
  b_l_entries : Binds K d_l_entries ["_law_pool", "_law_values_here", "_law_turn"] []
  f_l_room : Addr
  d_l_room : FuncData
  g_l_room : mg "_law_room" = some (.ref f_l_room)
  F_l_room : Fun K "_law_room" "_law_room" s_l_room f_l_room d_l_room
  b_l_room : Binds K d_l_room ["_law_pool", "_law_kind"] []
  f_l_code : Addr
  d_l_code : FuncData
  g_l_code : mg "_law_code" = some (.ref f_l_code)
  F_l_code : Fun K "_law_code" "_law_code" s_l_code f_l_code d_l_code
  b_l_code : Binds K d_l_code ["_law_entries_here", "_law_value"] []
  f_l_pairs : Addr
  d_l_pairs : FuncData
  g_l_pairs : mg "_law_pairs" = some (.ref f_l_pairs)
  F_l_pairs : Fun K "_law_pairs" "_law_pairs" s_l_pairs f_l_pairs d_l_pairs
  b_l_pairs : Binds K d_l_pairs ["_law_first", "_law_second"] []
  f_l_kept : Addr
  d_l_kept : FuncData
  g_l_kept : mg "_law_kept" = some (.ref f_l_kept)
  F_l_kept : Fun K "_law_kept" "_law_kept" s_l_kept f_l_kept d_l_kept
  b_l_kept : Binds K d_l_kept ["_law_pairs_here"] []
  f_l_no_code : Addr
  d_l_no_code : FuncData
  g_l_no_code : mg "_law_no_code" = some (.ref f_l_no_code)
  F_l_no_code : Fun K "_law_no_code" "_law_no_code" s_l_no_code f_l_no_code d_l_no_code
  b_l_no_code : Binds K d_l_no_code ["_law_bridge", "_law_code_here"] []
  f_l_right : Addr
  d_l_right : FuncData
  g_l_right : mg "_law_right" = some (.ref f_l_right)
  F_l_right : Fun K "_law_right" "_law_right" s_l_right f_l_right d_l_right
  b_l_right : Binds K d_l_right ["_law_bridge", "_law_first", "_law_second"] []
  f_l_refused : Addr
  d_l_refused : FuncData
  g_l_refused : mg "_law_refused" = some (.ref f_l_refused)
  F_l_refused : Fun K "_law_refused" "_law_refused" s_l_refused f_l_refused d_l_refused
  b_l_refused : Binds K d_l_refused ["_law_first", "_law_second", "_law_domains"] []
  f_l_counted : Addr
  d_l_counted : FuncData
  g_l_counted : mg "_law_counted" = some (.ref f_l_counted)
  F_l_counted : Fun K "_law_counted" "_law_counted" s_l_counted f_l_counted d_l_counted
  b_l_counted : Binds K d_l_counted ["_law_pool"] []
  f_law : Addr
  d_law : FuncData
  g_law : mg "law" = some (.ref f_law)
  F_law : Fun K "law" "law" s_law f_law d_law
  b_law : Binds K d_law ["_law_script"] []
  n_abs : mg "abs" = none
  n_all : mg "all" = none
  n_bool : mg "bool" = none
  n_int : mg "int" = none
  n_isinstance : mg "isinstance" = none
  n_len : mg "len" = none
  n_list : mg "list" = none
  n_max : mg "max" = none
  n_min : mg "min" = none
  n_range : mg "range" = none
  n_sorted : mg "sorted" = none
  n_str : mg "str" = none
  n_tuple : mg "tuple" = none
  n_zip : mg "zip" = none
  a_DOMAINS : Addr
  c_DOMAINS : mg "DOMAINS" = some (.ref a_DOMAINS)
  l_DOMAINS : SqT K (fun _ => none) a_DOMAINS [.str "number", .str "word"]
  r_DOMAINS : ∀ z F, RpAll ⟨K, z⟩ F [.str "number", .str "word"] [.str "number", .str "word"]
  t_GREATEST : Tok
  c_GREATEST : mg "GREATEST" = some (.int (999999999) t_GREATEST)
  t_LEAST : Tok
  c_LEAST : mg "LEAST" = some (.int (-999999999) t_LEAST)
  t_LETTERS : Tok
  c_LETTERS : mg "LETTERS" = some (.str "abcdefghijklmnopqrstuvwxyz" t_LETTERS)
  t_LONGEST : Tok
  c_LONGEST : mg "LONGEST" = some (.int (8) t_LONGEST)
  t_MOST_CODE : Tok
  c_MOST_CODE : mg "MOST_CODE" = some (.int (9999999) t_MOST_CODE)
  t_MOST_ROOM : Tok
  c_MOST_ROOM : mg "MOST_ROOM" = some (.int (1000000) t_MOST_ROOM)
  co_MOST : ConOk K "MOST" mc_MOST
  cl_Bridge : Cls K (ctOf K "Bridge")
  gK_Bridge : mg "Bridge" = some (.ref (ctOf K "Bridge"))
  mk_Bridge : Mk K (ctOf K "Bridge") f_Bridge___init__
  p_Bridge_keeps : Addr
  pr_Bridge_keeps : PropOf K (ctOf K "Bridge") "keeps" p_Bridge_keeps f_Bridge_keeps
  me_Bridge___call__ : Meth K (ctOf K "Bridge") "__call__" f_Bridge___call__
  me_Bridge_back : Meth K (ctOf K "Bridge") "back" f_Bridge_back
  cl_Book : Cls K (ctOf K "Book")
  gK_Book : mg "Book" = some (.ref (ctOf K "Book"))
  cr_Book : ClX.CRead K (ctOf K "Book") (.type "type")
  mk_Book : Mk K (ctOf K "Book") f_Book___init__
  p_Book_counted : Addr
  cm_Book_counted : ClX.CMet K (ctOf K "Book") (.type "type") "counted" p_Book_counted f_Book_counted
  me_Book___contains__ : Meth K (ctOf K "Book") "__contains__" f_Book___contains__
  me_Book_code_of : Meth K (ctOf K "Book") "code_of" f_Book_code_of
  me_Book_value_of : Meth K (ctOf K "Book") "value_of" f_Book_value_of
  ft : FtOk K exFt
  ct : Nat → Addr
  gC_0 : mg "ColonnadeError" = some (.ref (ct 0))
  gC_1 : mg "NoRelation" = some (.ref (ct 1))
  gC_2 : mg "BadValue" = some (.ref (ct 2))
  gC_3 : mg "BadDomain" = some (.ref (ct 3))
  gC_4 : mg "BadRoom" = some (.ref (ct 4))
  gC_5 : mg "BadCode" = some (.ref (ct 5))
  gC_6 : mg "Twice" = some (.ref (ct 6))
  gC_7 : mg "Full" = some (.ref (ct 7))
  gC_8 : mg "BadBook" = some (.ref (ct 8))
  gC_9 : mg "NoValue" = some (.ref (ct 9))
  gC_10 : mg "NoCode" = some (.ref (ct 10))
  gC_11 : mg "Mismatch" = some (.ref (ct 11))
  fI_1 : Addr
  dI_1 : FuncData
  FI_1 : Fun K "__init__" "NoRelation.__init__" sI_1 fI_1 dI_1
  bi_1 : Binds K dI_1 ["self", "name"] []
  e_1 : ErrC K mg "NoRelation" (ct 1) fI_1
  nf_1_name : PySem.W.findIn K (.ref (ct 1)) "name" = some none
  fI_2 : Addr
  dI_2 : FuncData
  FI_2 : Fun K "__init__" "BadValue.__init__" sI_2 fI_2 dI_2
  bi_2 : Binds K dI_2 ["self", "value"] []
  e_2 : ErrC K mg "BadValue" (ct 2) fI_2
  nf_2_value : PySem.W.findIn K (.ref (ct 2)) "value" = some none
  fI_3 : Addr
  dI_3 : FuncData
  FI_3 : Fun K "__init__" "BadDomain.__init__" sI_3 fI_3 dI_3
  bi_3 : Binds K dI_3 ["self", "domain"] []
  e_3 : ErrC K mg "BadDomain" (ct 3) fI_3
  nf_3_domain : PySem.W.findIn K (.ref (ct 3)) "domain" = some none
  fI_4 : Addr
  dI_4 : FuncData
  FI_4 : Fun K "__init__" "BadRoom.__init__" sI_4 fI_4 dI_4
  bi_4 : Binds K dI_4 ["self", "room"] []
  e_4 : ErrC K mg "BadRoom" (ct 4) fI_4
  nf_4_room : PySem.W.findIn K (.ref (ct 4)) "room" = some none
  fI_5 : Addr
  dI_5 : FuncData
  FI_5 : Fun K "__init__" "BadCode.__init__" sI_5 fI_5 dI_5
  bi_5 : Binds K dI_5 ["self", "code"] []
  e_5 : ErrC K mg "BadCode" (ct 5) fI_5
  nf_5_code : PySem.W.findIn K (.ref (ct 5)) "code" = some none
  fI_6 : Addr
  dI_6 : FuncData
  FI_6 : Fun K "__init__" "Twice.__init__" sI_6 fI_6 dI_6
  bi_6 : Binds K dI_6 ["self", "name"] []
  e_6 : ErrC K mg "Twice" (ct 6) fI_6
  nf_6_name : PySem.W.findIn K (.ref (ct 6)) "name" = some none
  fI_7 : Addr
  dI_7 : FuncData
  FI_7 : Fun K "__init__" "Full.__init__" sI_7 fI_7 dI_7
  bi_7 : Binds K dI_7 ["self", "value"] []
  e_7 : ErrC K mg "Full" (ct 7) fI_7
  nf_7_value : PySem.W.findIn K (.ref (ct 7)) "value" = some none
  fI_8 : Addr
  dI_8 : FuncData
  FI_8 : Fun K "__init__" "BadBook.__init__" sI_8 fI_8 dI_8
  bi_8 : Binds K dI_8 ["self", "value"] []
  e_8 : ErrC K mg "BadBook" (ct 8) fI_8
  nf_8_value : PySem.W.findIn K (.ref (ct 8)) "value" = some none
  fI_9 : Addr
  dI_9 : FuncData
  FI_9 : Fun K "__init__" "NoValue.__init__" sI_9 fI_9 dI_9
  bi_9 : Binds K dI_9 ["self", "value"] []
  e_9 : ErrC K mg "NoValue" (ct 9) fI_9
  nf_9_value : PySem.W.findIn K (.ref (ct 9)) "value" = some none
  fI_10 : Addr
  dI_10 : FuncData
  FI_10 : Fun K "__init__" "NoCode.__init__" sI_10 fI_10 dI_10
  bi_10 : Binds K dI_10 ["self", "code"] []
  e_10 : ErrC K mg "NoCode" (ct 10) fI_10
  nf_10_code : PySem.W.findIn K (.ref (ct 10)) "code" = some none
  fI_11 : Addr
  dI_11 : FuncData
  FI_11 : Fun K "__init__" "Mismatch.__init__" sI_11 fI_11 dI_11
  bi_11 : Binds K dI_11 ["self", "first", "second"] []
  e_11 : ErrC K mg "Mismatch" (ct 11) fI_11
  nf_11_first : PySem.W.findIn K (.ref (ct 11)) "first" = some none
  nf_11_second : PySem.W.findIn K (.ref (ct 11)) "second" = some none
  hrd : ∀ (n : Nat) (f : Str), exRd n f = true → XfC K (ct n) ∧ PySem.W.findIn K (.ref (ct n)) f = some none
  hkit : ∀ (n t : Nat) (b : Bool), exKit n t = some b → ExcC K (ct n) ∧ PySem.W.kitOne K (.ref (ct n)) (.ref (ct t)) = some b
  hsub_0 : ∀ (n : Nat) (b : Bool), exSub_0 n = some b → PySem.W.exmOne K (.ref (ct n)) (.ref (ct 0)) = some b
  hsub_1 : ∀ (n : Nat) (b : Bool), exSub_1 n = some b → PySem.W.exmOne K (.ref (ct n)) (.ref (ct 1)) = some b
  hsub_2 : ∀ (n : Nat) (b : Bool), exSub_2 n = some b → PySem.W.exmOne K (.ref (ct n)) (.ref (ct 2)) = some b
  hsub_3 : ∀ (n : Nat) (b : Bool), exSub_3 n = some b → PySem.W.exmOne K (.ref (ct n)) (.ref (ct 3)) = some b
  hsub_4 : ∀ (n : Nat) (b : Bool), exSub_4 n = some b → PySem.W.exmOne K (.ref (ct n)) (.ref (ct 4)) = some b
  hsub_5 : ∀ (n : Nat) (b : Bool), exSub_5 n = some b → PySem.W.exmOne K (.ref (ct n)) (.ref (ct 5)) = some b
  hsub_6 : ∀ (n : Nat) (b : Bool), exSub_6 n = some b → PySem.W.exmOne K (.ref (ct n)) (.ref (ct 6)) = some b
  hsub_7 : ∀ (n : Nat) (b : Bool), exSub_7 n = some b → PySem.W.exmOne K (.ref (ct n)) (.ref (ct 7)) = some b
  hsub_8 : ∀ (n : Nat) (b : Bool), exSub_8 n = some b → PySem.W.exmOne K (.ref (ct n)) (.ref (ct 8)) = some b
  hsub_9 : ∀ (n : Nat) (b : Bool), exSub_9 n = some b → PySem.W.exmOne K (.ref (ct n)) (.ref (ct 9)) = some b
  hsub_10 : ∀ (n : Nat) (b : Bool), exSub_10 n = some b → PySem.W.exmOne K (.ref (ct n)) (.ref (ct 10)) = some b
  hsub_11 : ∀ (n : Nat) (b : Bool), exSub_11 n = some b → PySem.W.exmOne K (.ref (ct n)) (.ref (ct 11)) = some b
section
variable {P : Program} {w : World} {K : PySem.W.Frag} {mg : Str → Option Value} {base : Heap}
theorem oki_1 (T : Txt K mg) : FnOk P w K mg base CX0 1 T.fI_1 T.dI_1 ["self", "name"] (spI1 K "name") :=
  T.FI_1.ok scI_1 (fun vs H Q E h => init1_len h) fun cdv A outer s H vs Q E hr h => ⟨_, pss_one (ps_ost (pv 0) (pv 1)), init1 h⟩
theorem oki_2 (T : Txt K mg) : FnOk P w K mg base CX0 1 T.fI_2 T.dI_2 ["self", "value"] (spI1 K "value") :=
  T.FI_2.ok scI_2 (fun vs H Q E h => init1_len h) fun cdv A outer s H vs Q E hr h => ⟨_, pss_one (ps_ost (pv 0) (pv 1)), init1 h⟩
theorem oki_3 (T : Txt K mg) : FnOk P w K mg base CX0 1 T.fI_3 T.dI_3 ["self", "domain"] (spI1 K "domain") :=
  T.FI_3.ok scI_3 (fun vs H Q E h => init1_len h) fun cdv A outer s H vs Q E hr h => ⟨_, pss_one (ps_ost (pv 0) (pv 1)), init1 h⟩
theorem oki_4 (T : Txt K mg) : FnOk P w K mg base CX0 1 T.fI_4 T.dI_4 ["self", "room"] (spI1 K "room") :=
  T.FI_4.ok scI_4 (fun vs H Q E h => init1_len h) fun cdv A outer s H vs Q E hr h => ⟨_, pss_one (ps_ost (pv 0) (pv 1)), init1 h⟩
theorem oki_5 (T : Txt K mg) : FnOk P w K mg base CX0 1 T.fI_5 T.dI_5 ["self", "code"] (spI1 K "code") :=
  T.FI_5.ok scI_5 (fun vs H Q E h => init1_len h) fun cdv A outer s H vs Q E hr h => ⟨_, pss_one (ps_ost (pv 0) (pv 1)), init1 h⟩
theorem oki_6 (T : Txt K mg) : FnOk P w K mg base CX0 1 T.fI_6 T.dI_6 ["self", "name"] (spI1 K "name") :=
  T.FI_6.ok scI_6 (fun vs H Q E h => init1_len h) fun cdv A outer s H vs Q E hr h => ⟨_, pss_one (ps_ost (pv 0) (pv 1)), init1 h⟩
theorem oki_7 (T : Txt K mg) : FnOk P w K mg base CX0 1 T.fI_7 T.dI_7 ["self", "value"] (spI1 K "value") :=
  T.FI_7.ok scI_7 (fun vs H Q E h => init1_len h) fun cdv A outer s H vs Q E hr h => ⟨_, pss_one (ps_ost (pv 0) (pv 1)), init1 h⟩
theorem oki_8 (T : Txt K mg) : FnOk P w K mg base CX0 1 T.fI_8 T.dI_8 ["self", "value"] (spI1 K "value") :=
  T.FI_8.ok scI_8 (fun vs H Q E h => init1_len h) fun cdv A outer s H vs Q E hr h => ⟨_, pss_one (ps_ost (pv 0) (pv 1)), init1 h⟩
theorem oki_9 (T : Txt K mg) : FnOk P w K mg base CX0 1 T.fI_9 T.dI_9 ["self", "value"] (spI1 K "value") :=
  T.FI_9.ok scI_9 (fun vs H Q E h => init1_len h) fun cdv A outer s H vs Q E hr h => ⟨_, pss_one (ps_ost (pv 0) (pv 1)), init1 h⟩
theorem oki_10 (T : Txt K mg) : FnOk P w K mg base CX0 1 T.fI_10 T.dI_10 ["self", "code"] (spI1 K "code") :=
  T.FI_10.ok scI_10 (fun vs H Q E h => init1_len h) fun cdv A outer s H vs Q E hr h => ⟨_, pss_one (ps_ost (pv 0) (pv 1)), init1 h⟩
theorem oki_11 (T : Txt K mg) : FnOk P w K mg base CX0 1 T.fI_11 T.dI_11 ["self", "first", "second"] (spI2 K "first" "second") :=
  T.FI_11.ok scI_11 (fun vs H Q E h => init2_len h) fun cdv A outer s H vs Q E hr h => ⟨_, pss_cons (ps_ost (pv 0) (pv 1)) (pss_one (ps_ost (pv 0) (pv 2))), init2 h⟩
theorem ok_in_order (T : Txt K mg) : FnOk P w K mg base CX0 1 T.f_in_order T.d_in_order ["ordered"] (spOf K 1 fs_in_order) := by
  exact fn_ok (ds := ds_in_order) T.F_in_order sc_in_order rfl (by decide) (fun B cdv A outer s H E hr => ⟨_, by exact (ss_one (s_ret (x_cb (cr_all rfl) cd_all T.n_all (xa_cons (x_lc [("value", 1), ("code", 2), ("above", 3), ("other", 4)] rfl sc_in_order.nd (i_zip T.n_zip (xa_cons (xvV 0) (xa_cons (x_sl sl_list sd_list (xv 0) (xo_some x_int) xo_none) xa_nil))) (blkOk_by (N := N_in_order) (sc := defScope s_in_order) (by decide +kernel)) (fun _ _ _ _ _ _ => by exact (g_tupC K rfl rfl (gs_cons (g_tupC K rfl rfl (gs_cons (g_name 1 sc_in_order.nd) (gs_cons (g_name 2 sc_in_order.nd) gs_nil))) (gs_cons (g_tupC K rfl rfl (gs_cons (g_name 3 sc_in_order.nd) (gs_cons (g_name 4 sc_in_order.nd) gs_nil))) gs_nil)))) (fun _ _ _ _ _ _ => by exact ts_nil) (fun _ _ _ _ _ _ => by exact (x_or (x_and (x_cmp op_ltV (od_ltV (K := K)) (xv 1) (xv 3)) (x_one (x_cmp op_lt (od_lt (K := K)) (xv 2) (xv 4)))) (x_one (x_and (x_cmp op_eq (od_eq (K := K)) (xv 1) (xv 3)) (x_one (x_cmp op_eq (od_eq (K := K)) (xv 2) (xv 4))))))) (by decide)) xa_nil))))⟩) pure_in_order
theorem ok_told_by_first (T : Txt K mg) : FnOk P w K mg base CX0 1 T.f_told_by_first T.d_told_by_first ["ordered"] (spOf K 1 fs_told_by_first) := by
  exact fn_ok (ds := ds_told_by_first) T.F_told_by_first sc_told_by_first rfl (by decide) (fun B cdv A outer s H E hr => ⟨_, by exact (ss_one (s_ret (x_cb (cr_all rfl) cd_all T.n_all (xa_cons (x_lc [("pair", 1), ("other", 2)] rfl sc_told_by_first.nd (i_zip T.n_zip (xa_cons (xvV 0) (xa_cons (x_sl sl_list sd_list (xv 0) (xo_some x_int) xo_none) xa_nil))) (blkOk_by (N := N_told_by_first) (sc := defScope s_told_by_first) (by decide +kernel)) (fun _ _ _ _ _ _ => by exact (g_tupC K rfl rfl (gs_cons (g_name 1 sc_told_by_first.nd) (gs_cons (g_name 2 sc_told_by_first.nd) gs_nil)))) (fun _ _ _ _ _ _ => by exact ts_nil) (fun _ _ _ _ _ _ => by exact (x_or (x_cmp (op_eqD hr.units) (od_eqD (K := K)) (xv 1) (xv 2)) (x_one (x_cmp op_ne (od_ne (K := K)) (x_ix ix_tup (od_ixT (K := K)) (xv 1) x_int) (x_ix ix_tup (od_ixT (K := K)) (xv 2) x_int))))) (by decide)) xa_nil))))⟩) pure_told_by_first
theorem ok_is_word (T : Txt K mg) : FnOk P w K mg base CX0 1 T.f_is_word T.d_is_word ["text"] (spOf K 1 fs_is_word) := by
  exact fn_ok (ds := ds_is_word) T.F_is_word sc_is_word rfl (by decide) (fun B cdv A outer s H E hr => ⟨_, by exact (ss_one (s_ret (x_and (x_chain op_le op_le od_le od_le x_int (x_cb call_len_str cd_lenS T.n_len (xa_cons (xv 0) xa_nil)) (x_gint T.c_LONGEST)) (x_one (x_cb (cr_all rfl) cd_all T.n_all (xa_cons (x_lc [("letter", 1)] rfl sc_is_word.nd (i_str (xvV 0)) (blkOk_by (N := N_is_word) (sc := defScope s_is_word) (by decide +kernel)) (fun _ _ _ _ _ _ => by exact (g_name 1 sc_is_word.nd)) (fun _ _ _ _ _ _ => by exact ts_nil) (fun _ _ _ _ _ _ => by exact (x_cmp op_in_sign (od_inC (K := K)) (xv 1) (x_gstr T.c_LETTERS))) (by decide)) xa_nil))))))⟩) pure_is_word
theorem ok_is_code (T : Txt K mg) : FnOk P w K mg base CX0 1 T.f_is_code T.d_is_code ["code"] (spOf K 1 fs_is_code) := by
  exact fn_ok (ds := ds_is_code) T.F_is_code sc_is_code rfl (by decide) (fun B cdv A outer s H E hr => ⟨_, by exact (ss_one (s_ret (x_and (x_cb call_isi cd_isi T.n_isinstance (xa_cons (xv 0) (xa_cons (x_bty T.n_int) xa_nil))) (x_and (x_not (x_cb call_isi cd_isi T.n_isinstance (xa_cons (xv 0) (xa_cons (x_bty T.n_bool) xa_nil)))) (x_one (x_chain op_le op_le od_le od_le x_int (xv 0) (x_gint T.c_MOST_CODE)))))))⟩) pure_is_code
theorem ok_l_take (T : Txt K mg) : FnOk P w K mg base CX0 1 T.f_l_take T.d_l_take ["_law_pool", "_law_many"] (spOf K 2 fs_l_take) := by
  exact fn_ok (ds := ds_l_take) T.F_l_take sc_l_take rfl (by decide) (fun B cdv A outer s H E hr => ⟨_, by exact (ss_cons (s_if (t_w (w_and (t_cmp op_eq od_eq (x_ix ix_list od_ixL (xv 0) x_int) x_int) (w_and1 (t_cmp op_gt od_gt (x_cb call_len_seq cd_len T.n_len (xa_cons (xv 0) xa_nil)) x_int)))) (ss_one (s_setI 0 (x_mut (fun h => pe_bm PySem.F.plainAttrs_list PySem.F.slot_list_pop PySem.F.type_list_pop mt_popAt (pv 0) h) md_popAt (xa_cons x_int xa_nil)) x_int)) ss_nil)
      (ss_cons (s_set 2 sc_l_take.nd (x_op op_mod od_mod (x_ct call_int1 cd_int T.n_int (xa_cons (x_ix ix_list od_ixL (xv 0) x_int) xa_nil)) (xv 1)))
      (ss_cons (s_setI 0 (x_op op_fdivW od_fdivW (x_ix ix_list od_ixL (xv 0) x_int) (xv 1)) x_int)
      (ss_one (s_ret (xvM 2))))))⟩) pure_l_take
theorem ok_l_code (T : Txt K mg) : FnOk P w K mg base CX0 1 T.f_l_code T.d_l_code ["_law_entries_here", "_law_value"] (spOf K 2 fs_l_code) := by
  exact fn_ok (ds := ds_l_code) T.F_l_code sc_l_code rfl (by decide) (fun B cdv A outer s H E hr => ⟨_, by exact (ss_cons (s_for PassesOwn.never rfl (i_list (xvV 0)) (g_name 2 sc_l_code.nd) (ss_one (s_if (t_cmp op_eq od_eq (x_ix ix_tup od_ixT (xv 2) x_int) (xv 1)) (ss_one (s_ret (x_ix ix_tup od_ixT (xv 2) x_int))) ss_nil)))
      (ss_one (s_ret x_non)))⟩) pure_l_code
theorem ok_l_kept (T : Txt K mg) : FnOk P w K mg base CX0 1 T.f_l_kept T.d_l_kept ["_law_pairs_here"] (spOf K 1 fs_l_kept) := by
  exact fn_ok (ds := ds_l_kept) T.F_l_kept sc_l_kept rfl (by decide) (fun B cdv A outer s H E hr => ⟨_, by exact (ss_cons (s_setLc 1 [("_law_pair", 3)] rfl sc_l_kept.nd (i_list (xvV 0)) (blkOk_by (N := N_l_kept) (sc := defScope s_l_kept) (by decide +kernel)) (fun _ _ _ _ _ _ => by exact (g_name 3 sc_l_kept.nd)) (fun _ _ _ _ _ _ => by exact ts_nil) (fun _ _ _ _ _ _ => by exact (x_op op_sub (od_sub (K := K)) (x_ix ix_tup (od_ixT (K := K)) (xv 3) x_int) (x_ix ix_tup (od_ixT (K := K)) (xv 3) x_int))) (by decide) (sw_true rfl rfl rfl (by decide +kernel)))
      (ss_cons (s_if (t_cmp op_eq od_eq (x_rd (fun h h2 => pe_bm PySem.F.plainAttrs_list PySem.F.slot_list_count PySem.F.type_list_count mt_lcount h h2) rd_count (xv 1) (xa_cons x_int xa_nil)) (x_cb call_len_seq cd_len T.n_len (xa_cons (xv 1) xa_nil))) (ss_one (s_ret x_str)) ss_nil)
      (ss_cons (s_if (t_cmp op_eq od_eq (x_rd (fun h h2 => pe_bm PySem.F.plainAttrs_list PySem.F.slot_list_count PySem.F.type_list_count mt_lcount h h2) rd_count (xv 1) (xa_cons (x_ix ix_list od_ixL (xv 1) x_int) xa_nil)) (x_cb call_len_seq cd_len T.n_len (xa_cons (xv 1) xa_nil))) (ss_one (s_ret x_str)) ss_nil)
      (ss_cons (s_setLc 2 [("_law_pair", 3)] rfl sc_l_kept.nd (i_list (xvV 0)) (blkOk_by (N := N_l_kept) (sc := defScope s_l_kept) (by decide +kernel)) (fun _ _ _ _ _ _ => by exact (g_name 3 sc_l_kept.nd)) (fun _ _ _ _ _ _ => by exact ts_nil) (fun _ _ _ _ _ _ => by exact (x_ix ix_tup (od_ixT (K := K)) (xv 3) x_int)) (by decide) (sw_true rfl rfl rfl (by decide +kernel)))
      (ss_cons (s_if (t_cmp (op_eqD hr.units) od_eqD (xv 2) (x_cb (cr_sortedD hr.units) cd_sorted T.n_sorted (xa_cons (xv 2) xa_nil))) (ss_one (s_ret x_str)) ss_nil)
      (ss_one (s_ret x_str)))))))⟩) pure_l_kept
theorem ok_kept_by (T : Txt K mg) : FnOk P w K mg base CX0 2 T.f_kept_by T.d_kept_by ["pairs"] (spOf K 1 fs_kept_by) := by
  have G_in_order := ok_in_order (P := P) (w := w) (base := base) T
  have G_told_by_first := ok_told_by_first (P := P) (w := w) (base := base) T
  exact fn_ok (ds := ds_kept_by) T.F_kept_by sc_kept_by rfl (by decide) (fun B cdv A outer s H E hr => ⟨_, by exact (ss_cons (s_set 1 sc_kept_by.nd (x_cb (cr_sortedD hr.units) cd_sorted T.n_sorted (xa_cons (x_lc [("value", 3), ("code", 4)] rfl sc_kept_by.nd (i_list (xvV 0)) (blkOk_by (N := N_kept_by) (sc := defScope s_kept_by) (by decide +kernel)) (fun _ _ _ _ _ _ => by exact (g_tupC K rfl rfl (gs_cons (g_name 3 sc_kept_by.nd) (gs_cons (g_name 4 sc_kept_by.nd) gs_nil)))) (fun _ _ _ _ _ _ => by exact ts_nil) (fun _ _ _ _ _ _ => by exact (x_tup (xa_cons (xvV 3) (xa_cons (xvV 4) xa_nil)))) (by decide)) xa_nil)))
      (ss_cons (s_if (t_not (t_tru (xv 1))) (ss_one (s_ret x_str)) ss_nil)
      (ss_cons (s_if (t_val (x_cb call_isi cd_isi T.n_isinstance (xa_cons (x_ix ix_tup od_ixT (x_ix ix_list od_ixL (xv 1) x_int) x_int) (xa_cons (x_bty T.n_int) xa_nil)))) (ss_cons (s_setLc 2 [("value", 3), ("code", 4)] rfl sc_kept_by.nd (i_list (xvV 1)) (blkOk_by (N := N_kept_by) (sc := defScope s_kept_by) (by decide +kernel)) (fun _ _ _ _ _ _ => by exact (g_tupC K rfl rfl (gs_cons (g_name 3 sc_kept_by.nd) (gs_cons (g_name 4 sc_kept_by.nd) gs_nil)))) (fun _ _ _ _ _ _ => by exact ts_nil) (fun _ _ _ _ _ _ => by exact (x_op op_sub (od_sub (K := K)) (xv 4) (xv 3))) (by decide) (sw_true rfl rfl rfl (by decide +kernel)))
      (ss_one (s_if (t_cmp op_eq od_eq (x_cb (cr_min rfl) cd_min T.n_min (xa_cons (xv 2) xa_nil)) (x_cb (cr_max rfl) cd_max T.n_max (xa_cons (xv 2) xa_nil))) (ss_one (s_ret (x_if (t_cmp op_eq od_eq (x_ix ix_list od_ixL (xv 2) x_int) x_int) x_str x_str))) ss_nil))) ss_nil)
      (ss_cons (s_if (t_val (x_callL K rfl G_in_order (hr.mono (by decide)) T.g_in_order T.F_in_order.kp T.b_in_order (xa_cons (xv 1) xa_nil))) (ss_one (s_ret x_str)) ss_nil)
      (ss_cons (s_if (t_w (w_and (t_val (x_callL K rfl G_told_by_first (hr.mono (by decide)) T.g_told_by_first T.F_told_by_first.kp T.b_told_by_first (xa_cons (xv 1) xa_nil))) (w_and1 (t_val (x_callL K rfl G_told_by_first (hr.mono (by decide)) T.g_told_by_first T.F_told_by_first.kp T.b_told_by_first (xa_cons (x_cb (cr_sortedD hr.units) cd_sorted T.n_sorted (xa_cons (x_lc [("value", 3), ("code", 4)] rfl sc_kept_by.nd (i_list (xvV 1)) (blkOk_by (N := N_kept_by) (sc := defScope s_kept_by) (by decide +kernel)) (fun _ _ _ _ _ _ => by exact (g_tupC K rfl rfl (gs_cons (g_name 3 sc_kept_by.nd) (gs_cons (g_name 4 sc_kept_by.nd) gs_nil)))) (fun _ _ _ _ _ _ => by exact ts_nil) (fun _ _ _ _ _ _ => by exact (x_tup (xa_cons (xvV 4) (xa_cons (xvV 3) xa_nil)))) (by decide)) xa_nil)) xa_nil)))))) (ss_one (s_ret x_str)) ss_nil)
      (ss_one (s_ret x_str)))))))⟩) pure_kept_by
theorem ok_is_value (T : Txt K mg) : FnOk P w K mg base CX0 2 T.f_is_value T.d_is_value ["domain", "value"] (spOf K 2 fs_is_value) := by
  have G_is_word := ok_is_word (P := P) (w := w) (base := base) T
  exact fn_ok (ds := ds_is_value) T.F_is_value sc_is_value rfl (by decide) (fun B cdv A outer s H E hr => ⟨_, by exact (ss_cons (s_if (t_cmp op_eq od_eq (xv 0) x_str) (ss_one (s_ret (x_and (x_cb call_isi cd_isi T.n_isinstance (xa_cons (xv 1) (xa_cons (x_bty T.n_int) xa_nil))) (x_and (x_not (x_cb call_isi cd_isi T.n_isinstance (xa_cons (xv 1) (xa_cons (x_bty T.n_bool) xa_nil)))) (x_one (x_chain op_leV op_leV od_leV od_leV (x_gint T.c_LEAST) (xv 1) (x_gint T.c_GREATEST))))))) ss_nil)
      (ss_one (s_ret (x_and (x_cmp op_eq od_eq (xv 0) x_str) (x_and (x_cb call_isi cd_isi T.n_isinstance (xa_cons (xv 1) (xa_cons (x_bty T.n_str) xa_nil))) (x_one (x_call G_is_word (hr.mono (by decide)) T.g_is_word T.F_is_word.kp T.b_is_word (xa_cons (xvV 1) xa_nil))))))))⟩) pure_is_value
theorem ok_l_values (T : Txt K mg) : FnOk P w K mg base CX0 2 T.f_l_values T.d_l_values ["_law_pool", "_law_domain", "_law_many"] (spOf K 3 fs_l_values) := by
  have G_l_take := ok_l_take (P := P) (w := w) (base := base) T
  exact fn_ok (ds := ds_l_values) T.F_l_values sc_l_values rfl (by decide) (fun B cdv A outer s H E hr => ⟨_, by exact (ss_cons (s_set 3 sc_l_values.nd (x_ix ix_list od_ixL (x_lst (xa_cons (x_un un_neg ud_neg x_int) (xa_cons (x_un un_neg ud_neg x_int) (xa_cons x_int (xa_cons x_int xa_nil))))) (x_call G_l_take (hr.mono (by decide)) T.g_l_take T.F_l_take.kp T.b_l_take (xa_cons (xv 0) (xa_cons x_int xa_nil)))))
      (ss_cons (s_set 4 sc_l_values.nd (x_lst (xa_cons x_str (xa_cons x_str (xa_cons x_str (xa_cons x_str (xa_cons x_str (xa_cons x_str (xa_cons x_str (xa_cons x_str (xa_cons x_str (xa_cons x_str xa_nil))))))))))))
      (ss_cons (s_set 5 sc_l_values.nd (x_op op_add od_add x_int (x_call G_l_take (hr.mono (by decide)) T.g_l_take T.F_l_take.kp T.b_l_take (xa_cons (xv 0) (xa_cons x_int xa_nil)))))
      (ss_cons (s_if (t_cmp op_eq od_eq (xv 1) x_str) (ss_one (s_ret (x_sl sl_list sd_list (x_sl sl_list sd_list (xv 4) (xo_some (x_call G_l_take (hr.mono (by decide)) T.g_l_take T.F_l_take.kp T.b_l_take (xa_cons (xv 0) (xa_cons x_int xa_nil)))) xo_none) xo_none (xo_some (xv 2))))) ss_nil)
      (ss_one (s_ret (x_lc [("_law_k", 6)] rfl sc_l_values.nd (i_r1 T.n_range (xa_cons (xvV 2) xa_nil)) (blkOk_by (N := N_l_values) (sc := defScope s_l_values) (by decide +kernel)) (fun _ _ _ _ _ _ => by exact (g_name 6 sc_l_values.nd)) (fun _ _ _ _ _ _ => by exact ts_nil) (fun _ _ _ _ _ _ => by exact (x_op op_add (od_add (K := K)) (xv 3) (x_op op_mul (od_mul (K := K)) (xv 5) (xv 6)))) (by decide))))))))⟩) pure_l_values
theorem ok_l_entries (T : Txt K mg) : FnOk P w K mg base CX0 2 T.f_l_entries T.d_l_entries ["_law_pool", "_law_values_here", "_law_turn"] (spOf K 3 fs_l_entries) := by
  have G_l_take := ok_l_take (P := P) (w := w) (base := base) T
  exact fn_ok (ds := ds_l_entries) T.F_l_entries sc_l_entries rfl (by decide) (fun B cdv A outer s H E hr => ⟨_, by exact (ss_cons (s_set 3 sc_l_entries.nd (x_op op_mod od_mod (x_ct call_int1 cd_int T.n_int (xa_cons (x_op op_add od_add (x_call G_l_take (hr.mono (by decide)) T.g_l_take T.F_l_take.kp T.b_l_take (xa_cons (xv 0) (xa_cons x_int xa_nil))) (x_op op_mul od_mul x_int (xv 2))) xa_nil)) x_int))
      (ss_cons (s_set 4 sc_l_entries.nd (x_listRg1 rfl T.n_list T.n_range x_int))
      (ss_cons (s_set 5 sc_l_entries.nd (x_lst xa_nil))
      (ss_cons (s_for PassesOwn.never rfl (i_r1 T.n_range (xa_cons (x_cb call_len_seq cd_len T.n_len (xa_cons (xv 1) xa_nil)) xa_nil)) (g_name 6 sc_l_entries.nd) (ss_cons (s_set 7 sc_l_entries.nd (x_cmp op_gt od_gt (x_op op_mod od_mod (x_ct call_int1 cd_int T.n_int (xa_cons (x_op op_add od_add (x_op op_add od_add (x_call G_l_take (hr.mono (by decide)) T.g_l_take T.F_l_take.kp T.b_l_take (xa_cons (xv 0) (xa_cons x_int xa_nil))) (xv 6)) (xv 2)) xa_nil)) x_int) x_int))
      (ss_cons (s_set 8 sc_l_entries.nd (x_op op_mod od_mod (x_ct call_int1 cd_int T.n_int (xa_cons (x_op op_add od_add (x_call G_l_take (hr.mono (by decide)) T.g_l_take T.F_l_take.kp T.b_l_take (xa_cons (xv 0) (xa_cons (x_cb call_len_seq cd_len T.n_len (xa_cons (xv 4) xa_nil)) xa_nil))) (x_op op_mul od_mul x_int (xv 6))) xa_nil)) (x_cb call_len_seq cd_len T.n_len (xa_cons (xv 4) xa_nil))))
      (ss_cons (s_set 9 sc_l_entries.nd (x_op op_add od_add (x_op op_mul od_mul x_int (xv 6)) (x_call G_l_take (hr.mono (by decide)) T.g_l_take T.F_l_take.kp T.b_l_take (xa_cons (xv 0) (xa_cons x_int xa_nil)))))
      (ss_cons (s_set 10 sc_l_entries.nd (x_lst (xa_cons (xvV 6) (xa_cons (x_op op_add od_add (xv 6) x_int) (xa_cons (xvV 9) (xa_cons (x_mut (fun h => pe_bm PySem.F.plainAttrs_list PySem.F.slot_list_pop PySem.F.type_list_pop mt_popAt (pv 4) h) md_popAt (xa_cons (xvV 8) xa_nil)) (xa_cons (x_op op_add od_add x_int (xv 6)) xa_nil)))))))
      (ss_one (s_if (t_val (xv 7)) (ss_one (s_expr (x_mut (fun h => pe_bm PySem.F.plainAttrs_list PySem.F.slot_list_append PySem.F.type_list_append mt_append (pv 5) h) md_append (xa_cons (x_tup (xa_cons (x_ix ix_list od_ixL (xv 1) (xv 6)) (xa_cons (x_ix ix_list od_ixL (xv 10) (xv 3)) xa_nil))) xa_nil)))) ss_nil)))))))
      (ss_one (s_ret (x_tup (xa_cons (xvV 3) (xa_cons (xvV 5) xa_nil)))))))))⟩) pure_l_entries
theorem ok_l_room (T : Txt K mg) : FnOk P w K mg base CX0 2 T.f_l_room T.d_l_room ["_law_pool", "_law_kind"] (spOf K 2 fs_l_room) := by
  have G_l_take := ok_l_take (P := P) (w := w) (base := base) T
  exact fn_ok (ds := ds_l_room) T.F_l_room sc_l_room rfl (by decide) (fun B cdv A outer s H E hr => ⟨_, by exact (ss_cons (s_if (t_cmp op_eq od_eq (xv 1) x_int) (ss_one (s_ret x_int)) ss_nil)
      (ss_one (s_ret (x_ix ix_list od_ixL (x_lst (xa_cons x_int (xa_cons x_int (xa_cons x_int (xa_cons x_int xa_nil))))) (x_call G_l_take (hr.mono (by decide)) T.g_l_take T.F_l_take.kp T.b_l_take (xa_cons (xv 0) (xa_cons x_int xa_nil)))))))⟩) pure_l_room
theorem ok_l_pairs (T : Txt K mg) : FnOk P w K mg base CX0 2 T.f_l_pairs T.d_l_pairs ["_law_first", "_law_second"] (spOf K 2 fs_l_pairs) := by
  have G_l_code := ok_l_code (P := P) (w := w) (base := base) T
  exact fn_ok (ds := ds_l_pairs) T.F_l_pairs sc_l_pairs rfl (by decide) (fun B cdv A outer s H E hr => ⟨_, by exact (ss_cons (s_set 2 sc_l_pairs.nd (x_lc [("_law_x", 4)] rfl sc_l_pairs.nd (i_list (xvV 1)) (blkOk_by (N := N_l_pairs) (sc := defScope s_l_pairs) (by decide +kernel)) (fun _ _ _ _ _ _ => by exact (g_name 4 sc_l_pairs.nd)) (fun _ _ _ _ _ _ => by exact ts_nil) (fun _ _ _ _ _ _ => by exact (x_ix ix_tup (od_ixT (K := K)) (xv 4) x_int)) (by decide)))
      (ss_cons (s_setLc 3 [("_law_x", 4)] rfl sc_l_pairs.nd (i_list (xvV 0)) (blkOk_by (N := N_l_pairs) (sc := defScope s_l_pairs) (by decide +kernel)) (fun _ _ _ _ _ _ => by exact (g_name 4 sc_l_pairs.nd)) (fun _ _ _ _ _ _ => by exact (ts_one (t_cmp op_in_seq (od_inQ (K := K)) (x_ix ix_tup (od_ixT (K := K)) (xv 4) x_int) (xv 2)))) (fun _ _ _ _ _ _ => by exact (xvV 4)) (by decide) (sw_true rfl rfl rfl (by decide +kernel)))
      (ss_one (s_ret (x_cb (cr_sortedD hr.units) cd_sorted T.n_sorted (xa_cons (x_lc [("_law_x", 4)] rfl sc_l_pairs.nd (i_list (xvV 3)) (blkOk_by (N := N_l_pairs) (sc := defScope s_l_pairs) (by decide +kernel)) (fun _ _ _ _ _ _ => by exact (g_name 4 sc_l_pairs.nd)) (fun _ _ _ _ _ _ => by exact ts_nil) (fun _ _ _ _ _ _ => by exact (x_tup (xa_cons (x_ix ix_tup (od_ixT (K := K)) (xv 4) x_int) (xa_cons (x_callC K rfl G_l_code (hr.mono (by decide)) T.g_l_code T.F_l_code.kp T.b_l_code (xa_cons (xvV 1) (xa_cons (x_ix ix_tup (od_ixT (K := K)) (xv 4) x_int) xa_nil))) xa_nil)))) (by decide)) xa_nil))))))⟩) pure_l_pairs
theorem ok_l_counted (T : Txt K mg) : FnOk P w K mg base CX0 2 T.f_l_counted T.d_l_counted ["_law_pool"] (spOf K 1 fs_l_counted) := by
  have G_l_take := ok_l_take (P := P) (w := w) (base := base) T
  exact fn_ok (ds := ds_l_counted) T.F_l_counted sc_l_counted rfl (by decide) (fun B cdv A outer s H E hr => ⟨_, by exact (ss_cons (s_set 1 sc_l_counted.nd (x_op op_sub od_sub (x_call G_l_take (hr.mono (by decide)) T.g_l_take T.F_l_take.kp T.b_l_take (xa_cons (xv 0) (xa_cons x_int xa_nil))) x_int))
      (ss_one (s_ret (x_lc [("_law_k", 2)] rfl sc_l_counted.nd (i_r1 T.n_range (xa_cons (x_op op_add od_add x_int (x_call G_l_take (hr.mono (by decide)) T.g_l_take T.F_l_take.kp T.b_l_take (xa_cons (xv 0) (xa_cons x_int xa_nil)))) xa_nil)) (blkOk_by (N := N_l_counted) (sc := defScope s_l_counted) (by decide +kernel)) (fun _ _ _ _ _ _ => by exact (g_name 2 sc_l_counted.nd)) (fun _ _ _ _ _ _ => by exact ts_nil) (fun _ _ _ _ _ _ => by exact (x_tup (xa_cons (x_op op_add (od_add (K := K)) (xv 1) (xv 2)) (xa_cons (xvV 2) xa_nil)))) (by decide)))))⟩) pure_l_counted
theorem ok_Bridge_keeps (T : Txt K mg) : FnOk P w K mg base CX0 3 T.f_Bridge_keeps T.d_Bridge_keeps ["self"] (spOf K 1 fs_Bridge_keeps) := by
  have G_kept_by := ok_kept_by (P := P) (w := w) (base := base) T
  exact fn_ok (ds := ds_Bridge_keeps) T.F_Bridge_keeps sc_Bridge_keeps rfl (by decide) (fun B cdv A outer s H E hr => ⟨_, by exact (ss_one (s_ret (x_call G_kept_by (hr.mono (by decide)) T.g_kept_by T.F_kept_by.kp T.b_kept_by (xa_cons (x_ct call_list_of cd_list T.n_list (xa_cons (x_fldK "pairs" T.ft (xv 0)) xa_nil)) xa_nil))))⟩) pure_Bridge_keeps
theorem ok_check_room (T : Txt K mg) : FnOk P w K mg base (L2N.CX P w) 3 T.f_check_room T.d_check_room ["room"] (spOfX K T.ct 1 fs_check_room) := by
  exact fn_okX (ds := ds_check_room) T.F_check_room sc_check_room rfl (by decide) (fun B W xc cdv A outer s H E hr xo tk => ⟨_, by exact (ss_one (s_if (t_not (t_chain op_le op_le od_le od_le x_int (xv 0) (x_gint T.c_MOST_ROOM))) (ss_one (s_raise1 (nm := 4) rfl xo tk T.e_4 T.nf_4_room (oki_4 (P := P) (w := w) (base := base) T) (hr.mono (by decide)) T.bi_4 (xa_cons (xvV 0) xa_nil))) ss_nil))⟩) pure_check_room
theorem ok_Book___contains__ (T : Txt K mg) : FnOk P w K mg base CX0 3 T.f_Book___contains__ T.d_Book___contains__ ["self", "value"] (spOf K 2 fs_Book___contains__) := by
  have G_is_value := ok_is_value (P := P) (w := w) (base := base) T
  exact fn_ok (ds := ds_Book___contains__) T.F_Book___contains__ sc_Book___contains__ rfl (by decide) (fun B cdv A outer s H E hr => ⟨_, by exact (ss_one (s_ret (x_and (x_call G_is_value (hr.mono (by decide)) T.g_is_value T.F_is_value.kp T.b_is_value (xa_cons (x_fldK "domain" T.ft (xv 0)) (xa_cons (xvV 1) xa_nil))) (x_one (x_din (hu1 hr.units) (xv 1) (x_fldK "code_by_value" T.ft (xv 0)))))))⟩) pure_Book___contains__
theorem ok_Book_value_of (T : Txt K mg) : FnOk P w K mg base (L2N.CX P w) 3 T.f_Book_value_of T.d_Book_value_of ["self", "code"] (spOfX K T.ct 2 fs_Book_value_of) := by
  have G_is_code := ok_is_code (P := P) (w := w) (base := base) T
  exact fn_okX (ds := ds_Book_value_of) T.F_Book_value_of sc_Book_value_of rfl (by decide) (fun B W xc cdv A outer s H E hr xo tk => ⟨_, by exact (ss_cons (s_if (t_w (w_or (t_not (t_val (x_call G_is_code (hr.mono (by decide)) T.g_is_code T.F_is_code.kp T.b_is_code (xa_cons (xvV 1) xa_nil)))) (w_or1 (t_dnin (hu1 hr.units) (xv 1) (x_fldK "value_by_code" T.ft (xv 0)))))) (ss_one (s_raise1 (nm := 10) rfl xo tk T.e_10 T.nf_10_code (oki_10 (P := P) (w := w) (base := base) T) (hr.mono (by decide)) T.bi_10 (xa_cons (xvV 1) xa_nil))) ss_nil)
      (ss_one (s_ret (x_dget (hu1 hr.units) (x_fldK "value_by_code" T.ft (xv 0)) (xv 1)))))⟩) pure_Book_value_of
theorem ok_Book___init__ (T : Txt K mg) : FnOk P w K mg base (L2N.CX P w) 4 T.f_Book___init__ T.d_Book___init__ ["self", "domain", "room", "entries"] (spOfX K T.ct 4 fs_Book___init__) := by
  have G_check_room := ok_check_room (P := P) (w := w) (base := base) T
  have G_is_code := ok_is_code (P := P) (w := w) (base := base) T
  have G_is_value := ok_is_value (P := P) (w := w) (base := base) T
  have G_kept_by := ok_kept_by (P := P) (w := w) (base := base) T
  exact fn_okXV (ds := ds_Book___init__) T.F_Book___init__ sc_Book___init__ rfl (by decide) (fun B W xc cdv A outer s H E hr xo tk => ⟨_, by exact (ss_cons (s_if (t_cmp op_notIn_seq od_inQ (xv 1) (x_gtup T.c_DOMAINS T.l_DOMAINS T.r_DOMAINS)) (ss_one (s_raise1 (nm := 3) rfl xo tk T.e_3 T.nf_3_domain (oki_3 (P := P) (w := w) (base := base) T) (hr.mono (by decide)) T.bi_3 (xa_cons (xvV 1) xa_nil))) ss_nil)
      (ss_cons (s_expr (x_callX xo tk G_check_room (hr.mono (by decide)) T.g_check_room T.F_check_room.kp T.b_check_room (xa_cons (xvV 2) xa_nil)))
      (ss_cons (s_set 4 sc_Book___init__.nd x_dnew)
      (ss_cons (s_set 5 sc_Book___init__.nd x_dnew)
      (ss_cons (s_for (passes_of rfl) rfl (i_seq (xvV 3)) (g_tup rfl (gs_cons (g_name 8 sc_Book___init__.nd) (gs_cons (g_name 9 sc_Book___init__.nd) gs_nil))) (ss_cons (s_if (t_not (t_val (x_call G_is_value (hr.mono (by decide)) T.g_is_value T.F_is_value.kp T.b_is_value (xa_cons (xvV 1) (xa_cons (xvV 8) xa_nil))))) (ss_one (s_raise1 (nm := 2) rfl xo tk T.e_2 T.nf_2_value (oki_2 (P := P) (w := w) (base := base) T) (hr.mono (by decide)) T.bi_2 (xa_cons (xvV 8) xa_nil))) ss_nil)
      (ss_cons (s_if (t_not (t_val (x_call G_is_code (hr.mono (by decide)) T.g_is_code T.F_is_code.kp T.b_is_code (xa_cons (xvV 9) xa_nil)))) (ss_one (s_raise1 (nm := 5) rfl xo tk T.e_5 T.nf_5_code (oki_5 (P := P) (w := w) (base := base) T) (hr.mono (by decide)) T.bi_5 (xa_cons (xvV 9) xa_nil))) ss_nil)
      (ss_cons (s_if (t_w (w_or (t_din (hu1 hr.units) (xv 8) (xv 4)) (w_or1 (t_din (hu1 hr.units) (xv 9) (xv 5))))) (ss_one (s_raise1 (nm := 6) rfl xo tk T.e_6 T.nf_6_name (oki_6 (P := P) (w := w) (base := base) T) (hr.mono (by decide)) T.bi_6 (xa_cons (xvV 8) xa_nil))) ss_nil)
      (ss_cons (s_setK 4 (hu1 hr.units) (xvV 9) (xv 8))
      (ss_one (s_setK 5 (hu1 hr.units) (xvV 8) (xv 9))))))))
      (ss_cons (s_if (t_cmp op_gt od_gt (x_cb call_lenD cd_lenD T.n_len (xa_cons (xv 4) xa_nil)) (x_con "MOST" T.co_MOST (xv 0))) (ss_one (s_raise1 (nm := 7) rfl xo tk T.e_7 T.nf_7_value (oki_7 (P := P) (w := w) (base := base) T) (hr.mono (by decide)) T.bi_7 (xa_cons (x_ix ix_tup od_ixT (x_ix ix_seq od_ixQ (xv 3) (x_con "MOST" T.co_MOST (xv 0))) x_int) xa_nil))) ss_nil)
      (ss_cons (s_set 6 sc_Book___init__.nd (x_cb (cr_sortedD hr.units) cd_sorted T.n_sorted (xa_cons (x_lc [("value", 8), ("code", 9)] rfl sc_Book___init__.nd (i_seq (xvV 3)) (blkOk_by (N := N_Book___init__) (sc := defScope s_Book___init__) (by decide +kernel)) (fun _ _ _ _ _ _ => by exact (g_tupC K rfl rfl (gs_cons (g_name 8 sc_Book___init__.nd) (gs_cons (g_name 9 sc_Book___init__.nd) gs_nil)))) (fun _ _ _ _ _ _ => by exact ts_nil) (fun _ _ _ _ _ _ => by exact (x_tup (xa_cons (xvV 8) (xa_cons (xvV 9) xa_nil)))) (by decide)) xa_nil)))
      (ss_cons (s_setLc 7 [("value", 8), ("code", 9)] rfl sc_Book___init__.nd (i_list (xvV 6)) (blkOk_by (N := N_Book___init__) (sc := defScope s_Book___init__) (by decide +kernel)) (fun _ _ _ _ _ _ => by exact (g_tupC K rfl rfl (gs_cons (g_name 8 sc_Book___init__.nd) (gs_cons (g_name 9 sc_Book___init__.nd) gs_nil)))) (fun _ _ _ _ _ _ => by exact (ts_one (t_cmp op_lt (od_lt (K := K)) (xv 9) (xv 2)))) (fun _ _ _ _ _ _ => by exact (x_tup (xa_cons (xvV 8) (xa_cons (xvV 9) xa_nil)))) (by decide) (sw_true rfl rfl rfl (by decide +kernel)))
      (ss_cons (s_for (passes_of rfl) rfl (i_zip T.n_zip (xa_cons (xvV 7) (xa_cons (x_sl sl_list sd_list (xv 7) (xo_some x_int) xo_none) xa_nil))) (g_tup rfl (gs_cons (g_tup rfl (gs_cons (g_name 10 sc_Book___init__.nd) (gs_cons (g_name 11 sc_Book___init__.nd) gs_nil))) (gs_cons (g_tup rfl (gs_cons (g_name 8 sc_Book___init__.nd) (gs_cons (g_name 9 sc_Book___init__.nd) gs_nil))) gs_nil))) (ss_one (s_if (t_cmp op_le od_le (xv 9) (xv 11)) (ss_one (s_raise1 (nm := 8) rfl xo tk T.e_8 T.nf_8_value (oki_8 (P := P) (w := w) (base := base) T) (hr.mono (by decide)) T.bi_8 (xa_cons (xvV 8) xa_nil))) ss_nil)))
      (ss_cons (s_setF 0 "domain" T.ft (xvV 1))
      (ss_cons (s_setF 0 "room" T.ft (xvV 2))
      (ss_cons (s_setF 0 "entries" T.ft (x_ct call_tuple_of cd_tuple T.n_tuple (xa_cons (xv 6) xa_nil)))
      (ss_cons (s_setF 0 "code_by_value" T.ft (xvV 4))
      (ss_cons (s_setF 0 "value_by_code" T.ft (xvV 5))
      (ss_one (s_setF 0 "relation" T.ft (x_call G_kept_by (hr.mono (by decide)) T.g_kept_by T.F_kept_by.kp T.b_kept_by (xa_cons (xvV 6) xa_nil))))))))))))))))))⟩) pure_Book___init__
theorem okH_l_same (T : Txt K mg) : L2H.FnH P w K mg base CX0 4 T.f_l_same T.d_l_same ["_law_told", "_law_due"] (spOf K 2 fsH_l_same) := by
  exact fn_okH (ds := dsH_l_same) T.F_l_same sc_l_same rfl (by decide) (fun B cdv A outer s H E pp hot hr => ⟨_, by exact (ss_cons (s_if (t_cmp op_isN od_isN (xv 1) x_non) (ss_one (s_ret (x_cmp op_isN od_isN (xv 0) x_non))) ss_nil)
      (ss_cons (s_if (t_val (x_cb call_isi cd_isi T.n_isinstance (xa_cons (xv 1) (xa_cons (x_bty T.n_bool) xa_nil)))) (ss_one (s_ret (x_and (x_cb call_isi cd_isi T.n_isinstance (xa_cons (xv 0) (xa_cons (x_bty T.n_bool) xa_nil))) (x_one (x_cmp (op_eqD hr.units) od_eqD (xv 0) (xv 1)))))) ss_nil)
      (ss_cons (s_if (t_val (x_cb call_isi cd_isi T.n_isinstance (xa_cons (xv 1) (xa_cons (x_bty T.n_int) xa_nil)))) (ss_one (s_ret (x_and (x_not (x_cb call_isi cd_isi T.n_isinstance (xa_cons (xv 0) (xa_cons (x_bty T.n_bool) xa_nil)))) (x_and (x_cb call_isi cd_isi T.n_isinstance (xa_cons (xv 0) (xa_cons (x_bty T.n_int) xa_nil))) (x_one (x_cmp (op_eqD hr.units) od_eqD (xv 0) (xv 1))))))) ss_nil)
      (ss_cons (s_if (t_val (x_cb call_isi cd_isi T.n_isinstance (xa_cons (xv 1) (xa_cons (x_bty T.n_str) xa_nil)))) (ss_one (s_ret (x_and (x_cb call_isi cd_isi T.n_isinstance (xa_cons (xv 0) (xa_cons (x_bty T.n_str) xa_nil))) (x_one (x_cmp (op_eqD hr.units) od_eqD (xv 0) (xv 1)))))) ss_nil)
      ss_void))))⟩) pureH_l_same
theorem okG_l_same (T : Txt K mg) : L2H.FnH P w K mg base CX0 5 T.f_l_same T.d_l_same ["_law_told", "_law_due"] (spOf K 2 fsG_l_same) := by
  have GH_l_same := okH_l_same (P := P) (w := w) (base := base) T
  exact fn_okH (ds := ds_l_same fsH_l_same) T.F_l_same sc_l_same rfl (by decide) (fun B cdv A outer s H E pp hot hr => ⟨_, by exact (ss_cons (s_if (t_cmp op_isN od_isN (xv 1) x_non) (ss_one (s_ret (x_cmp op_isN od_isN (xv 0) x_non))) ss_nil)
      (ss_cons (s_if (t_val (x_cb call_isi cd_isi T.n_isinstance (xa_cons (xv 1) (xa_cons (x_bty T.n_bool) xa_nil)))) (ss_one (s_ret (x_and (x_cb call_isi cd_isi T.n_isinstance (xa_cons (xv 0) (xa_cons (x_bty T.n_bool) xa_nil))) (x_one (x_cmp (op_eqD hr.units) od_eqD (xv 0) (xv 1)))))) ss_nil)
      (ss_cons (s_if (t_val (x_cb call_isi cd_isi T.n_isinstance (xa_cons (xv 1) (xa_cons (x_bty T.n_int) xa_nil)))) (ss_one (s_ret (x_and (x_not (x_cb call_isi cd_isi T.n_isinstance (xa_cons (xv 0) (xa_cons (x_bty T.n_bool) xa_nil)))) (x_and (x_cb call_isi cd_isi T.n_isinstance (xa_cons (xv 0) (xa_cons (x_bty T.n_int) xa_nil))) (x_one (x_cmp (op_eqD hr.units) od_eqD (xv 0) (xv 1))))))) ss_nil)
      (ss_cons (s_if (t_val (x_cb call_isi cd_isi T.n_isinstance (xa_cons (xv 1) (xa_cons (x_bty T.n_str) xa_nil)))) (ss_one (s_ret (x_and (x_cb call_isi cd_isi T.n_isinstance (xa_cons (xv 0) (xa_cons (x_bty T.n_str) xa_nil))) (x_one (x_cmp (op_eqD hr.units) od_eqD (xv 0) (xv 1)))))) ss_nil)
      (ss_cons (s_if (t_w (w_and (t_val (x_cb call_isi cd_isi T.n_isinstance (xa_cons (xv 1) (xa_cons (x_bty T.n_list) xa_nil)))) (w_and1 (t_not (t_val (x_cb call_isi cd_isi T.n_isinstance (xa_cons (xv 0) (xa_cons (x_bty T.n_list) xa_nil)))))))) (ss_one (s_ret x_bl)) ss_nil)
      (ss_cons (s_if (t_w (w_and (t_val (x_cb call_isi cd_isi T.n_isinstance (xa_cons (xv 1) (xa_cons (x_bty T.n_tuple) xa_nil)))) (w_and1 (t_not (t_val (x_cb call_isi cd_isi T.n_isinstance (xa_cons (xv 0) (xa_cons (x_bty T.n_tuple) xa_nil)))))))) (ss_one (s_ret x_bl)) ss_nil)
      (ss_cons (s_if (t_cmp op_ne od_ne (x_cb call_len_seq cd_len T.n_len (xa_cons (xv 0) xa_nil)) (x_cb call_len_seq cd_len T.n_len (xa_cons (xv 1) xa_nil))) (ss_one (s_ret x_bl)) ss_nil)
      (ss_one (s_ret (x_cb (cr_allH ⟨pp, hot, .head _⟩) cd_all T.n_all (xa_cons (x_lcH [("_law_k", 2)] ⟨pp, hot, .head _⟩ sc_l_same.nd (i_r1H T.n_range (xa_cons (x_cb call_len_seq cd_len T.n_len (xa_cons (xv 1) xa_nil)) xa_nil)) (blkOk_by (N := N_l_same) (sc := defScope s_l_same) (by decide +kernel)) (fun _ _ _ _ _ _ => by exact (g_name 2 sc_l_same.nd)) (fun _ _ _ _ _ _ => by exact ts_nil) (fun _ _ _ _ _ _ => by exact (x_callH K rfl ⟨pp, hot, .head _⟩ GH_l_same hr T.g_l_same T.F_l_same.kp T.b_l_same (xa_cons (x_ix ix_seq (od_ixQ (K := K)) (xv 0) (xv 2)) (xa_cons (x_ix ix_seq (od_ixQ (K := K)) (xv 1) (xv 2)) xa_nil)))) (by decide)) xa_nil)))))))))))⟩) pureG_l_same
theorem ok_l_samen (T : Txt K mg) (n : Nat) : FnOk P w K mg base CX0 (n + 1) T.f_l_same T.d_l_same ["_law_told", "_law_due"] (spOf K 2 (fs_l_samen n)) := by
  induction n with
  | zero =>
    have GR : FnOk P w K mg base CX0 0 T.f_l_same T.d_l_same ["_law_told", "_law_due"] (spOf K 2 (fro_l_same 0)) := fn_void
    exact fn_ok (ds := ds_l_same (fro_l_same 0)) T.F_l_same sc_l_same rfl (by decide) (fun B cdv A outer s H E hr => ⟨_, by exact (ss_cons (s_if (t_cmp op_isN od_isN (xv 1) x_non) (ss_one (s_ret (x_cmp op_isN od_isN (xv 0) x_non))) ss_nil)
      (ss_cons (s_if (t_val (x_cb call_isi cd_isi T.n_isinstance (xa_cons (xv 1) (xa_cons (x_bty T.n_bool) xa_nil)))) (ss_one (s_ret (x_and (x_cb call_isi cd_isi T.n_isinstance (xa_cons (xv 0) (xa_cons (x_bty T.n_bool) xa_nil))) (x_one (x_cmp (op_eqD hr.units) od_eqD (xv 0) (xv 1)))))) ss_nil)
      (ss_cons (s_if (t_val (x_cb call_isi cd_isi T.n_isinstance (xa_cons (xv 1) (xa_cons (x_bty T.n_int) xa_nil)))) (ss_one (s_ret (x_and (x_not (x_cb call_isi cd_isi T.n_isinstance (xa_cons (xv 0) (xa_cons (x_bty T.n_bool) xa_nil)))) (x_and (x_cb call_isi cd_isi T.n_isinstance (xa_cons (xv 0) (xa_cons (x_bty T.n_int) xa_nil))) (x_one (x_cmp (op_eqD hr.units) od_eqD (xv 0) (xv 1))))))) ss_nil)
      (ss_cons (s_if (t_val (x_cb call_isi cd_isi T.n_isinstance (xa_cons (xv 1) (xa_cons (x_bty T.n_str) xa_nil)))) (ss_one (s_ret (x_and (x_cb call_isi cd_isi T.n_isinstance (xa_cons (xv 0) (xa_cons (x_bty T.n_str) xa_nil))) (x_one (x_cmp (op_eqD hr.units) od_eqD (xv 0) (xv 1)))))) ss_nil)
      (ss_cons (s_if (t_w (w_and (t_val (x_cb call_isi cd_isi T.n_isinstance (xa_cons (xv 1) (xa_cons (x_bty T.n_list) xa_nil)))) (w_and1 (t_not (t_val (x_cb call_isi cd_isi T.n_isinstance (xa_cons (xv 0) (xa_cons (x_bty T.n_list) xa_nil)))))))) (ss_one (s_ret x_bl)) ss_nil)
      (ss_cons (s_if (t_w (w_and (t_val (x_cb call_isi cd_isi T.n_isinstance (xa_cons (xv 1) (xa_cons (x_bty T.n_tuple) xa_nil)))) (w_and1 (t_not (t_val (x_cb call_isi cd_isi T.n_isinstance (xa_cons (xv 0) (xa_cons (x_bty T.n_tuple) xa_nil)))))))) (ss_one (s_ret x_bl)) ss_nil)
      (ss_cons (s_if (t_cmp op_ne od_ne (x_cb call_len_seq cd_len T.n_len (xa_cons (xv 0) xa_nil)) (x_cb call_len_seq cd_len T.n_len (xa_cons (xv 1) xa_nil))) (ss_one (s_ret x_bl)) ss_nil)
      (ss_one (s_ret (x_cb (cr_all rfl) cd_all T.n_all (xa_cons (x_lc [("_law_k", 2)] rfl sc_l_same.nd (i_r1 T.n_range (xa_cons (x_cb call_len_seq cd_len T.n_len (xa_cons (xv 1) xa_nil)) xa_nil)) (blkOk_by (N := N_l_same) (sc := defScope s_l_same) (by decide +kernel)) (fun _ _ _ _ _ _ => by exact (g_name 2 sc_l_same.nd)) (fun _ _ _ _ _ _ => by exact ts_nil) (fun _ _ _ _ _ _ => by exact (x_callC K rfl GR (hr.mono (by omega)) T.g_l_same T.F_l_same.kp T.b_l_same (xa_cons (x_ix ix_seq (od_ixQ (K := K)) (xv 0) (xv 2)) (xa_cons (x_ix ix_seq (od_ixQ (K := K)) (xv 1) (xv 2)) xa_nil)))) (by decide)) xa_nil)))))))))))⟩) (pure_l_same 0)
  | succ n ih =>
    have GR := ih
    exact fn_ok (ds := ds_l_same (fro_l_same (n + 1))) T.F_l_same sc_l_same rfl (by decide) (fun B cdv A outer s H E hr => ⟨_, by exact (ss_cons (s_if (t_cmp op_isN od_isN (xv 1) x_non) (ss_one (s_ret (x_cmp op_isN od_isN (xv 0) x_non))) ss_nil)
      (ss_cons (s_if (t_val (x_cb call_isi cd_isi T.n_isinstance (xa_cons (xv 1) (xa_cons (x_bty T.n_bool) xa_nil)))) (ss_one (s_ret (x_and (x_cb call_isi cd_isi T.n_isinstance (xa_cons (xv 0) (xa_cons (x_bty T.n_bool) xa_nil))) (x_one (x_cmp (op_eqD hr.units) od_eqD (xv 0) (xv 1)))))) ss_nil)
      (ss_cons (s_if (t_val (x_cb call_isi cd_isi T.n_isinstance (xa_cons (xv 1) (xa_cons (x_bty T.n_int) xa_nil)))) (ss_one (s_ret (x_and (x_not (x_cb call_isi cd_isi T.n_isinstance (xa_cons (xv 0) (xa_cons (x_bty T.n_bool) xa_nil)))) (x_and (x_cb call_isi cd_isi T.n_isinstance (xa_cons (xv 0) (xa_cons (x_bty T.n_int) xa_nil))) (x_one (x_cmp (op_eqD hr.units) od_eqD (xv 0) (xv 1))))))) ss_nil)
      (ss_cons (s_if (t_val (x_cb call_isi cd_isi T.n_isinstance (xa_cons (xv 1) (xa_cons (x_bty T.n_str) xa_nil)))) (ss_one (s_ret (x_and (x_cb call_isi cd_isi T.n_isinstance (xa_cons (xv 0) (xa_cons (x_bty T.n_str) xa_nil))) (x_one (x_cmp (op_eqD hr.units) od_eqD (xv 0) (xv 1)))))) ss_nil)
      (ss_cons (s_if (t_w (w_and (t_val (x_cb call_isi cd_isi T.n_isinstance (xa_cons (xv 1) (xa_cons (x_bty T.n_list) xa_nil)))) (w_and1 (t_not (t_val (x_cb call_isi cd_isi T.n_isinstance (xa_cons (xv 0) (xa_cons (x_bty T.n_list) xa_nil)))))))) (ss_one (s_ret x_bl)) ss_nil)
      (ss_cons (s_if (t_w (w_and (t_val (x_cb call_isi cd_isi T.n_isinstance (xa_cons (xv 1) (xa_cons (x_bty T.n_tuple) xa_nil)))) (w_and1 (t_not (t_val (x_cb call_isi cd_isi T.n_isinstance (xa_cons (xv 0) (xa_cons (x_bty T.n_tuple) xa_nil)))))))) (ss_one (s_ret x_bl)) ss_nil)
      (ss_cons (s_if (t_cmp op_ne od_ne (x_cb call_len_seq cd_len T.n_len (xa_cons (xv 0) xa_nil)) (x_cb call_len_seq cd_len T.n_len (xa_cons (xv 1) xa_nil))) (ss_one (s_ret x_bl)) ss_nil)
      (ss_one (s_ret (x_cb (cr_all rfl) cd_all T.n_all (xa_cons (x_lc [("_law_k", 2)] rfl sc_l_same.nd (i_r1 T.n_range (xa_cons (x_cb call_len_seq cd_len T.n_len (xa_cons (xv 1) xa_nil)) xa_nil)) (blkOk_by (N := N_l_same) (sc := defScope s_l_same) (by decide +kernel)) (fun _ _ _ _ _ _ => by exact (g_name 2 sc_l_same.nd)) (fun _ _ _ _ _ _ => by exact ts_nil) (fun _ _ _ _ _ _ => by exact (x_callC K rfl GR (hr.mono (by omega)) T.g_l_same T.F_l_same.kp T.b_l_same (xa_cons (x_ix ix_seq (od_ixQ (K := K)) (xv 0) (xv 2)) (xa_cons (x_ix ix_seq (od_ixQ (K := K)) (xv 1) (xv 2)) xa_nil)))) (by decide)) xa_nil)))))))))))⟩) (pure_l_same (n + 1))
theorem ok_l_same (T : Txt K mg) : FnOk P w K mg base CX0 4 T.f_l_same T.d_l_same ["_law_told", "_law_due"] (spOf K 2 fs_l_same) := ok_l_samen T 3
theorem ok_Book_code_of (T : Txt K mg) : FnOk P w K mg base (L2N.CX P w) 5 T.f_Book_code_of T.d_Book_code_of ["self", "value"] (spOfX K T.ct 2 fs_Book_code_of) := by
  have G_Book___contains__ := ok_Book___contains__ (P := P) (w := w) (base := base) T
  exact fn_okX (ds := ds_Book_code_of) T.F_Book_code_of sc_Book_code_of rfl (by decide) (fun B W xc cdv A outer s H E hr xo tk => ⟨_, by exact (ss_cons (s_if (t_ninO P w K mg base rfl hr (tb := mn_Book___contains__) (fun C fs h => by unfold mn_Book___contains__ at h; split at h; (rename_i e; subst e; cases h; exact .mk T.me_Book___contains__.at_ T.me_Book___contains__.fn G_Book___contains__ (by decide) T.b_Book___contains__); cases h) (xv 1) (xv 0)) (ss_one (s_raise1 (nm := 9) rfl xo tk T.e_9 T.nf_9_value (oki_9 (P := P) (w := w) (base := base) T) (hr.mono (by decide)) T.bi_9 (xa_cons (xvV 1) xa_nil))) ss_nil)
      (ss_one (s_ret (x_dget (hu1 hr.units) (x_fldK "code_by_value" T.ft (xv 0)) (xv 1)))))⟩) pure_Book_code_of
theorem ok_Bridge___init__ (T : Txt K mg) : FnOk P w K mg base (L2N.CX P w) 6 T.f_Bridge___init__ T.d_Bridge___init__ ["self", "first", "second"] (spOfX K T.ct 3 fs_Bridge___init__) := by
  have G_Book___contains__ := ok_Book___contains__ (P := P) (w := w) (base := base) T
  have G_Book_code_of := ok_Book_code_of (P := P) (w := w) (base := base) T
  exact fn_okX (ds := ds_Bridge___init__) T.F_Bridge___init__ sc_Bridge___init__ rfl (by decide) (fun B W xc cdv A outer s H E hr xo tk => ⟨_, by exact (ss_cons (s_if (t_cmp op_ne od_ne (x_fldK "domain" T.ft (xv 1)) (x_fldK "domain" T.ft (xv 2))) (ss_one (s_raise2 (nm := 11) rfl xo tk T.e_11 T.nf_11_first T.nf_11_second (oki_11 (P := P) (w := w) (base := base) T) (hr.mono (by decide)) T.bi_11 (xa_cons (x_fldK "domain" T.ft (xv 1)) (xa_cons (x_fldK "domain" T.ft (xv 2)) xa_nil)))) ss_nil)
      (ss_cons (s_setLc 3 [("value", 4), ("code", 5)] rfl sc_Bridge___init__.nd (i_tup (x_fldK "entries" T.ft (xv 1))) (blkOk_by (N := N_Bridge___init__) (sc := defScope s_Bridge___init__) (by decide +kernel)) (fun _ _ _ _ _ _ => by exact (g_tupC K rfl rfl (gs_cons (g_name 4 sc_Bridge___init__.nd) (gs_cons (g_name 5 sc_Bridge___init__.nd) gs_nil)))) (fun _ _ _ _ _ _ => by exact (ts_one (t_inO P w K mg base rfl hr (tb := mn_Book___contains__) (fun C fs h => by unfold mn_Book___contains__ at h; split at h; (rename_i e; subst e; cases h; exact .mk T.me_Book___contains__.at_ T.me_Book___contains__.fn G_Book___contains__ (by decide) T.b_Book___contains__); cases h) (xv 4) (xv 2)))) (fun _ _ _ _ _ _ => by exact (x_tup (xa_cons (xvV 5) (xa_cons (x_methX P w K mg base rfl hr "code_of" (tb := mtX_Book_code_of) (n := 2) (xc := fun _ _ _ => False) (ct := T.ct) (fun _ _ _ _ _ _ _ _ _ h => h) takesN (fun C fs h => by unfold mtX_Book_code_of at h; split at h; (rename_i e; subst e; cases h; exact .mk T.cl_Book T.me_Book_code_of G_Book_code_of (by decide) T.b_Book_code_of); (cases h)) (xv 2) (xa_cons (xvV 4) xa_nil)) xa_nil)))) (by decide) (sw_true rfl rfl rfl (by decide +kernel)))
      (ss_cons (s_setF 0 "first" T.ft (xvV 1))
      (ss_cons (s_setF 0 "second" T.ft (xvV 2))
      (ss_one (s_setF 0 "pairs" T.ft (x_ct call_tuple_of cd_tuple T.n_tuple (xa_cons (x_cb (cr_sortedD hr.units) cd_sorted T.n_sorted (xa_cons (xv 3) xa_nil)) xa_nil))))))))⟩) pure_Bridge___init__
theorem ok_Bridge___call__ (T : Txt K mg) : FnOk P w K mg base (L2N.CX P w) 6 T.f_Bridge___call__ T.d_Bridge___call__ ["self", "code"] (spOfX K T.ct 2 fs_Bridge___call__) := by
  have G_Book___contains__ := ok_Book___contains__ (P := P) (w := w) (base := base) T
  have G_Book_code_of := ok_Book_code_of (P := P) (w := w) (base := base) T
  have G_Book_value_of := ok_Book_value_of (P := P) (w := w) (base := base) T
  exact fn_okX (ds := ds_Bridge___call__) T.F_Bridge___call__ sc_Bridge___call__ rfl (by decide) (fun B W xc cdv A outer s H E hr xo tk => ⟨_, by exact (ss_cons (s_set 2 sc_Bridge___call__.nd (x_methX P w K mg base rfl hr "value_of" (tb := mtX_Book_value_of) (n := 2) xo tk (fun C fs h => by unfold mtX_Book_value_of at h; split at h; (rename_i e; subst e; cases h; exact .mk T.cl_Book T.me_Book_value_of G_Book_value_of (by decide) T.b_Book_value_of); (cases h)) (x_fldK "first" T.ft (xv 0)) (xa_cons (xvV 1) xa_nil)))
      (ss_cons (s_if (t_inO P w K mg base rfl hr (tb := mn_Book___contains__) (fun C fs h => by unfold mn_Book___contains__ at h; split at h; (rename_i e; subst e; cases h; exact .mk T.me_Book___contains__.at_ T.me_Book___contains__.fn G_Book___contains__ (by decide) T.b_Book___contains__); cases h) (xv 2) (x_fldK "second" T.ft (xv 0))) (ss_one (s_ret (x_methX P w K mg base rfl hr "code_of" (tb := mtX_Book_code_of) (n := 2) xo tk (fun C fs h => by unfold mtX_Book_code_of at h; split at h; (rename_i e; subst e; cases h; exact .mk T.cl_Book T.me_Book_code_of G_Book_code_of (by decide) T.b_Book_code_of); (cases h)) (x_fldK "second" T.ft (xv 0)) (xa_cons (xvV 2) xa_nil)))) ss_nil)
      (ss_one (s_ret x_non))))⟩) pure_Bridge___call__
theorem ok_Book_counted (T : Txt K mg) : FnOk P w K mg base (L2N.CX P w) 6 T.f_Book_counted T.d_Book_counted ["cls", "low", "high", "room"] (spOfX K T.ct 4 fs_Book_counted) := by
  have G_Book___init__ := ok_Book___init__ (P := P) (w := w) (base := base) T
  exact fn_okX (ds := ds_Book_counted) T.F_Book_counted sc_Book_counted rfl (by decide) (fun B W xc cdv A outer s H E hr xo tk => ⟨_, by exact (ss_one (s_ret (x_fz (x_makeLX 0 K rfl xo tk T.mk_Book G_Book___init__ (hr.mono (by decide)) T.b_Book___init__ .nil .nil (xa_cons x_str (xa_cons (xvV 3) (xa_cons (x_lc [("value", 4)] rfl sc_Book_counted.nd (i_r2 T.n_range (xa_cons (xvV 1) (xa_cons (x_op op_add od_add (xv 2) x_int) xa_nil))) (blkOk_by (N := N_Book_counted) (sc := defScope s_Book_counted) (by decide +kernel)) (fun _ _ _ _ _ _ => by exact (g_name 4 sc_Book_counted.nd)) (fun _ _ _ _ _ _ => by exact ts_nil) (fun _ _ _ _ _ _ => by exact (x_tup (xa_cons (xvV 4) (xa_cons (x_op op_sub (od_sub (K := K)) (xv 4) (xv 1)) xa_nil)))) (by decide)) xa_nil)))))))⟩) pure_Book_counted
theorem ok_Bridge_back (T : Txt K mg) : FnOk P w K mg base (L2N.CX P w) 8 T.f_Bridge_back T.d_Bridge_back ["self"] (spOfX K T.ct 1 fs_Bridge_back) := by
  have G_Bridge___init__ := ok_Bridge___init__ (P := P) (w := w) (base := base) T
  exact fn_okX (ds := ds_Bridge_back) T.F_Bridge_back sc_Bridge_back rfl (by decide) (fun B W xc cdv A outer s H E hr xo tk => ⟨_, by exact (ss_one (s_ret (x_fz (x_makeX K rfl xo tk T.mk_Bridge G_Bridge___init__ (hr.mono (by decide)) T.gK_Bridge T.b_Bridge___init__ .nil .nil (xa_cons (x_fldK "second" T.ft (xv 0)) (xa_cons (x_fldK "first" T.ft (xv 0)) xa_nil))))))⟩) pure_Bridge_back
theorem ok_l_no_code (T : Txt K mg) : FnOk P w K mg base CX0 8 T.f_l_no_code T.d_l_no_code ["_law_bridge", "_law_code_here"] (spOf K 2 fs_l_no_code) := by
  have G_Bridge___call__ := ok_Bridge___call__ (P := P) (w := w) (base := base) T
  have G_l_same := ok_l_same (P := P) (w := w) (base := base) T
  have GH_l_same := okH_l_same (P := P) (w := w) (base := base) T
  exact fn_ok (ds := ds_l_no_code) T.F_l_no_code sc_l_no_code rfl (by decide) (fun B cdv A outer s H E hr => ⟨_, by exact (ss_cons (s_try_as (ct := T.ct) 2 sc_l_no_code.nd ⟨rfl, by decide, .inl T.gC_10⟩ (fun _ _ _ _ _ _ _ _ _ h => h) takesN T.hsub_10 (fun B W xc pn xe xo tk po => by exact (ss_one (s_expr (x_callOX P w K mg base rfl hr (tb := mtX_Bridge___call__) (n := 2) xo tk (fun C fs h => by unfold mtX_Bridge___call__ at h; split at h; (rename_i e; subst e; cases h; exact .mk T.me_Bridge___call__ (Fun_fi T.F_Bridge___call__) G_Bridge___call__ (by decide) T.b_Bridge___call__); (cases h)) (xv 0) (xa_cons (xvV 1) xa_nil))))) (fun B a oe cls d pn nm fs hz hf hcls xd => by exact (ss_cons (s_set 3 sc_l_no_code.nd (x_and (x_isE (tn := 0) 2 hz hf hcls xd T.hkit T.n_isinstance T.gC_0) (x_one (x_not (x_isE (tn := 9) 2 hz hf hcls xd T.hkit T.n_isinstance T.gC_9)))))
      (ss_one (s_ret (x_and (xv 3) (x_one (x_callH K rfl (hot_su hz hf) GH_l_same (L2H.roomH_mark (hr.mono (by decide)) _) T.g_l_same T.F_l_same.kp T.b_l_same (xa_cons (x_xf 2 hz hf hcls xd T.hrd) (xa_cons (xvV 1) xa_nil))))))))))
      (ss_one (s_ret x_bl)))⟩) pure_l_no_code
theorem ok_l_refused (T : Txt K mg) : FnOk P w K mg base CX0 8 T.f_l_refused T.d_l_refused ["_law_first", "_law_second", "_law_domains"] (spOf K 3 fs_l_refused) := by
  have G_Bridge___init__ := ok_Bridge___init__ (P := P) (w := w) (base := base) T
  have G_l_same := ok_l_same (P := P) (w := w) (base := base) T
  have GH_l_same := okH_l_same (P := P) (w := w) (base := base) T
  have GG_l_same := okG_l_same (P := P) (w := w) (base := base) T
  exact fn_ok (ds := ds_l_refused) T.F_l_refused sc_l_refused rfl (by decide) (fun B cdv A outer s H E hr => ⟨_, by exact (ss_cons (s_try_as (ct := T.ct) 3 sc_l_refused.nd ⟨rfl, by decide, .inl T.gC_11⟩ (fun _ _ _ _ _ _ _ _ _ h => h) takesN T.hsub_11 (fun B W xc pn xe xo tk po => by exact (ss_one (s_expr (x_fz (x_makeX K rfl xo tk T.mk_Bridge G_Bridge___init__ (hr.mono (by decide)) T.gK_Bridge T.b_Bridge___init__ .nil .nil (xa_cons (xvV 0) (xa_cons (xvV 1) xa_nil))))))) (fun B a oe cls d pn nm fs hz hf hcls xd => by exact (ss_cons (s_if (t_w (w_or (t_not (t_val (x_isE (tn := 0) 3 hz hf hcls xd T.hkit T.n_isinstance T.gC_0))) (w_or1 (t_val (x_isE (tn := 10) 3 hz hf hcls xd T.hkit T.n_isinstance T.gC_10))))) (ss_one (s_ret x_bl)) ss_nil)
      (ss_one (s_ret (x_callH K rfl (hot_su hz hf) GG_l_same (L2H.roomH_mark (hr.mono (by decide)) _) T.g_l_same T.F_l_same.kp T.b_l_same (xa_cons (x_tup (xa_cons (x_xf 3 hz hf hcls xd T.hrd) (xa_cons (x_xf 3 hz hf hcls xd T.hrd) xa_nil))) (xa_cons (xvV 2) xa_nil))))))))
      (ss_one (s_ret x_bl)))⟩) pure_l_refused
theorem ok_l_right (T : Txt K mg) : FnOk P w K mg base CX0 9 T.f_l_right T.d_l_right ["_law_bridge", "_law_first", "_law_second"] (spOf K 3 fs_l_right) := by
  have G_Bridge___call__ := ok_Bridge___call__ (P := P) (w := w) (base := base) T
  have G_Bridge_keeps := ok_Bridge_keeps (P := P) (w := w) (base := base) T
  have G_l_code := ok_l_code (P := P) (w := w) (base := base) T
  have G_l_kept := ok_l_kept (P := P) (w := w) (base := base) T
  have G_l_no_code := ok_l_no_code (P := P) (w := w) (base := base) T
  have G_l_pairs := ok_l_pairs (P := P) (w := w) (base := base) T
  have G_l_same := ok_l_same (P := P) (w := w) (base := base) T
  exact fn_ok (ds := ds_l_right) T.F_l_right sc_l_right rfl (by decide) (fun B cdv A outer s H E hr => ⟨_, by exact (ss_cons (s_set 3 sc_l_right.nd (x_call G_l_pairs (hr.mono (by decide)) T.g_l_pairs T.F_l_pairs.kp T.b_l_pairs (xa_cons (xvV 1) (xa_cons (xvV 2) xa_nil))))
      (ss_cons (s_if (t_not (t_val (x_call G_l_same (hr.mono (by decide)) T.g_l_same T.F_l_same.kp T.b_l_same (xa_cons (x_fldK "pairs" T.ft (xv 0)) (xa_cons (x_ct call_tuple_of cd_tuple T.n_tuple (xa_cons (xv 3) xa_nil)) xa_nil))))) (ss_one (s_ret x_bl)) ss_nil)
      (ss_cons (s_if (t_not (t_val (x_call G_l_same (hr.mono (by decide)) T.g_l_same T.F_l_same.kp T.b_l_same (xa_cons (x_prop P w K mg base rfl hr "keeps" (tb := mp_Bridge_keeps) (fun C fs h => by unfold mp_Bridge_keeps at h; split at h; (rename_i e; subst e; cases h; exact .mk T.cl_Bridge T.pr_Bridge_keeps G_Bridge_keeps (by decide) T.b_Bridge_keeps); cases h) (xv 0)) (xa_cons (x_call G_l_kept (hr.mono (by decide)) T.g_l_kept T.F_l_kept.kp T.b_l_kept (xa_cons (xvV 3) xa_nil)) xa_nil))))) (ss_one (s_ret x_bl)) ss_nil)
      (ss_cons (s_for PassesOwn.never rfl (i_list (xvV 1)) (g_name 4 sc_l_right.nd) (ss_one (s_if (t_not (t_val (x_call G_l_same (hr.mono (by decide)) T.g_l_same T.F_l_same.kp T.b_l_same (xa_cons (x_callOX P w K mg base rfl hr (tb := mtX_Bridge___call__) (n := 2) (xc := fun _ _ _ => False) (ct := T.ct) (fun _ _ _ _ _ _ _ _ _ h => h) takesN (fun C fs h => by unfold mtX_Bridge___call__ at h; split at h; (rename_i e; subst e; cases h; exact .mk T.me_Bridge___call__ (Fun_fi T.F_Bridge___call__) G_Bridge___call__ (by decide) T.b_Bridge___call__); (cases h)) (xv 0) (xa_cons (x_ix ix_tup od_ixT (xv 4) x_int) xa_nil)) (xa_cons (x_call G_l_code (hr.mono (by decide)) T.g_l_code T.F_l_code.kp T.b_l_code (xa_cons (xvV 2) (xa_cons (x_ix ix_tup od_ixT (xv 4) x_int) xa_nil))) xa_nil))))) (ss_one (s_ret x_bl)) ss_nil)))
      (ss_cons (s_set 5 sc_l_right.nd (x_lc [("_law_x", 7)] rfl sc_l_right.nd (i_list (xvV 1)) (blkOk_by (N := N_l_right) (sc := defScope s_l_right) (by decide +kernel)) (fun _ _ _ _ _ _ => by exact (g_name 7 sc_l_right.nd)) (fun _ _ _ _ _ _ => by exact ts_nil) (fun _ _ _ _ _ _ => by exact (x_ix ix_tup (od_ixT (K := K)) (xv 7) x_int)) (by decide)))
      (ss_cons (s_set 6 sc_l_right.nd (x_op op_cat od_cat (x_lc [("_law_x", 7)] rfl sc_l_right.nd (i_list (xvV 2)) (blkOk_by (N := N_l_right) (sc := defScope s_l_right) (by decide +kernel)) (fun _ _ _ _ _ _ => by exact (g_name 7 sc_l_right.nd)) (fun _ _ _ _ _ _ => by exact ts_nil) (fun _ _ _ _ _ _ => by exact (x_ix ix_tup (od_ixT (K := K)) (xv 7) x_int)) (by decide)) (x_lc [("_law_x", 7)] rfl sc_l_right.nd (i_list (xvV 1)) (blkOk_by (N := N_l_right) (sc := defScope s_l_right) (by decide +kernel)) (fun _ _ _ _ _ _ => by exact (g_name 7 sc_l_right.nd)) (fun _ _ _ _ _ _ => by exact ts_nil) (fun _ _ _ _ _ _ => by exact (x_op op_add (od_add (K := K)) (x_ix ix_tup (od_ixT (K := K)) (xv 7) x_int) x_int)) (by decide))))
      (ss_cons (s_set 6 sc_l_right.nd (x_op op_cat od_cat (xv 6) (x_lst (xa_cons x_int (xa_cons x_int (xa_cons x_int xa_nil))))))
      (ss_one (s_ret (x_cb (cr_all rfl) cd_all T.n_all (xa_cons (x_lc [("_law_x", 7)] rfl sc_l_right.nd (i_list (xvV 6)) (blkOk_by (N := N_l_right) (sc := defScope s_l_right) (by decide +kernel)) (fun _ _ _ _ _ _ => by exact (g_name 7 sc_l_right.nd)) (fun _ _ _ _ _ _ => by exact (ts_one (t_cmp op_notIn_seq (od_inQ (K := K)) (xv 7) (xv 5)))) (fun _ _ _ _ _ _ => by exact (x_callC K rfl G_l_no_code (hr.mono (by decide)) T.g_l_no_code T.F_l_no_code.kp T.b_l_no_code (xa_cons (xvV 0) (xa_cons (xvV 7) xa_nil)))) (by decide)) xa_nil)))))))))))⟩) pure_l_right
theorem ok_law (T : Txt K mg) : FnOk P w K mg base CX0 10 T.f_law T.d_law ["_law_script"] (spOf K 1 fs_law) := by
  have G_Book___init__ := ok_Book___init__ (P := P) (w := w) (base := base) T
  have G_Book_counted := ok_Book_counted (P := P) (w := w) (base := base) T
  have G_Bridge___call__ := ok_Bridge___call__ (P := P) (w := w) (base := base) T
  have G_Bridge___init__ := ok_Bridge___init__ (P := P) (w := w) (base := base) T
  have G_Bridge_back := ok_Bridge_back (P := P) (w := w) (base := base) T
  have G_l_counted := ok_l_counted (P := P) (w := w) (base := base) T
  have G_l_entries := ok_l_entries (P := P) (w := w) (base := base) T
  have G_l_refused := ok_l_refused (P := P) (w := w) (base := base) T
  have G_l_right := ok_l_right (P := P) (w := w) (base := base) T
  have G_l_room := ok_l_room (P := P) (w := w) (base := base) T
  have G_l_same := ok_l_same (P := P) (w := w) (base := base) T
  have G_l_take := ok_l_take (P := P) (w := w) (base := base) T
  have G_l_values := ok_l_values (P := P) (w := w) (base := base) T
  exact fn_ok (ds := ds_law) T.F_law sc_law rfl (by decide) (fun B cdv A outer s H E hr => ⟨_, by exact (ss_cons (s_set 1 sc_law.nd (x_op op_cat od_cat (x_lst (xa_cons x_int xa_nil)) (x_lc [("_law_cell", 22)] rfl sc_law.nd (i_list (x_sl sl_list sd_list (xv 0) xo_none (xo_some x_int))) (blkOk_by (N := N_law) (sc := defScope s_law) (by decide +kernel)) (fun _ _ _ _ _ _ => by exact (g_name 22 sc_law.nd)) (fun _ _ _ _ _ _ => by exact ts_nil) (fun _ _ _ _ _ _ => by exact (x_cb call_abs (cd_abs (K := K)) T.n_abs (xa_cons (xv 22) xa_nil))) (by decide))))
      (ss_cons (s_set 2 sc_law.nd (x_ix ix_list od_ixL (x_lst (xa_cons x_str (xa_cons x_str xa_nil))) (x_call G_l_take (hr.mono (by decide)) T.g_l_take T.F_l_take.kp T.b_l_take (xa_cons (xv 1) (xa_cons x_int xa_nil)))))
      (ss_cons (s_set 3 sc_law.nd (x_call G_l_values (hr.mono (by decide)) T.g_l_values T.F_l_values.kp T.b_l_values (xa_cons (xv 1) (xa_cons (xvV 2) (xa_cons (x_op op_mod od_mod (x_ct call_int1 cd_int T.n_int (xa_cons (x_op op_add od_add x_int (x_call G_l_take (hr.mono (by decide)) T.g_l_take T.F_l_take.kp T.b_l_take (xa_cons (xv 1) (xa_cons x_int xa_nil)))) xa_nil)) x_int) xa_nil)))))
      (ss_cons (s_set 4 sc_law.nd (x_and (x_cmp op_eq od_eq (x_call G_l_take (hr.mono (by decide)) T.g_l_take T.F_l_take.kp T.b_l_take (xa_cons (xv 1) (xa_cons x_int xa_nil))) x_int) (x_one (x_cmp op_eq od_eq (xv 2) x_str))))
      (ss_cons (s_set 5 sc_law.nd (x_lst xa_nil))
      (ss_cons (s_set 6 sc_law.nd (x_lst xa_nil))
      (ss_cons (s_for PassesOwn.never rfl (i_r1 T.n_range (xa_cons x_int xa_nil)) (g_name 7 sc_law.nd) (ss_cons (s_set 14 sc_law.nd (x_call G_l_entries (hr.mono (by decide)) T.g_l_entries T.F_l_entries.kp T.b_l_entries (xa_cons (xv 1) (xa_cons (xvV 3) (xa_cons (xvV 7) xa_nil)))))
      (ss_cons (s_set 15 sc_law.nd (x_ix ix_tup od_ixT (xv 14) x_int))
      (ss_cons (s_set 16 sc_law.nd (x_call G_l_room (hr.mono (by decide)) T.g_l_room T.F_l_room.kp T.b_l_room (xa_cons (xv 1) (xa_cons (x_ix ix_tup od_ixT (xv 14) x_int) xa_nil))))
      (ss_cons (s_set 17 sc_law.nd (x_fz (x_makeN K rfl T.mk_Book G_Book___init__ (hr.mono (by decide)) T.gK_Book T.b_Book___init__ (xa_cons (xvV 2) (xa_cons (xvV 16) (xa_cons (x_ct call_list_of cd_list T.n_list (xa_cons (xv 15) xa_nil)) xa_nil))))))
      (ss_cons (s_if (t_w (w_and (t_val (xv 4)) (w_and1 (t_cmp op_ne od_ne (xv 7) x_int)))) (ss_cons (s_set 15 sc_law.nd (x_call G_l_counted (hr.mono (by decide)) T.g_l_counted T.F_l_counted.kp T.b_l_counted (xa_cons (xv 1) xa_nil)))
      (ss_one (s_set 17 sc_law.nd (x_cmN K rfl T.cr_Book T.cm_Book_counted G_Book_counted (hr.mono (by decide)) T.b_Book_counted T.gK_Book (xa_cons (x_ix ix_tup od_ixT (x_ix ix_list od_ixL (xv 15) x_int) x_int) (xa_cons (x_ix ix_tup od_ixT (x_ix ix_list od_ixL (xv 15) (x_un un_neg ud_neg x_int)) x_int) (xa_cons (xvV 16) xa_nil))))))) ss_nil)
      (ss_cons (s_expr (x_mut (fun h => pe_bm PySem.F.plainAttrs_list PySem.F.slot_list_append PySem.F.type_list_append mt_append (pv 5) h) md_append (xa_cons (xvV 15) xa_nil)))
      (ss_one (s_expr (x_mut (fun h => pe_bm PySem.F.plainAttrs_list PySem.F.slot_list_append PySem.F.type_list_append mt_append (pv 6) h) md_append (xa_cons (xvV 17) xa_nil)))))))))))
      (ss_cons (s_set 8 sc_law.nd (x_lst (xa_cons (x_tup (xa_cons x_int (xa_cons x_int xa_nil))) (xa_cons (x_tup (xa_cons x_int (xa_cons x_int xa_nil))) (xa_cons (x_tup (xa_cons x_int (xa_cons x_int xa_nil))) (xa_cons (x_tup (xa_cons x_int (xa_cons x_int xa_nil))) xa_nil))))))
      (ss_cons (s_setLc 9 [("_law_way", 21)] rfl sc_law.nd (i_list (xvV 8)) (blkOk_by (N := N_law) (sc := defScope s_law) (by decide +kernel)) (fun _ _ _ _ _ _ => by exact (g_name 21 sc_law.nd)) (fun _ _ _ _ _ _ => by exact ts_nil) (fun _ _ _ _ _ _ => by exact (x_fz (x_makeN K rfl T.mk_Bridge G_Bridge___init__ (hr.mono (by decide)) T.gK_Bridge T.b_Bridge___init__ (xa_cons (x_ix ix_list (od_ixL (K := K)) (xv 6) (x_ix ix_tup (od_ixT (K := K)) (xv 21) x_int)) (xa_cons (x_ix ix_list (od_ixL (K := K)) (xv 6) (x_ix ix_tup (od_ixT (K := K)) (xv 21) x_int)) xa_nil))))) (by decide) (sw_true rfl rfl rfl (by decide +kernel)))
      (ss_cons (s_for PassesOwn.never rfl (i_r1 T.n_range (xa_cons x_int xa_nil)) (g_name 10 sc_law.nd) (ss_cons (s_set 18 sc_law.nd (x_ix ix_list od_ixL (xv 5) (x_ix ix_tup od_ixT (x_ix ix_list od_ixL (xv 8) (xv 10)) x_int)))
      (ss_cons (s_set 19 sc_law.nd (x_ix ix_list od_ixL (xv 5) (x_ix ix_tup od_ixT (x_ix ix_list od_ixL (xv 8) (xv 10)) x_int)))
      (ss_cons (s_if (t_not (t_val (x_call G_l_right (hr.mono (by decide)) T.g_l_right T.F_l_right.kp T.b_l_right (xa_cons (x_ix ix_list od_ixL (xv 9) (xv 10)) (xa_cons (xvV 18) (xa_cons (xvV 19) xa_nil)))))) (ss_one (s_ret x_bl)) ss_nil)
      (ss_cons (s_if (t_not (t_val (x_call G_l_right (hr.mono (by decide)) T.g_l_right T.F_l_right.kp T.b_l_right (xa_cons (x_methX0 P w K mg base rfl hr "back" (tb := mtX_Bridge_back) (n := 1) (xc := fun _ _ _ => False) (ct := T.ct) (fun _ _ _ _ _ _ _ _ _ h => h) takesN (fun C fs h => by unfold mtX_Bridge_back at h; split at h; (rename_i e; subst e; cases h; exact .mk T.cl_Bridge T.me_Bridge_back G_Bridge_back (by decide) T.b_Bridge_back); (cases h)) (x_ix ix_list od_ixL (xv 9) (xv 10))) (xa_cons (xvV 19) (xa_cons (xvV 18) xa_nil)))))) (ss_one (s_ret x_bl)) ss_nil)
      (ss_cons (s_if (t_not (t_val (x_call G_l_right (hr.mono (by decide)) T.g_l_right T.F_l_right.kp T.b_l_right (xa_cons (x_methX0 P w K mg base rfl hr "back" (tb := mtX_Bridge_back) (n := 1) (xc := fun _ _ _ => False) (ct := T.ct) (fun _ _ _ _ _ _ _ _ _ h => h) takesN (fun C fs h => by unfold mtX_Bridge_back at h; split at h; (rename_i e; subst e; cases h; exact .mk T.cl_Bridge T.me_Bridge_back G_Bridge_back (by decide) T.b_Bridge_back); (cases h)) (x_methX0 P w K mg base rfl hr "back" (tb := mtX_Bridge_back) (n := 1) (xc := fun _ _ _ => False) (ct := T.ct) (fun _ _ _ _ _ _ _ _ _ h => h) takesN (fun C fs h => by unfold mtX_Bridge_back at h; split at h; (rename_i e; subst e; cases h; exact .mk T.cl_Bridge T.me_Bridge_back G_Bridge_back (by decide) T.b_Bridge_back); (cases h)) (x_ix ix_list od_ixL (xv 9) (xv 10)))) (xa_cons (xvV 18) (xa_cons (xvV 19) xa_nil)))))) (ss_one (s_ret x_bl)) ss_nil)
      (ss_one (s_if (t_not (t_val (x_call G_l_same (hr.mono (by decide)) T.g_l_same T.F_l_same.kp T.b_l_same (xa_cons (x_fldK "entries" T.ft (x_ix ix_list od_ixL (xv 6) (x_ix ix_tup od_ixT (x_ix ix_list od_ixL (xv 8) (xv 10)) x_int))) (xa_cons (x_ct call_tuple_of cd_tuple T.n_tuple (xa_cons (x_cb (cr_sortedD hr.units) cd_sorted T.n_sorted (xa_cons (xv 19) xa_nil)) xa_nil)) xa_nil))))) (ss_one (s_ret x_bl)) ss_nil))))))))
      (ss_cons (s_for PassesOwn.never rfl (i_list (x_ix ix_list od_ixL (xv 5) x_int)) (g_name 11 sc_law.nd) (ss_cons (s_set 20 sc_law.nd (x_callOX P w K mg base rfl hr (tb := mtX_Bridge___call__) (n := 2) (xc := fun _ _ _ => False) (ct := T.ct) (fun _ _ _ _ _ _ _ _ _ h => h) takesN (fun C fs h => by unfold mtX_Bridge___call__ at h; split at h; (rename_i e; subst e; cases h; exact .mk T.me_Bridge___call__ (Fun_fi T.F_Bridge___call__) G_Bridge___call__ (by decide) T.b_Bridge___call__); (cases h)) (x_ix ix_list od_ixL (xv 9) x_int) (xa_cons (x_ix ix_tup od_ixT (xv 11) x_int) xa_nil)))
      (ss_one (s_if (t_w (w_and (t_cmp op_notN od_notN (xv 20) x_non) (w_and1 (t_not (t_val (x_call G_l_same (hr.mono (by decide)) T.g_l_same T.F_l_same.kp T.b_l_same (xa_cons (x_callOX P w K mg base rfl hr (tb := mtX_Bridge___call__) (n := 2) (xc := fun _ _ _ => False) (ct := T.ct) (fun _ _ _ _ _ _ _ _ _ h => h) takesN (fun C fs h => by unfold mtX_Bridge___call__ at h; split at h; (rename_i e; subst e; cases h; exact .mk T.me_Bridge___call__ (Fun_fi T.F_Bridge___call__) G_Bridge___call__ (by decide) T.b_Bridge___call__); (cases h)) (x_ix ix_list od_ixL (xv 9) x_int) (xa_cons (xvV 20) xa_nil)) (xa_cons (x_callOX P w K mg base rfl hr (tb := mtX_Bridge___call__) (n := 2) (xc := fun _ _ _ => False) (ct := T.ct) (fun _ _ _ _ _ _ _ _ _ h => h) takesN (fun C fs h => by unfold mtX_Bridge___call__ at h; split at h; (rename_i e; subst e; cases h; exact .mk T.me_Bridge___call__ (Fun_fi T.F_Bridge___call__) G_Bridge___call__ (by decide) T.b_Bridge___call__); (cases h)) (x_ix ix_list od_ixL (xv 9) x_int) (xa_cons (x_ix ix_tup od_ixT (xv 11) x_int) xa_nil)) xa_nil)))))))) (ss_one (s_ret x_bl)) ss_nil))))
      (ss_cons (s_set 12 sc_law.nd (x_ix ix_list od_ixL (x_lst (xa_cons x_str (xa_cons x_str xa_nil))) (x_ct call_int1 cd_int T.n_int (xa_cons (x_cmp op_eq od_eq (xv 2) x_str) xa_nil))))
      (ss_cons (s_set 13 sc_law.nd (x_fz (x_makeND K rfl T.mk_Book G_Book___init__ (hr.mono (by decide)) T.gK_Book T.b2_Book___init__ T.hv2_Book___init__ T.ho2_Book___init__ (xa_cons (xvV 12) (xa_cons x_int xa_nil)))))
      (ss_cons (s_if (t_not (t_val (x_call G_l_refused (hr.mono (by decide)) T.g_l_refused T.F_l_refused.kp T.b_l_refused (xa_cons (x_ix ix_list od_ixL (xv 6) x_int) (xa_cons (xvV 13) (xa_cons (x_tup (xa_cons (xvV 2) (xa_cons (xvV 12) xa_nil))) xa_nil)))))) (ss_one (s_ret x_bl)) ss_nil)
      (ss_cons (s_if (t_not (t_val (x_call G_l_refused (hr.mono (by decide)) T.g_l_refused T.F_l_refused.kp T.b_l_refused (xa_cons (xvV 13) (xa_cons (x_ix ix_list od_ixL (xv 6) x_int) (xa_cons (x_tup (xa_cons (xvV 12) (xa_cons (xvV 2) xa_nil))) xa_nil)))))) (ss_one (s_ret x_bl)) ss_nil)
      (ss_one (s_ret (x_call G_l_right (hr.mono (by decide)) T.g_l_right T.F_l_right.kp T.b_l_right (xa_cons (x_ix ix_list od_ixL (xv 9) x_int) (xa_cons (x_ix ix_list od_ixL (xv 5) x_int) (xa_cons (x_ix ix_list od_ixL (xv 5) x_int) xa_nil)))))))))))))))))))))⟩) pure_law
end
theorem all_mk {l : PySem.W.OpenLaw} {w : World} {K : PySem.W.Frag} {h : Heap} {mg : Str → Option Value} {fa f1 f2 f3 f4 f5 f6 f7 f8 f9 f10 f11 f12 f13 f14 f15 f16 f17 f18 f19 f20 f21 f22 f23 f24 f25 f26 f27 f28 f29 : Addr} (X : K.In h) (G : h.Ns mainGlobals mg) (hfa : mg "law" = some (.ref fa))
    {od1 an1 od2 an2 od3 an3 od4 an4 od5 an5 od6 an6 od7 an7 od8 an8 od9 an9 od10 an10 od11 an11 od12 an12 od13 an13 od14 an14 od15 an15 od16 an16 od17 an17 od18 an18 od19 an19 od20 an20 od21 an21 od22 an22 od23 an23 od24 an24 od25 an25 od26 an26 od27 an27 od28 an28 od29 an29 : Option Addr} {sl1 sl2 sl3 sl4 sl5 sl6 sl7 sl8 sl9 sl10 sl11 sl12 sl13 sl14 sl15 sl16 sl17 sl18 sl19 sl20 sl21 sl22 sl23 sl24 sl25 sl26 sl27 sl28 sl29 : Array (Option Value)} {oc1 kV1 dc1 pm1 cd1 ct1 oc2 kV2 dc2 pm2 cd2 ct2 oc3 kV3 dc3 pm3 cd3 ct3 oc4 kV4 dc4 pm4 cd4 ct4 oc5 kV5 dc5 pm5 cd5 ct5 oc6 kV6 dc6 pm6 cd6 ct6 oc7 kV7 dc7 pm7 cd7 ct7 oc8 kV8 dc8 pm8 cd8 ct8 oc9 kV9 dc9 pm9 cd9 ct9 oc10 kV10 dc10 pm10 cd10 ct10 oc11 kV11 dc11 pm11 cd11 ct11 oc12 kV12 dc12 pm12 cd12 ct12 oc13 kV13 dc13 pm13 cd13 ct13 oc14 kV14 dc14 pm14 cd14 ct14 oc15 kV15 dc15 pm15 cd15 ct15 oc16 kV16 dc16 pm16 cd16 ct16 oc17 kV17 dc17 pm17 cd17 ct17 oc18 kV18 dc18 pm18 cd18 ct18 oc19 kV19 dc19 pm19 cd19 ct19 oc20 kV20 dc20 pm20 cd20 ct20 oc21 kV21 dc21 pm21 cd21 ct21 oc22 kV22 dc22 pm22 cd22 ct22 oc23 kV23 dc23 pm23 cd23 ct23 oc24 kV24 dc24 pm24 cd24 ct24 oc25 kV25 dc25 pm25 cd25 ct25 oc26 kV26 dc26 pm26 cd26 ct26 oc27 kV27 dc27 pm27 cd27 ct27 oc28 kV28 dc28 pm28 cd28 ct28 oc29 kV29 dc29 pm29 cd29 ct29 : Value}
    {ADOMAINS : Addr} {odDOMAINS : Option Addr} {slDOMAINS : Array (Option Value)} {epDOMAINS : Nat} {kDOMAINS0 kDOMAINS1 : Tok} (eDOMAINS : PySem.W.nsIn K mainGlobals "DOMAINS" = some (some (.ref ADOMAINS))) (LDOMAINS : K.lookup ADOMAINS = some ⟨.type "tuple", odDOMAINS, .seq #[.str "number" kDOMAINS0, .str "word" kDOMAINS1] epDOMAINS, slDOMAINS⟩)
    {tkGREATEST tkLEAST tkLETTERS tkLONGEST tkMOST_CODE tkMOST_ROOM : Tok} (eGREATEST : PySem.W.nsIn K mainGlobals "GREATEST" = some (some (.int (999999999) tkGREATEST))) (eLEAST : PySem.W.nsIn K mainGlobals "LEAST" = some (some (.int (-999999999) tkLEAST))) (eLETTERS : PySem.W.nsIn K mainGlobals "LETTERS" = some (some (.str "abcdefghijklmnopqrstuvwxyz" tkLETTERS))) (eLONGEST : PySem.W.nsIn K mainGlobals "LONGEST" = some (some (.int (8) tkLONGEST))) (eMOST_CODE : PySem.W.nsIn K mainGlobals "MOST_CODE" = some (some (.int (9999999) tkMOST_CODE))) (eMOST_ROOM : PySem.W.nsIn K mainGlobals "MOST_ROOM" = some (some (.int (1000000) tkMOST_ROOM)))
    {CK0 CK1 : Addr}
    (aK0 : PySem.W.nsIn K mainGlobals "Bridge" = some (some (.ref CK0))) (pg0 : PySem.W.plainGet K CK0 Str.empty = true) (hK0 : PySem.W.hasDictIn K CK0 = true) (po0 : PySem.W.plainOver K CK0 = true) (sK0 : PySem.W.findIn K (.ref CK0) "__setattr__" = some (some (.builtin "object.__setattr__")))
    (mK0 : PySem.W.makesIn K CK0 = true) (kK0 : PySem.W.keepIn K (.ref CK0) = true)
    (fM4 : PySem.W.findIn K (.ref CK0) "__init__" = some (some (.ref f4))) (iM4 : PySem.W.isFn K (.ref f4) = true)
    {pA5 : Addr} {rst5 : List Value} (fM5 : PySem.W.findIn K (.ref CK0) "keeps" = some (some (.ref pA5))) (gM5 : PySem.W.specialIn K (.ref pA5) "__get__" = some (some (.builtin "property.__get__"))) (tM5 : PySem.W.takesIn K (.ref pA5) = some true) (rM5 : PySem.W.recIn K pA5 "property" = some (.ref f5 :: rst5))
    (fM6 : PySem.W.findIn K (.ref CK0) "__call__" = some (some (.ref f6))) (iM6 : PySem.W.isFn K (.ref f6) = true)
    (fM7 : PySem.W.findIn K (.ref CK0) "back" = some (some (.ref f7))) (iM7 : PySem.W.isFn K (.ref f7) = true)
    (nA0x0 : PySem.W.findIn K (.ref CK0) "first" = some none)
    (nA0x1 : PySem.W.findIn K (.ref CK0) "second" = some none)
    (nA0x2 : PySem.W.findIn K (.ref CK0) "pairs" = some none)
    (aK1 : PySem.W.nsIn K mainGlobals "Book" = some (some (.ref CK1))) (pg1 : PySem.W.plainGet K CK1 Str.empty = true) (hK1 : PySem.W.hasDictIn K CK1 = true) (po1 : PySem.W.plainOver K CK1 = true) (sK1 : PySem.W.findIn K (.ref CK1) "__setattr__" = some (some (.builtin "object.__setattr__")))
    (rdK1 : PySem.W.readsIn K CK1 (.type "type") = true) (gaK1 : PySem.W.specialIn K (.ref CK1) "__getattribute__" = some (some (.builtin "type.__getattribute__")))
    (mK1 : PySem.W.makesIn K CK1 = true) (kK1 : PySem.W.keepIn K (.ref CK1) = true)
    (fM12 : PySem.W.findIn K (.ref CK1) "__init__" = some (some (.ref f12))) (iM12 : PySem.W.isFn K (.ref f12) = true)
    {pA13 : Addr} {rst13 : List Value} (fM13 : PySem.W.findCls K (.ref CK1) (.type "type") "counted" = some (.get (.builtin "classmethod.__get__") (.ref pA13) .none (.ref CK1))) (rM13 : PySem.W.recIn K pA13 "classmethod" = some (.ref f13 :: rst13)) (iM13 : PySem.W.fnIn K f13 = true)
    (fM14 : PySem.W.findIn K (.ref CK1) "__contains__" = some (some (.ref f14))) (iM14 : PySem.W.isFn K (.ref f14) = true)
    (fM15 : PySem.W.findIn K (.ref CK1) "code_of" = some (some (.ref f15))) (iM15 : PySem.W.isFn K (.ref f15) = true)
    (fM16 : PySem.W.findIn K (.ref CK1) "value_of" = some (some (.ref f16))) (iM16 : PySem.W.isFn K (.ref f16) = true)
    {tcMOST1 : Tok} (fcMOST1 : PySem.W.findIn K (.ref CK1) "MOST" = some (some (.int 120 tcMOST1))) (gcMOST1 : PySem.W.specialIn K (.int 120 tcMOST1) "__get__" = some none)
    (nA1x0 : PySem.W.findIn K (.ref CK1) "domain" = some none)
    (nA1x1 : PySem.W.findIn K (.ref CK1) "room" = some none)
    (nA1x2 : PySem.W.findIn K (.ref CK1) "entries" = some none)
    (nA1x3 : PySem.W.findIn K (.ref CK1) "code_by_value" = some none)
    (nA1x4 : PySem.W.findIn K (.ref CK1) "value_by_code" = some none)
    (nA1x5 : PySem.W.findIn K (.ref CK1) "relation" = some none)
    (a1 : PySem.W.nsIn K mainGlobals "in_order" = some (some (.ref f1))) (l1 : K.lookup f1 = some ⟨oc1, od1, .func (PySem.W.fnOf "in_order" "in_order" (defArgs s_in_order) (defBody s_in_order) (defScope s_in_order) .none kV1 dc1 pm1 an1 cd1 ct1), sl1⟩) (c1 : PySem.W.codeIn K cd1 "in_order" = true) (k1 : PySem.W.keepIn K (.ref f1) = true)
    (a2 : PySem.W.nsIn K mainGlobals "told_by_first" = some (some (.ref f2))) (l2 : K.lookup f2 = some ⟨oc2, od2, .func (PySem.W.fnOf "told_by_first" "told_by_first" (defArgs s_told_by_first) (defBody s_told_by_first) (defScope s_told_by_first) .none kV2 dc2 pm2 an2 cd2 ct2), sl2⟩) (c2 : PySem.W.codeIn K cd2 "told_by_first" = true) (k2 : PySem.W.keepIn K (.ref f2) = true)
    (a3 : PySem.W.nsIn K mainGlobals "kept_by" = some (some (.ref f3))) (l3 : K.lookup f3 = some ⟨oc3, od3, .func (PySem.W.fnOf "kept_by" "kept_by" (defArgs s_kept_by) (defBody s_kept_by) (defScope s_kept_by) .none kV3 dc3 pm3 an3 cd3 ct3), sl3⟩) (c3 : PySem.W.codeIn K cd3 "kept_by" = true) (k3 : PySem.W.keepIn K (.ref f3) = true)
     (l4 : K.lookup f4 = some ⟨oc4, od4, .func (PySem.W.fnOf "__init__" "Bridge.__init__" (defArgs s_Bridge___init__) (defBody s_Bridge___init__) (defScope s_Bridge___init__) .none kV4 dc4 pm4 an4 cd4 ct4), sl4⟩) (c4 : PySem.W.codeIn K cd4 "Bridge.__init__" = true) (k4 : PySem.W.keepIn K (.ref f4) = true)
     (l5 : K.lookup f5 = some ⟨oc5, od5, .func (PySem.W.fnOf "keeps" "Bridge.keeps" (defArgs s_Bridge_keeps) (defBody s_Bridge_keeps) (defScope s_Bridge_keeps) .none kV5 dc5 pm5 an5 cd5 ct5), sl5⟩) (c5 : PySem.W.codeIn K cd5 "Bridge.keeps" = true) (k5 : PySem.W.keepIn K (.ref f5) = true)
     (l6 : K.lookup f6 = some ⟨oc6, od6, .func (PySem.W.fnOf "__call__" "Bridge.__call__" (defArgs s_Bridge___call__) (defBody s_Bridge___call__) (defScope s_Bridge___call__) .none kV6 dc6 pm6 an6 cd6 ct6), sl6⟩) (c6 : PySem.W.codeIn K cd6 "Bridge.__call__" = true) (k6 : PySem.W.keepIn K (.ref f6) = true)
     (l7 : K.lookup f7 = some ⟨oc7, od7, .func (PySem.W.fnOf "back" "Bridge.back" (defArgs s_Bridge_back) (defBody s_Bridge_back) (defScope s_Bridge_back) .none kV7 dc7 pm7 an7 cd7 ct7), sl7⟩) (c7 : PySem.W.codeIn K cd7 "Bridge.back" = true) (k7 : PySem.W.keepIn K (.ref f7) = true)
    (a8 : PySem.W.nsIn K mainGlobals "is_word" = some (some (.ref f8))) (l8 : K.lookup f8 = some ⟨oc8, od8, .func (PySem.W.fnOf "is_word" "is_word" (defArgs s_is_word) (defBody s_is_word) (defScope s_is_word) .none kV8 dc8 pm8 an8 cd8 ct8), sl8⟩) (c8 : PySem.W.codeIn K cd8 "is_word" = true) (k8 : PySem.W.keepIn K (.ref f8) = true)
    (a9 : PySem.W.nsIn K mainGlobals "is_value" = some (some (.ref f9))) (l9 : K.lookup f9 = some ⟨oc9, od9, .func (PySem.W.fnOf "is_value" "is_value" (defArgs s_is_value) (defBody s_is_value) (defScope s_is_value) .none kV9 dc9 pm9 an9 cd9 ct9), sl9⟩) (c9 : PySem.W.codeIn K cd9 "is_value" = true) (k9 : PySem.W.keepIn K (.ref f9) = true)
    (a10 : PySem.W.nsIn K mainGlobals "check_room" = some (some (.ref f10))) (l10 : K.lookup f10 = some ⟨oc10, od10, .func (PySem.W.fnOf "check_room" "check_room" (defArgs s_check_room) (defBody s_check_room) (defScope s_check_room) .none kV10 dc10 pm10 an10 cd10 ct10), sl10⟩) (c10 : PySem.W.codeIn K cd10 "check_room" = true) (k10 : PySem.W.keepIn K (.ref f10) = true)
    (a11 : PySem.W.nsIn K mainGlobals "is_code" = some (some (.ref f11))) (l11 : K.lookup f11 = some ⟨oc11, od11, .func (PySem.W.fnOf "is_code" "is_code" (defArgs s_is_code) (defBody s_is_code) (defScope s_is_code) .none kV11 dc11 pm11 an11 cd11 ct11), sl11⟩) (c11 : PySem.W.codeIn K cd11 "is_code" = true) (k11 : PySem.W.keepIn K (.ref f11) = true)
    {DT12 : Addr} {oDT12 : Value} {odT12 : Option Addr} {nDT12 : Nat} {slDT12 : Array (Option Value)} {AE12 : Addr}
     (l12 : K.lookup f12 = some ⟨oc12, od12, .func (PySem.W.fnOf "__init__" "Book.__init__" (defArgs s_Book___init__) (defBody s_Book___init__) (defScope s_Book___init__) (.ref DT12) kV12 dc12 pm12 an12 cd12 ct12), sl12⟩) (c12 : PySem.W.codeIn K cd12 "Book.__init__" = true) (k12 : PySem.W.keepIn K (.ref f12) = true)
    (lDT12 : K.lookup DT12 = some ⟨oDT12, odT12, .seq #[.ref AE12] nDT12, slDT12⟩)
    {odE12 : Option Addr} {slE12 : Array (Option Value)} {epE12 : Nat} (lE12 : K.lookup AE12 = some ⟨.type "tuple", odE12, .seq #[] epE12, slE12⟩)
     (l13 : K.lookup f13 = some ⟨oc13, od13, .func (PySem.W.fnOf "counted" "Book.counted" (defArgs s_Book_counted) (defBody s_Book_counted) (defScope s_Book_counted) .none kV13 dc13 pm13 an13 cd13 ct13), sl13⟩) (c13 : PySem.W.codeIn K cd13 "Book.counted" = true) (k13 : PySem.W.keepIn K (.ref f13) = true)
     (l14 : K.lookup f14 = some ⟨oc14, od14, .func (PySem.W.fnOf "__contains__" "Book.__contains__" (defArgs s_Book___contains__) (defBody s_Book___contains__) (defScope s_Book___contains__) .none kV14 dc14 pm14 an14 cd14 ct14), sl14⟩) (c14 : PySem.W.codeIn K cd14 "Book.__contains__" = true) (k14 : PySem.W.keepIn K (.ref f14) = true)
     (l15 : K.lookup f15 = some ⟨oc15, od15, .func (PySem.W.fnOf "code_of" "Book.code_of" (defArgs s_Book_code_of) (defBody s_Book_code_of) (defScope s_Book_code_of) .none kV15 dc15 pm15 an15 cd15 ct15), sl15⟩) (c15 : PySem.W.codeIn K cd15 "Book.code_of" = true) (k15 : PySem.W.keepIn K (.ref f15) = true)
     (l16 : K.lookup f16 = some ⟨oc16, od16, .func (PySem.W.fnOf "value_of" "Book.value_of" (defArgs s_Book_value_of) (defBody s_Book_value_of) (defScope s_Book_value_of) .none kV16 dc16 pm16 an16 cd16 ct16), sl16⟩) (c16 : PySem.W.codeIn K cd16 "Book.value_of" = true) (k16 : PySem.W.keepIn K (.ref f16) = true)
    (a17 : PySem.W.nsIn K mainGlobals "_law_take" = some (some (.ref f17))) (l17 : K.lookup f17 = some ⟨oc17, od17, .func (PySem.W.fnOf "_law_take" "_law_take" (defArgs s_l_take) (defBody s_l_take) (defScope s_l_take) .none kV17 dc17 pm17 an17 cd17 ct17), sl17⟩) (c17 : PySem.W.codeIn K cd17 "_law_take" = true) (k17 : PySem.W.keepIn K (.ref f17) = true)
    (a18 : PySem.W.nsIn K mainGlobals "_law_same" = some (some (.ref f18))) (l18 : K.lookup f18 = some ⟨oc18, od18, .func (PySem.W.fnOf "_law_same" "_law_same" (defArgs s_l_same) (defBody s_l_same) (defScope s_l_same) .none kV18 dc18 pm18 an18 cd18 ct18), sl18⟩) (c18 : PySem.W.codeIn K cd18 "_law_same" = true) (k18 : PySem.W.keepIn K (.ref f18) = true)
    (a19 : PySem.W.nsIn K mainGlobals "_law_values" = some (some (.ref f19))) (l19 : K.lookup f19 = some ⟨oc19, od19, .func (PySem.W.fnOf "_law_values" "_law_values" (defArgs s_l_values) (defBody s_l_values) (defScope s_l_values) .none kV19 dc19 pm19 an19 cd19 ct19), sl19⟩) (c19 : PySem.W.codeIn K cd19 "_law_values" = true) (k19 : PySem.W.keepIn K (.ref f19) = true)
    (a20 : PySem.W.nsIn K mainGlobals "_law_entries" = some (some (.ref f20))) (l20 : K.lookup f20 = some ⟨oc20, od20, .func (PySem.W.fnOf "_law_entries" "_law_entries" (defArgs s_l_entries) (defBody s_l_entries) (defScope s_l_entries) .none kV20 dc20 pm20 an20 cd20 ct20), sl20⟩) (c20 : PySem.W.codeIn K cd20 "_law_entries" = true) (k20 : PySem.W.keepIn K (.ref f20) = true)
    (a21 : PySem.W.nsIn K mainGlobals "_law_room" = some (some (.ref f21))) (l21 : K.lookup f21 = some ⟨oc21, od21, .func (PySem.W.fnOf "_law_room" "_law_room" (defArgs s_l_room) (defBody s_l_room) (defScope s_l_room) .none kV21 dc21 pm21 an21 cd21 ct21), sl21⟩) (c21 : PySem.W.codeIn K cd21 "_law_room" = true) (k21 : PySem.W.keepIn K (.ref f21) = true)
    (a22 : PySem.W.nsIn K mainGlobals "_law_code" = some (some (.ref f22))) (l22 : K.lookup f22 = some ⟨oc22, od22, .func (PySem.W.fnOf "_law_code" "_law_code" (defArgs s_l_code) (defBody s_l_code) (defScope s_l_code) .none kV22 dc22 pm22 an22 cd22 ct22), sl22⟩) (c22 : PySem.W.codeIn K cd22 "_law_code" = true) (k22 : PySem.W.keepIn K (.ref f22) = true)
    (a23 : PySem.W.nsIn K mainGlobals "_law_pairs" = some (some (.ref f23))) (l23 : K.lookup f23 = some ⟨oc23, od23, .func (PySem.W.fnOf "_law_pairs" "_law_pairs" (defArgs s_l_pairs) (defBody s_l_pairs) (defScope s_l_pairs) .none kV23 dc23 pm23 an23 cd23 ct23), sl23⟩) (c23 : PySem.W.codeIn K cd23 "_law_pairs" = true) (k23 : PySem.W.keepIn K (.ref f23) = true)
    (a24 : PySem.W.nsIn K mainGlobals "_law_kept" = some (some (.ref f24))) (l24 : K.lookup f24 = some ⟨oc24, od24, .func (PySem.W.fnOf "_law_kept" "_law_kept" (defArgs s_l_kept) (defBody s_l_kept) (defScope s_l_kept) .none kV24 dc24 pm24 an24 cd24 ct24), sl24⟩) (c24 : PySem.W.codeIn K cd24 "_law_kept" = true) (k24 : PySem.W.keepIn K (.ref f24) = true)
    (a25 : PySem.W.nsIn K mainGlobals "_law_no_code" = some (some (.ref f25))) (l25 : K.lookup f25 = some ⟨oc25, od25, .func (PySem.W.fnOf "_law_no_code" "_law_no_code" (defArgs s_l_no_code) (defBody s_l_no_code) (defScope s_l_no_code) .none kV25 dc25 pm25 an25 cd25 ct25), sl25⟩) (c25 : PySem.W.codeIn K cd25 "_law_no_code" = true) (k25 : PySem.W.keepIn K (.ref f25) = true)
    (a26 : PySem.W.nsIn K mainGlobals "_law_right" = some (some (.ref f26))) (l26 : K.lookup f26 = some ⟨oc26, od26, .func (PySem.W.fnOf "_law_right" "_law_right" (defArgs s_l_right) (defBody s_l_right) (defScope s_l_right) .none kV26 dc26 pm26 an26 cd26 ct26), sl26⟩) (c26 : PySem.W.codeIn K cd26 "_law_right" = true) (k26 : PySem.W.keepIn K (.ref f26) = true)
    (a27 : PySem.W.nsIn K mainGlobals "_law_refused" = some (some (.ref f27))) (l27 : K.lookup f27 = some ⟨oc27, od27, .func (PySem.W.fnOf "_law_refused" "_law_refused" (defArgs s_l_refused) (defBody s_l_refused) (defScope s_l_refused) .none kV27 dc27 pm27 an27 cd27 ct27), sl27⟩) (c27 : PySem.W.codeIn K cd27 "_law_refused" = true) (k27 : PySem.W.keepIn K (.ref f27) = true)
    (a28 : PySem.W.nsIn K mainGlobals "_law_counted" = some (some (.ref f28))) (l28 : K.lookup f28 = some ⟨oc28, od28, .func (PySem.W.fnOf "_law_counted" "_law_counted" (defArgs s_l_counted) (defBody s_l_counted) (defScope s_l_counted) .none kV28 dc28 pm28 an28 cd28 ct28), sl28⟩) (c28 : PySem.W.codeIn K cd28 "_law_counted" = true) (k28 : PySem.W.keepIn K (.ref f28) = true)
    (a29 : PySem.W.nsIn K mainGlobals "law" = some (some (.ref f29))) (l29 : K.lookup f29 = some ⟨oc29, od29, .func (PySem.W.fnOf "law" "law" (defArgs s_law) (defBody s_law) (defScope s_law) .none kV29 dc29 pm29 an29 cd29 ct29), sl29⟩) (c29 : PySem.W.codeIn K cd29 "law" = true) (k29 : PySem.W.keepIn K (.ref f29) = true)
    {C0 C1 C2 C3 C4 C5 C6 C7 C8 C9 C10 C11 fI1 NI1 fI2 NI2 fI3 NI3 fI4 NI4 fI5 NI5 fI6 NI6 fI7 NI7 fI8 NI8 fI9 NI9 fI10 NI10 fI11 NI11 : Addr} {nm1 qn1 nm2 qn2 nm3 qn3 nm4 qn4 nm5 qn5 nm6 qn6 nm7 qn7 nm8 qn8 nm9 qn9 nm10 qn10 nm11 qn11 : Str} {bs1 su1 bs2 su2 bs3 su3 bs4 su4 bs5 su5 bs6 su6 bs7 su7 bs8 su8 bs9 su9 bs10 su10 bs11 su11 : List Value} {sn1 sn2 sn3 sn4 sn5 sn6 sn7 sn8 sn9 sn10 sn11 : List Str} {ab1 ab2 ab3 ab4 ab5 ab6 ab7 ab8 ab9 ab10 ab11 : Bool} {co1 co2 co3 co4 co5 co6 co7 co8 co9 co10 co11 : Option Bool} {dd1 odI1 anI1 dd2 odI2 anI2 dd3 odI3 anI3 dd4 odI4 anI4 dd5 odI5 anI5 dd6 odI6 anI6 dd7 odI7 anI7 dd8 odI8 anI8 dd9 odI9 anI9 dd10 odI10 anI10 dd11 odI11 anI11 : Option Addr} {m01 m11 m21 m31 m51 m02 m12 m22 m32 m52 m03 m13 m23 m33 m53 m04 m14 m24 m34 m54 m05 m15 m25 m35 m55 m06 m16 m26 m36 m56 m07 m17 m27 m37 m57 m08 m18 m28 m38 m58 m09 m19 m29 m39 m59 m010 m110 m210 m310 m510 m011 m111 m211 m311 m511 : Option Value} {slI1 slI2 slI3 slI4 slI5 slI6 slI7 slI8 slI9 slI10 slI11 : Array (Option Value)} {ocI1 kVI1 dcI1 pmI1 cdI1 ctI1 ocI2 kVI2 dcI2 pmI2 cdI2 ctI2 ocI3 kVI3 dcI3 pmI3 cdI3 ctI3 ocI4 kVI4 dcI4 pmI4 cdI4 ctI4 ocI5 kVI5 dcI5 pmI5 cdI5 ctI5 ocI6 kVI6 dcI6 pmI6 cdI6 ctI6 ocI7 kVI7 dcI7 pmI7 cdI7 ctI7 ocI8 kVI8 dcI8 pmI8 cdI8 ctI8 ocI9 kVI9 dcI9 pmI9 cdI9 ctI9 ocI10 kVI10 dcI10 pmI10 cdI10 ctI10 ocI11 kVI11 dcI11 pmI11 cdI11 ctI11 : Value}
    (aC0 : PySem.W.nsIn K mainGlobals "ColonnadeError" = some (some (.ref C0)))
    (aC1 : PySem.W.nsIn K mainGlobals "NoRelation" = some (some (.ref C1)))
    (aC2 : PySem.W.nsIn K mainGlobals "BadValue" = some (some (.ref C2)))
    (aC3 : PySem.W.nsIn K mainGlobals "BadDomain" = some (some (.ref C3)))
    (aC4 : PySem.W.nsIn K mainGlobals "BadRoom" = some (some (.ref C4)))
    (aC5 : PySem.W.nsIn K mainGlobals "BadCode" = some (some (.ref C5)))
    (aC6 : PySem.W.nsIn K mainGlobals "Twice" = some (some (.ref C6)))
    (aC7 : PySem.W.nsIn K mainGlobals "Full" = some (some (.ref C7)))
    (aC8 : PySem.W.nsIn K mainGlobals "BadBook" = some (some (.ref C8)))
    (aC9 : PySem.W.nsIn K mainGlobals "NoValue" = some (some (.ref C9)))
    (aC10 : PySem.W.nsIn K mainGlobals "NoCode" = some (some (.ref C10)))
    (aC11 : PySem.W.nsIn K mainGlobals "Mismatch" = some (some (.ref C11)))
    (eC0 : PySem.W.subIn K (.ref C0) (.type "BaseException") = some true) (tC0 : PySem.W.typeIn K (.ref C0) = some (.type "type")) (hd0 : PySem.W.hasDictIn K C0 = true)
    (eC1 : PySem.W.subIn K (.ref C1) (.type "BaseException") = some true) (tC1 : PySem.W.typeIn K (.ref C1) = some (.type "type")) (hd1 : PySem.W.hasDictIn K C1 = true)
    (eC2 : PySem.W.subIn K (.ref C2) (.type "BaseException") = some true) (tC2 : PySem.W.typeIn K (.ref C2) = some (.type "type")) (hd2 : PySem.W.hasDictIn K C2 = true)
    (eC3 : PySem.W.subIn K (.ref C3) (.type "BaseException") = some true) (tC3 : PySem.W.typeIn K (.ref C3) = some (.type "type")) (hd3 : PySem.W.hasDictIn K C3 = true)
    (eC4 : PySem.W.subIn K (.ref C4) (.type "BaseException") = some true) (tC4 : PySem.W.typeIn K (.ref C4) = some (.type "type")) (hd4 : PySem.W.hasDictIn K C4 = true)
    (eC5 : PySem.W.subIn K (.ref C5) (.type "BaseException") = some true) (tC5 : PySem.W.typeIn K (.ref C5) = some (.type "type")) (hd5 : PySem.W.hasDictIn K C5 = true)
    (eC6 : PySem.W.subIn K (.ref C6) (.type "BaseException") = some true) (tC6 : PySem.W.typeIn K (.ref C6) = some (.type "type")) (hd6 : PySem.W.hasDictIn K C6 = true)
    (eC7 : PySem.W.subIn K (.ref C7) (.type "BaseException") = some true) (tC7 : PySem.W.typeIn K (.ref C7) = some (.type "type")) (hd7 : PySem.W.hasDictIn K C7 = true)
    (eC8 : PySem.W.subIn K (.ref C8) (.type "BaseException") = some true) (tC8 : PySem.W.typeIn K (.ref C8) = some (.type "type")) (hd8 : PySem.W.hasDictIn K C8 = true)
    (eC9 : PySem.W.subIn K (.ref C9) (.type "BaseException") = some true) (tC9 : PySem.W.typeIn K (.ref C9) = some (.type "type")) (hd9 : PySem.W.hasDictIn K C9 = true)
    (eC10 : PySem.W.subIn K (.ref C10) (.type "BaseException") = some true) (tC10 : PySem.W.typeIn K (.ref C10) = some (.type "type")) (hd10 : PySem.W.hasDictIn K C10 = true)
    (eC11 : PySem.W.subIn K (.ref C11) (.type "BaseException") = some true) (tC11 : PySem.W.typeIn K (.ref C11) = some (.type "type")) (hd11 : PySem.W.hasDictIn K C11 = true)
    (gN : PySem.W.specialIn K (.builtin "object.__class__") "__get__" = some (some (.builtin "getset_descriptor.__get__"))) (gT : PySem.W.takesIn K (.builtin "object.__class__") = some true)
    (xL1 : K.lookup C1 = some (excClassObj nm1 qn1 C1 NI1 bs1 [.ref C0, .type "ValueError", .type "Exception", .type "BaseException", .type "object"] true sn1 su1 ab1 co1 dd1 m01 m11 m21 m31 m51 "ValueError.__new__"))
    (sa1 : PySem.W.findIn K (.ref C1) "__setattr__" = some (some (.builtin "object.__setattr__"))) (ga1 : PySem.W.findIn K (.ref C1) "__getattribute__" = some (some (.builtin "BaseException.__getattribute__"))) (gg1 : PySem.W.findIn K (.ref C1) "__getattr__" = some none) (hc1 : PySem.W.findIn K (.ref C1) "__class__" = some (some (.builtin "object.__class__"))) (hm1 : PySem.W.mroIn K C1 (.type "object") = some true) (kC1 : PySem.W.keepIn K (.ref C1) = true)
    (nb1name : PySem.W.findIn K (.ref C1) "name" = some none)
    (iI1 : PySem.W.findIn K (.ref C1) "__init__" = some (some (.ref fI1))) (tI1 : PySem.W.typeIn K (.ref fI1) = some (.type "function")) (lI1 : K.lookup fI1 = some ⟨ocI1, odI1, .func (PySem.W.fnOf "__init__" "NoRelation.__init__" (defArgs sI_1) (defBody sI_1) (defScope sI_1) .none kVI1 dcI1 pmI1 anI1 cdI1 ctI1), slI1⟩) (cI1 : PySem.W.codeIn K cdI1 "NoRelation.__init__" = true) (kI1 : PySem.W.keepIn K (.ref fI1) = true)
    (sb1x0 : PySem.W.subIn K (.ref C1) (.ref C0) = some true)
    (sb1x1 : PySem.W.subIn K (.ref C1) (.ref C1) = some true)
    (sb1x2 : PySem.W.subIn K (.ref C1) (.ref C2) = some false)
    (sb1x3 : PySem.W.subIn K (.ref C1) (.ref C3) = some false)
    (sb1x4 : PySem.W.subIn K (.ref C1) (.ref C4) = some false)
    (sb1x5 : PySem.W.subIn K (.ref C1) (.ref C5) = some false)
    (sb1x6 : PySem.W.subIn K (.ref C1) (.ref C6) = some false)
    (sb1x7 : PySem.W.subIn K (.ref C1) (.ref C7) = some false)
    (sb1x8 : PySem.W.subIn K (.ref C1) (.ref C8) = some false)
    (sb1x9 : PySem.W.subIn K (.ref C1) (.ref C9) = some false)
    (sb1x10 : PySem.W.subIn K (.ref C1) (.ref C10) = some false)
    (sb1x11 : PySem.W.subIn K (.ref C1) (.ref C11) = some false)
    (xL2 : K.lookup C2 = some (excClassObj nm2 qn2 C2 NI2 bs2 [.ref C0, .type "ValueError", .type "Exception", .type "BaseException", .type "object"] true sn2 su2 ab2 co2 dd2 m02 m12 m22 m32 m52 "ValueError.__new__"))
    (sa2 : PySem.W.findIn K (.ref C2) "__setattr__" = some (some (.builtin "object.__setattr__"))) (ga2 : PySem.W.findIn K (.ref C2) "__getattribute__" = some (some (.builtin "BaseException.__getattribute__"))) (gg2 : PySem.W.findIn K (.ref C2) "__getattr__" = some none) (hc2 : PySem.W.findIn K (.ref C2) "__class__" = some (some (.builtin "object.__class__"))) (hm2 : PySem.W.mroIn K C2 (.type "object") = some true) (kC2 : PySem.W.keepIn K (.ref C2) = true)
    (nb2value : PySem.W.findIn K (.ref C2) "value" = some none)
    (iI2 : PySem.W.findIn K (.ref C2) "__init__" = some (some (.ref fI2))) (tI2 : PySem.W.typeIn K (.ref fI2) = some (.type "function")) (lI2 : K.lookup fI2 = some ⟨ocI2, odI2, .func (PySem.W.fnOf "__init__" "BadValue.__init__" (defArgs sI_2) (defBody sI_2) (defScope sI_2) .none kVI2 dcI2 pmI2 anI2 cdI2 ctI2), slI2⟩) (cI2 : PySem.W.codeIn K cdI2 "BadValue.__init__" = true) (kI2 : PySem.W.keepIn K (.ref fI2) = true)
    (sb2x0 : PySem.W.subIn K (.ref C2) (.ref C0) = some true)
    (sb2x1 : PySem.W.subIn K (.ref C2) (.ref C1) = some false)
    (sb2x2 : PySem.W.subIn K (.ref C2) (.ref C2) = some true)
    (sb2x3 : PySem.W.subIn K (.ref C2) (.ref C3) = some false)
    (sb2x4 : PySem.W.subIn K (.ref C2) (.ref C4) = some false)
    (sb2x5 : PySem.W.subIn K (.ref C2) (.ref C5) = some false)
    (sb2x6 : PySem.W.subIn K (.ref C2) (.ref C6) = some false)
    (sb2x7 : PySem.W.subIn K (.ref C2) (.ref C7) = some false)
    (sb2x8 : PySem.W.subIn K (.ref C2) (.ref C8) = some false)
    (sb2x9 : PySem.W.subIn K (.ref C2) (.ref C9) = some false)
    (sb2x10 : PySem.W.subIn K (.ref C2) (.ref C10) = some false)
    (sb2x11 : PySem.W.subIn K (.ref C2) (.ref C11) = some false)
    (xL3 : K.lookup C3 = some (excClassObj nm3 qn3 C3 NI3 bs3 [.ref C0, .type "ValueError", .type "Exception", .type "BaseException", .type "object"] true sn3 su3 ab3 co3 dd3 m03 m13 m23 m33 m53 "ValueError.__new__"))
    (sa3 : PySem.W.findIn K (.ref C3) "__setattr__" = some (some (.builtin "object.__setattr__"))) (ga3 : PySem.W.findIn K (.ref C3) "__getattribute__" = some (some (.builtin "BaseException.__getattribute__"))) (gg3 : PySem.W.findIn K (.ref C3) "__getattr__" = some none) (hc3 : PySem.W.findIn K (.ref C3) "__class__" = some (some (.builtin "object.__class__"))) (hm3 : PySem.W.mroIn K C3 (.type "object") = some true) (kC3 : PySem.W.keepIn K (.ref C3) = true)
    (nb3domain : PySem.W.findIn K (.ref C3) "domain" = some none)
    (iI3 : PySem.W.findIn K (.ref C3) "__init__" = some (some (.ref fI3))) (tI3 : PySem.W.typeIn K (.ref fI3) = some (.type "function")) (lI3 : K.lookup fI3 = some ⟨ocI3, odI3, .func (PySem.W.fnOf "__init__" "BadDomain.__init__" (defArgs sI_3) (defBody sI_3) (defScope sI_3) .none kVI3 dcI3 pmI3 anI3 cdI3 ctI3), slI3⟩) (cI3 : PySem.W.codeIn K cdI3 "BadDomain.__init__" = true) (kI3 : PySem.W.keepIn K (.ref fI3) = true)
    (sb3x0 : PySem.W.subIn K (.ref C3) (.ref C0) = some true)
    (sb3x1 : PySem.W.subIn K (.ref C3) (.ref C1) = some false)
    (sb3x2 : PySem.W.subIn K (.ref C3) (.ref C2) = some false)
    (sb3x3 : PySem.W.subIn K (.ref C3) (.ref C3) = some true)
    (sb3x4 : PySem.W.subIn K (.ref C3) (.ref C4) = some false)
    (sb3x5 : PySem.W.subIn K (.ref C3) (.ref C5) = some false)
    (sb3x6 : PySem.W.subIn K (.ref C3) (.ref C6) = some false)
    (sb3x7 : PySem.W.subIn K (.ref C3) (.ref C7) = some false)
    (sb3x8 : PySem.W.subIn K (.ref C3) (.ref C8) = some false)
    (sb3x9 : PySem.W.subIn K (.ref C3) (.ref C9) = some false)
    (sb3x10 : PySem.W.subIn K (.ref C3) (.ref C10) = some false)
    (sb3x11 : PySem.W.subIn K (.ref C3) (.ref C11) = some false)
    (xL4 : K.lookup C4 = some (excClassObj nm4 qn4 C4 NI4 bs4 [.ref C0, .type "ValueError", .type "Exception", .type "BaseException", .type "object"] true sn4 su4 ab4 co4 dd4 m04 m14 m24 m34 m54 "ValueError.__new__"))
    (sa4 : PySem.W.findIn K (.ref C4) "__setattr__" = some (some (.builtin "object.__setattr__"))) (ga4 : PySem.W.findIn K (.ref C4) "__getattribute__" = some (some (.builtin "BaseException.__getattribute__"))) (gg4 : PySem.W.findIn K (.ref C4) "__getattr__" = some none) (hc4 : PySem.W.findIn K (.ref C4) "__class__" = some (some (.builtin "object.__class__"))) (hm4 : PySem.W.mroIn K C4 (.type "object") = some true) (kC4 : PySem.W.keepIn K (.ref C4) = true)
    (nb4room : PySem.W.findIn K (.ref C4) "room" = some none)
    (iI4 : PySem.W.findIn K (.ref C4) "__init__" = some (some (.ref fI4))) (tI4 : PySem.W.typeIn K (.ref fI4) = some (.type "function")) (lI4 : K.lookup fI4 = some ⟨ocI4, odI4, .func (PySem.W.fnOf "__init__" "BadRoom.__init__" (defArgs sI_4) (defBody sI_4) (defScope sI_4) .none kVI4 dcI4 pmI4 anI4 cdI4 ctI4), slI4⟩) (cI4 : PySem.W.codeIn K cdI4 "BadRoom.__init__" = true) (kI4 : PySem.W.keepIn K (.ref fI4) = true)
    (sb4x0 : PySem.W.subIn K (.ref C4) (.ref C0) = some true)
    (sb4x1 : PySem.W.subIn K (.ref C4) (.ref C1) = some false)
    (sb4x2 : PySem.W.subIn K (.ref C4) (.ref C2) = some false)
    (sb4x3 : PySem.W.subIn K (.ref C4) (.ref C3) = some false)
    (sb4x4 : PySem.W.subIn K (.ref C4) (.ref C4) = some true)
    (sb4x5 : PySem.W.subIn K (.ref C4) (.ref C5) = some false)
    (sb4x6 : PySem.W.subIn K (.ref C4) (.ref C6) = some false)
    (sb4x7 : PySem.W.subIn K (.ref C4) (.ref C7) = some false)
    (sb4x8 : PySem.W.subIn K (.ref C4) (.ref C8) = some false)
    (sb4x9 : PySem.W.subIn K (.ref C4) (.ref C9) = some false)
    (sb4x10 : PySem.W.subIn K (.ref C4) (.ref C10) = some false)
    (sb4x11 : PySem.W.subIn K (.ref C4) (.ref C11) = some false)
    (xL5 : K.lookup C5 = some (excClassObj nm5 qn5 C5 NI5 bs5 [.ref C0, .type "ValueError", .type "Exception", .type "BaseException", .type "object"] true sn5 su5 ab5 co5 dd5 m05 m15 m25 m35 m55 "ValueError.__new__"))
    (sa5 : PySem.W.findIn K (.ref C5) "__setattr__" = some (some (.builtin "object.__setattr__"))) (ga5 : PySem.W.findIn K (.ref C5) "__getattribute__" = some (some (.builtin "BaseException.__getattribute__"))) (gg5 : PySem.W.findIn K (.ref C5) "__getattr__" = some none) (hc5 : PySem.W.findIn K (.ref C5) "__class__" = some (some (.builtin "object.__class__"))) (hm5 : PySem.W.mroIn K C5 (.type "object") = some true) (kC5 : PySem.W.keepIn K (.ref C5) = true)
    (nb5code : PySem.W.findIn K (.ref C5) "code" = some none)
    (iI5 : PySem.W.findIn K (.ref C5) "__init__" = some (some (.ref fI5))) (tI5 : PySem.W.typeIn K (.ref fI5) = some (.type "function")) (lI5 : K.lookup fI5 = some ⟨ocI5, odI5, .func (PySem.W.fnOf "__init__" "BadCode.__init__" (defArgs sI_5) (defBody sI_5) (defScope sI_5) .none kVI5 dcI5 pmI5 anI5 cdI5 ctI5), slI5⟩) (cI5 : PySem.W.codeIn K cdI5 "BadCode.__init__" = true) (kI5 : PySem.W.keepIn K (.ref fI5) = true)
    (sb5x0 : PySem.W.subIn K (.ref C5) (.ref C0) = some true)
    (sb5x1 : PySem.W.subIn K (.ref C5) (.ref C1) = some false)
    (sb5x2 : PySem.W.subIn K (.ref C5) (.ref C2) = some false)
    (sb5x3 : PySem.W.subIn K (.ref C5) (.ref C3) = some false)
    (sb5x4 : PySem.W.subIn K (.ref C5) (.ref C4) = some false)
    (sb5x5 : PySem.W.subIn K (.ref C5) (.ref C5) = some true)
    (sb5x6 : PySem.W.subIn K (.ref C5) (.ref C6) = some false)
    (sb5x7 : PySem.W.subIn K (.ref C5) (.ref C7) = some false)
    (sb5x8 : PySem.W.subIn K (.ref C5) (.ref C8) = some false)
    (sb5x9 : PySem.W.subIn K (.ref C5) (.ref C9) = some false)
    (sb5x10 : PySem.W.subIn K (.ref C5) (.ref C10) = some false)
    (sb5x11 : PySem.W.subIn K (.ref C5) (.ref C11) = some false)
    (xL6 : K.lookup C6 = some (excClassObj nm6 qn6 C6 NI6 bs6 [.ref C0, .type "ValueError", .type "Exception", .type "BaseException", .type "object"] true sn6 su6 ab6 co6 dd6 m06 m16 m26 m36 m56 "ValueError.__new__"))
    (sa6 : PySem.W.findIn K (.ref C6) "__setattr__" = some (some (.builtin "object.__setattr__"))) (ga6 : PySem.W.findIn K (.ref C6) "__getattribute__" = some (some (.builtin "BaseException.__getattribute__"))) (gg6 : PySem.W.findIn K (.ref C6) "__getattr__" = some none) (hc6 : PySem.W.findIn K (.ref C6) "__class__" = some (some (.builtin "object.__class__"))) (hm6 : PySem.W.mroIn K C6 (.type "object") = some true) (kC6 : PySem.W.keepIn K (.ref C6) = true)
    (nb6name : PySem.W.findIn K (.ref C6) "name" = some none)
    (iI6 : PySem.W.findIn K (.ref C6) "__init__" = some (some (.ref fI6))) (tI6 : PySem.W.typeIn K (.ref fI6) = some (.type "function")) (lI6 : K.lookup fI6 = some ⟨ocI6, odI6, .func (PySem.W.fnOf "__init__" "Twice.__init__" (defArgs sI_6) (defBody sI_6) (defScope sI_6) .none kVI6 dcI6 pmI6 anI6 cdI6 ctI6), slI6⟩) (cI6 : PySem.W.codeIn K cdI6 "Twice.__init__" = true) (kI6 : PySem.W.keepIn K (.ref fI6) = true)
    (sb6x0 : PySem.W.subIn K (.ref C6) (.ref C0) = some true)
    (sb6x1 : PySem.W.subIn K (.ref C6) (.ref C1) = some false)
    (sb6x2 : PySem.W.subIn K (.ref C6) (.ref C2) = some false)
    (sb6x3 : PySem.W.subIn K (.ref C6) (.ref C3) = some false)
    (sb6x4 : PySem.W.subIn K (.ref C6) (.ref C4) = some false)
    (sb6x5 : PySem.W.subIn K (.ref C6) (.ref C5) = some false)
    (sb6x6 : PySem.W.subIn K (.ref C6) (.ref C6) = some true)
    (sb6x7 : PySem.W.subIn K (.ref C6) (.ref C7) = some false)
    (sb6x8 : PySem.W.subIn K (.ref C6) (.ref C8) = some false)
    (sb6x9 : PySem.W.subIn K (.ref C6) (.ref C9) = some false)
    (sb6x10 : PySem.W.subIn K (.ref C6) (.ref C10) = some false)
    (sb6x11 : PySem.W.subIn K (.ref C6) (.ref C11) = some false)
    (xL7 : K.lookup C7 = some (excClassObj nm7 qn7 C7 NI7 bs7 [.ref C0, .type "ValueError", .type "Exception", .type "BaseException", .type "object"] true sn7 su7 ab7 co7 dd7 m07 m17 m27 m37 m57 "ValueError.__new__"))
    (sa7 : PySem.W.findIn K (.ref C7) "__setattr__" = some (some (.builtin "object.__setattr__"))) (ga7 : PySem.W.findIn K (.ref C7) "__getattribute__" = some (some (.builtin "BaseException.__getattribute__"))) (gg7 : PySem.W.findIn K (.ref C7) "__getattr__" = some none) (hc7 : PySem.W.findIn K (.ref C7) "__class__" = some (some (.builtin "object.__class__"))) (hm7 : PySem.W.mroIn K C7 (.type "object") = some true) (kC7 : PySem.W.keepIn K (.ref C7) = true)
    (nb7value : PySem.W.findIn K (.ref C7) "value" = some none)
    (iI7 : PySem.W.findIn K (.ref C7) "__init__" = some (some (.ref fI7))) (tI7 : PySem.W.typeIn K (.ref fI7) = some (.type "function")) (lI7 : K.lookup fI7 = some ⟨ocI7, odI7, .func (PySem.W.fnOf "__init__" "Full.__init__" (defArgs sI_7) (defBody sI_7) (defScope sI_7) .none kVI7 dcI7 pmI7 anI7 cdI7 ctI7), slI7⟩) (cI7 : PySem.W.codeIn K cdI7 "Full.__init__" = true) (kI7 : PySem.W.keepIn K (.ref fI7) = true)
    (sb7x0 : PySem.W.subIn K (.ref C7) (.ref C0) = some true)
    (sb7x1 : PySem.W.subIn K (.ref C7) (.ref C1) = some false)
    (sb7x2 : PySem.W.subIn K (.ref C7) (.ref C2) = some false)
    (sb7x3 : PySem.W.subIn K (.ref C7) (.ref C3) = some false)
    (sb7x4 : PySem.W.subIn K (.ref C7) (.ref C4) = some false)
    (sb7x5 : PySem.W.subIn K (.ref C7) (.ref C5) = some false)
    (sb7x6 : PySem.W.subIn K (.ref C7) (.ref C6) = some false)
    (sb7x7 : PySem.W.subIn K (.ref C7) (.ref C7) = some true)
    (sb7x8 : PySem.W.subIn K (.ref C7) (.ref C8) = some false)
    (sb7x9 : PySem.W.subIn K (.ref C7) (.ref C9) = some false)
    (sb7x10 : PySem.W.subIn K (.ref C7) (.ref C10) = some false)
    (sb7x11 : PySem.W.subIn K (.ref C7) (.ref C11) = some false)
    (xL8 : K.lookup C8 = some (excClassObj nm8 qn8 C8 NI8 bs8 [.ref C0, .type "ValueError", .type "Exception", .type "BaseException", .type "object"] true sn8 su8 ab8 co8 dd8 m08 m18 m28 m38 m58 "ValueError.__new__"))
    (sa8 : PySem.W.findIn K (.ref C8) "__setattr__" = some (some (.builtin "object.__setattr__"))) (ga8 : PySem.W.findIn K (.ref C8) "__getattribute__" = some (some (.builtin "BaseException.__getattribute__"))) (gg8 : PySem.W.findIn K (.ref C8) "__getattr__" = some none) (hc8 : PySem.W.findIn K (.ref C8) "__class__" = some (some (.builtin "object.__class__"))) (hm8 : PySem.W.mroIn K C8 (.type "object") = some true) (kC8 : PySem.W.keepIn K (.ref C8) = true)
    (nb8value : PySem.W.findIn K (.ref C8) "value" = some none)
    (iI8 : PySem.W.findIn K (.ref C8) "__init__" = some (some (.ref fI8))) (tI8 : PySem.W.typeIn K (.ref fI8) = some (.type "function")) (lI8 : K.lookup fI8 = some ⟨ocI8, odI8, .func (PySem.W.fnOf "__init__" "BadBook.__init__" (defArgs sI_8) (defBody sI_8) (defScope sI_8) .none kVI8 dcI8 pmI8 anI8 cdI8 ctI8), slI8⟩) (cI8 : PySem.W.codeIn K cdI8 "BadBook.__init__" = true) (kI8 : PySem.W.keepIn K (.ref fI8) = true)
    (sb8x0 : PySem.W.subIn K (.ref C8) (.ref C0) = some true)
    (sb8x1 : PySem.W.subIn K (.ref C8) (.ref C1) = some false)
    (sb8x2 : PySem.W.subIn K (.ref C8) (.ref C2) = some false)
    (sb8x3 : PySem.W.subIn K (.ref C8) (.ref C3) = some false)
    (sb8x4 : PySem.W.subIn K (.ref C8) (.ref C4) = some false)
    (sb8x5 : PySem.W.subIn K (.ref C8) (.ref C5) = some false)
    (sb8x6 : PySem.W.subIn K (.ref C8) (.ref C6) = some false)
    (sb8x7 : PySem.W.subIn K (.ref C8) (.ref C7) = some false)
    (sb8x8 : PySem.W.subIn K (.ref C8) (.ref C8) = some true)
    (sb8x9 : PySem.W.subIn K (.ref C8) (.ref C9) = some false)
    (sb8x10 : PySem.W.subIn K (.ref C8) (.ref C10) = some false)
    (sb8x11 : PySem.W.subIn K (.ref C8) (.ref C11) = some false)
    (xL9 : K.lookup C9 = some (excClassObj nm9 qn9 C9 NI9 bs9 [.ref C0, .type "ValueError", .type "Exception", .type "BaseException", .type "object"] true sn9 su9 ab9 co9 dd9 m09 m19 m29 m39 m59 "ValueError.__new__"))
    (sa9 : PySem.W.findIn K (.ref C9) "__setattr__" = some (some (.builtin "object.__setattr__"))) (ga9 : PySem.W.findIn K (.ref C9) "__getattribute__" = some (some (.builtin "BaseException.__getattribute__"))) (gg9 : PySem.W.findIn K (.ref C9) "__getattr__" = some none) (hc9 : PySem.W.findIn K (.ref C9) "__class__" = some (some (.builtin "object.__class__"))) (hm9 : PySem.W.mroIn K C9 (.type "object") = some true) (kC9 : PySem.W.keepIn K (.ref C9) = true)
    (nb9value : PySem.W.findIn K (.ref C9) "value" = some none)
    (iI9 : PySem.W.findIn K (.ref C9) "__init__" = some (some (.ref fI9))) (tI9 : PySem.W.typeIn K (.ref fI9) = some (.type "function")) (lI9 : K.lookup fI9 = some ⟨ocI9, odI9, .func (PySem.W.fnOf "__init__" "NoValue.__init__" (defArgs sI_9) (defBody sI_9) (defScope sI_9) .none kVI9 dcI9 pmI9 anI9 cdI9 ctI9), slI9⟩) (cI9 : PySem.W.codeIn K cdI9 "NoValue.__init__" = true) (kI9 : PySem.W.keepIn K (.ref fI9) = true)
    (sb9x0 : PySem.W.subIn K (.ref C9) (.ref C0) = some true)
    (sb9x1 : PySem.W.subIn K (.ref C9) (.ref C1) = some false)
    (sb9x2 : PySem.W.subIn K (.ref C9) (.ref C2) = some false)
    (sb9x3 : PySem.W.subIn K (.ref C9) (.ref C3) = some false)
    (sb9x4 : PySem.W.subIn K (.ref C9) (.ref C4) = some false)
    (sb9x5 : PySem.W.subIn K (.ref C9) (.ref C5) = some false)
    (sb9x6 : PySem.W.subIn K (.ref C9) (.ref C6) = some false)
    (sb9x7 : PySem.W.subIn K (.ref C9) (.ref C7) = some false)
    (sb9x8 : PySem.W.subIn K (.ref C9) (.ref C8) = some false)
    (sb9x9 : PySem.W.subIn K (.ref C9) (.ref C9) = some true)
    (sb9x10 : PySem.W.subIn K (.ref C9) (.ref C10) = some false)
    (sb9x11 : PySem.W.subIn K (.ref C9) (.ref C11) = some false)
    (xL10 : K.lookup C10 = some (excClassObj nm10 qn10 C10 NI10 bs10 [.ref C0, .type "ValueError", .type "Exception", .type "BaseException", .type "object"] true sn10 su10 ab10 co10 dd10 m010 m110 m210 m310 m510 "ValueError.__new__"))
    (sa10 : PySem.W.findIn K (.ref C10) "__setattr__" = some (some (.builtin "object.__setattr__"))) (ga10 : PySem.W.findIn K (.ref C10) "__getattribute__" = some (some (.builtin "BaseException.__getattribute__"))) (gg10 : PySem.W.findIn K (.ref C10) "__getattr__" = some none) (hc10 : PySem.W.findIn K (.ref C10) "__class__" = some (some (.builtin "object.__class__"))) (hm10 : PySem.W.mroIn K C10 (.type "object") = some true) (kC10 : PySem.W.keepIn K (.ref C10) = true)
    (nb10code : PySem.W.findIn K (.ref C10) "code" = some none)
    (iI10 : PySem.W.findIn K (.ref C10) "__init__" = some (some (.ref fI10))) (tI10 : PySem.W.typeIn K (.ref fI10) = some (.type "function")) (lI10 : K.lookup fI10 = some ⟨ocI10, odI10, .func (PySem.W.fnOf "__init__" "NoCode.__init__" (defArgs sI_10) (defBody sI_10) (defScope sI_10) .none kVI10 dcI10 pmI10 anI10 cdI10 ctI10), slI10⟩) (cI10 : PySem.W.codeIn K cdI10 "NoCode.__init__" = true) (kI10 : PySem.W.keepIn K (.ref fI10) = true)
    (sb10x0 : PySem.W.subIn K (.ref C10) (.ref C0) = some true)
    (sb10x1 : PySem.W.subIn K (.ref C10) (.ref C1) = some false)
    (sb10x2 : PySem.W.subIn K (.ref C10) (.ref C2) = some false)
    (sb10x3 : PySem.W.subIn K (.ref C10) (.ref C3) = some false)
    (sb10x4 : PySem.W.subIn K (.ref C10) (.ref C4) = some false)
    (sb10x5 : PySem.W.subIn K (.ref C10) (.ref C5) = some false)
    (sb10x6 : PySem.W.subIn K (.ref C10) (.ref C6) = some false)
    (sb10x7 : PySem.W.subIn K (.ref C10) (.ref C7) = some false)
    (sb10x8 : PySem.W.subIn K (.ref C10) (.ref C8) = some false)
    (sb10x9 : PySem.W.subIn K (.ref C10) (.ref C9) = some false)
    (sb10x10 : PySem.W.subIn K (.ref C10) (.ref C10) = some true)
    (sb10x11 : PySem.W.subIn K (.ref C10) (.ref C11) = some false)
    (xL11 : K.lookup C11 = some (excClassObj nm11 qn11 C11 NI11 bs11 [.ref C0, .type "ValueError", .type "Exception", .type "BaseException", .type "object"] true sn11 su11 ab11 co11 dd11 m011 m111 m211 m311 m511 "ValueError.__new__"))
    (sa11 : PySem.W.findIn K (.ref C11) "__setattr__" = some (some (.builtin "object.__setattr__"))) (ga11 : PySem.W.findIn K (.ref C11) "__getattribute__" = some (some (.builtin "BaseException.__getattribute__"))) (gg11 : PySem.W.findIn K (.ref C11) "__getattr__" = some none) (hc11 : PySem.W.findIn K (.ref C11) "__class__" = some (some (.builtin "object.__class__"))) (hm11 : PySem.W.mroIn K C11 (.type "object") = some true) (kC11 : PySem.W.keepIn K (.ref C11) = true)
    (nb11first : PySem.W.findIn K (.ref C11) "first" = some none) (nb11second : PySem.W.findIn K (.ref C11) "second" = some none)
    (iI11 : PySem.W.findIn K (.ref C11) "__init__" = some (some (.ref fI11))) (tI11 : PySem.W.typeIn K (.ref fI11) = some (.type "function")) (lI11 : K.lookup fI11 = some ⟨ocI11, odI11, .func (PySem.W.fnOf "__init__" "Mismatch.__init__" (defArgs sI_11) (defBody sI_11) (defScope sI_11) .none kVI11 dcI11 pmI11 anI11 cdI11 ctI11), slI11⟩) (cI11 : PySem.W.codeIn K cdI11 "Mismatch.__init__" = true) (kI11 : PySem.W.keepIn K (.ref fI11) = true)
    (sb11x0 : PySem.W.subIn K (.ref C11) (.ref C0) = some true)
    (sb11x1 : PySem.W.subIn K (.ref C11) (.ref C1) = some false)
    (sb11x2 : PySem.W.subIn K (.ref C11) (.ref C2) = some false)
    (sb11x3 : PySem.W.subIn K (.ref C11) (.ref C3) = some false)
    (sb11x4 : PySem.W.subIn K (.ref C11) (.ref C4) = some false)
    (sb11x5 : PySem.W.subIn K (.ref C11) (.ref C5) = some false)
    (sb11x6 : PySem.W.subIn K (.ref C11) (.ref C6) = some false)
    (sb11x7 : PySem.W.subIn K (.ref C11) (.ref C7) = some false)
    (sb11x8 : PySem.W.subIn K (.ref C11) (.ref C8) = some false)
    (sb11x9 : PySem.W.subIn K (.ref C11) (.ref C9) = some false)
    (sb11x10 : PySem.W.subIn K (.ref C11) (.ref C10) = some false)
    (sb11x11 : PySem.W.subIn K (.ref C11) (.ref C11) = some true)
    (z0 : PySem.W.nsIn K mainGlobals "abs" = some none) (z1 : PySem.W.nsIn K mainGlobals "all" = some none) (z2 : PySem.W.nsIn K mainGlobals "bool" = some none) (z3 : PySem.W.nsIn K mainGlobals "int" = some none) (z4 : PySem.W.nsIn K mainGlobals "isinstance" = some none) (z5 : PySem.W.nsIn K mainGlobals "len" = some none) (z6 : PySem.W.nsIn K mainGlobals "list" = some none) (z7 : PySem.W.nsIn K mainGlobals "max" = some none) (z8 : PySem.W.nsIn K mainGlobals "min" = some none) (z9 : PySem.W.nsIn K mainGlobals "range" = some none) (z10 : PySem.W.nsIn K mainGlobals "sorted" = some none) (z11 : PySem.W.nsIn K mainGlobals "str" = some none) (z12 : PySem.W.nsIn K mainGlobals "tuple" = some none) (z13 : PySem.W.nsIn K mainGlobals "zip" = some none) :
    ∃ fd : FuncData, (∀ (s : Shared) (v : Value), BindsTo s fd ⟨[v], []⟩ [("_law_script", v)]) ∧ ∀ base : Heap, K.In base → base.Ns mainGlobals mg → FnOk l.prog w K mg base CX0 10 fa fd ["_law_script"] (spOf K 1 fsLaw) := by
  have e := hfa.symm.trans (PySem.W.mg_of X G a29)
  cases e
  have F1 := fun_mk (st := s_in_order) l1 c1 k1
  have F2 := fun_mk (st := s_told_by_first) l2 c2 k2
  have F3 := fun_mk (st := s_kept_by) l3 c3 k3
  have F4 := fun_mk (st := s_Bridge___init__) l4 c4 k4
  have F5 := fun_mk (st := s_Bridge_keeps) l5 c5 k5
  have F6 := fun_mk (st := s_Bridge___call__) l6 c6 k6
  have F7 := fun_mk (st := s_Bridge_back) l7 c7 k7
  have F8 := fun_mk (st := s_is_word) l8 c8 k8
  have F9 := fun_mk (st := s_is_value) l9 c9 k9
  have F10 := fun_mk (st := s_check_room) l10 c10 k10
  have F11 := fun_mk (st := s_is_code) l11 c11 k11
  have F12 := funV_mk (st := s_Book___init__) l12 c12 k12
  have F13 := fun_mk (st := s_Book_counted) l13 c13 k13
  have F14 := fun_mk (st := s_Book___contains__) l14 c14 k14
  have F15 := fun_mk (st := s_Book_code_of) l15 c15 k15
  have F16 := fun_mk (st := s_Book_value_of) l16 c16 k16
  have F17 := fun_mk (st := s_l_take) l17 c17 k17
  have F18 := fun_mk (st := s_l_same) l18 c18 k18
  have F19 := fun_mk (st := s_l_values) l19 c19 k19
  have F20 := fun_mk (st := s_l_entries) l20 c20 k20
  have F21 := fun_mk (st := s_l_room) l21 c21 k21
  have F22 := fun_mk (st := s_l_code) l22 c22 k22
  have F23 := fun_mk (st := s_l_pairs) l23 c23 k23
  have F24 := fun_mk (st := s_l_kept) l24 c24 k24
  have F25 := fun_mk (st := s_l_no_code) l25 c25 k25
  have F26 := fun_mk (st := s_l_right) l26 c26 k26
  have F27 := fun_mk (st := s_l_refused) l27 c27 k27
  have F28 := fun_mk (st := s_l_counted) l28 c28 k28
  have F29 := fun_mk (st := s_law) l29 c29 k29
  have FI1 := fun_mk (st := sI_1) lI1 cI1 kI1
  have o1 : OexC K C1 := ⟨⟨_, _, _, _, _, _, _, _, _, _, _, _, _, _, _, xL1, rfl⟩, sa1, eC1, tC1, kC1⟩
  have x1 : ExcC K C1 := ⟨ga1, gg1, eC1, hd1, hc1, gN, gT, hm1⟩
  have y1 : XfC K C1 := ⟨ga1, gg1, eC1, hd1⟩
  have FI2 := fun_mk (st := sI_2) lI2 cI2 kI2
  have o2 : OexC K C2 := ⟨⟨_, _, _, _, _, _, _, _, _, _, _, _, _, _, _, xL2, rfl⟩, sa2, eC2, tC2, kC2⟩
  have x2 : ExcC K C2 := ⟨ga2, gg2, eC2, hd2, hc2, gN, gT, hm2⟩
  have y2 : XfC K C2 := ⟨ga2, gg2, eC2, hd2⟩
  have FI3 := fun_mk (st := sI_3) lI3 cI3 kI3
  have o3 : OexC K C3 := ⟨⟨_, _, _, _, _, _, _, _, _, _, _, _, _, _, _, xL3, rfl⟩, sa3, eC3, tC3, kC3⟩
  have x3 : ExcC K C3 := ⟨ga3, gg3, eC3, hd3, hc3, gN, gT, hm3⟩
  have y3 : XfC K C3 := ⟨ga3, gg3, eC3, hd3⟩
  have FI4 := fun_mk (st := sI_4) lI4 cI4 kI4
  have o4 : OexC K C4 := ⟨⟨_, _, _, _, _, _, _, _, _, _, _, _, _, _, _, xL4, rfl⟩, sa4, eC4, tC4, kC4⟩
  have x4 : ExcC K C4 := ⟨ga4, gg4, eC4, hd4, hc4, gN, gT, hm4⟩
  have y4 : XfC K C4 := ⟨ga4, gg4, eC4, hd4⟩
  have FI5 := fun_mk (st := sI_5) lI5 cI5 kI5
  have o5 : OexC K C5 := ⟨⟨_, _, _, _, _, _, _, _, _, _, _, _, _, _, _, xL5, rfl⟩, sa5, eC5, tC5, kC5⟩
  have x5 : ExcC K C5 := ⟨ga5, gg5, eC5, hd5, hc5, gN, gT, hm5⟩
  have y5 : XfC K C5 := ⟨ga5, gg5, eC5, hd5⟩
  have FI6 := fun_mk (st := sI_6) lI6 cI6 kI6
  have o6 : OexC K C6 := ⟨⟨_, _, _, _, _, _, _, _, _, _, _, _, _, _, _, xL6, rfl⟩, sa6, eC6, tC6, kC6⟩
  have x6 : ExcC K C6 := ⟨ga6, gg6, eC6, hd6, hc6, gN, gT, hm6⟩
  have y6 : XfC K C6 := ⟨ga6, gg6, eC6, hd6⟩
  have FI7 := fun_mk (st := sI_7) lI7 cI7 kI7
  have o7 : OexC K C7 := ⟨⟨_, _, _, _, _, _, _, _, _, _, _, _, _, _, _, xL7, rfl⟩, sa7, eC7, tC7, kC7⟩
  have x7 : ExcC K C7 := ⟨ga7, gg7, eC7, hd7, hc7, gN, gT, hm7⟩
  have y7 : XfC K C7 := ⟨ga7, gg7, eC7, hd7⟩
  have FI8 := fun_mk (st := sI_8) lI8 cI8 kI8
  have o8 : OexC K C8 := ⟨⟨_, _, _, _, _, _, _, _, _, _, _, _, _, _, _, xL8, rfl⟩, sa8, eC8, tC8, kC8⟩
  have x8 : ExcC K C8 := ⟨ga8, gg8, eC8, hd8, hc8, gN, gT, hm8⟩
  have y8 : XfC K C8 := ⟨ga8, gg8, eC8, hd8⟩
  have FI9 := fun_mk (st := sI_9) lI9 cI9 kI9
  have o9 : OexC K C9 := ⟨⟨_, _, _, _, _, _, _, _, _, _, _, _, _, _, _, xL9, rfl⟩, sa9, eC9, tC9, kC9⟩
  have x9 : ExcC K C9 := ⟨ga9, gg9, eC9, hd9, hc9, gN, gT, hm9⟩
  have y9 : XfC K C9 := ⟨ga9, gg9, eC9, hd9⟩
  have FI10 := fun_mk (st := sI_10) lI10 cI10 kI10
  have o10 : OexC K C10 := ⟨⟨_, _, _, _, _, _, _, _, _, _, _, _, _, _, _, xL10, rfl⟩, sa10, eC10, tC10, kC10⟩
  have x10 : ExcC K C10 := ⟨ga10, gg10, eC10, hd10, hc10, gN, gT, hm10⟩
  have y10 : XfC K C10 := ⟨ga10, gg10, eC10, hd10⟩
  have FI11 := fun_mk (st := sI_11) lI11 cI11 kI11
  have o11 : OexC K C11 := ⟨⟨_, _, _, _, _, _, _, _, _, _, _, _, _, _, _, xL11, rfl⟩, sa11, eC11, tC11, kC11⟩
  have x11 : ExcC K C11 := ⟨ga11, gg11, eC11, hd11, hc11, gN, gT, hm11⟩
  have y11 : XfC K C11 := ⟨ga11, gg11, eC11, hd11⟩
  have eK0 : ctOf K "Bridge" = CK0 := ctOf_of aK0
  have eK1 : ctOf K "Book" = CK1 := ctOf_of aK1
  let T : Txt K mg := {
    ct := fun n => match n with | 0 => C0 | 1 => C1 | 2 => C2 | 3 => C3 | 4 => C4 | 5 => C5 | 6 => C6 | 7 => C7 | 8 => C8 | 9 => C9 | 10 => C10 | 11 => C11 | _ => C0,
    gC_0 := PySem.W.mg_of X G aC0,
    gC_1 := PySem.W.mg_of X G aC1,
    gC_2 := PySem.W.mg_of X G aC2,
    gC_3 := PySem.W.mg_of X G aC3,
    gC_4 := PySem.W.mg_of X G aC4,
    gC_5 := PySem.W.mg_of X G aC5,
    gC_6 := PySem.W.mg_of X G aC6,
    gC_7 := PySem.W.mg_of X G aC7,
    gC_8 := PySem.W.mg_of X G aC8,
    gC_9 := PySem.W.mg_of X G aC9,
    gC_10 := PySem.W.mg_of X G aC10,
    gC_11 := PySem.W.mg_of X G aC11,
    fI_1 := fI1, dI_1 := _, FI_1 := FI1, bi_1 := FI1.binds fun _ _ _ _ _ _ us hl => match us, hl with | [_, _], _ => rfl,
    e_1 := ⟨o1, PySem.W.mg_of X G aC1, iI1, tI1⟩,
    nf_1_name := nb1name,
    fI_2 := fI2, dI_2 := _, FI_2 := FI2, bi_2 := FI2.binds fun _ _ _ _ _ _ us hl => match us, hl with | [_, _], _ => rfl,
    e_2 := ⟨o2, PySem.W.mg_of X G aC2, iI2, tI2⟩,
    nf_2_value := nb2value,
    fI_3 := fI3, dI_3 := _, FI_3 := FI3, bi_3 := FI3.binds fun _ _ _ _ _ _ us hl => match us, hl with | [_, _], _ => rfl,
    e_3 := ⟨o3, PySem.W.mg_of X G aC3, iI3, tI3⟩,
    nf_3_domain := nb3domain,
    fI_4 := fI4, dI_4 := _, FI_4 := FI4, bi_4 := FI4.binds fun _ _ _ _ _ _ us hl => match us, hl with | [_, _], _ => rfl,
    e_4 := ⟨o4, PySem.W.mg_of X G aC4, iI4, tI4⟩,
    nf_4_room := nb4room,
    fI_5 := fI5, dI_5 := _, FI_5 := FI5, bi_5 := FI5.binds fun _ _ _ _ _ _ us hl => match us, hl with | [_, _], _ => rfl,
    e_5 := ⟨o5, PySem.W.mg_of X G aC5, iI5, tI5⟩,
    nf_5_code := nb5code,
    fI_6 := fI6, dI_6 := _, FI_6 := FI6, bi_6 := FI6.binds fun _ _ _ _ _ _ us hl => match us, hl with | [_, _], _ => rfl,
    e_6 := ⟨o6, PySem.W.mg_of X G aC6, iI6, tI6⟩,
    nf_6_name := nb6name,
    fI_7 := fI7, dI_7 := _, FI_7 := FI7, bi_7 := FI7.binds fun _ _ _ _ _ _ us hl => match us, hl with | [_, _], _ => rfl,
    e_7 := ⟨o7, PySem.W.mg_of X G aC7, iI7, tI7⟩,
    nf_7_value := nb7value,
    fI_8 := fI8, dI_8 := _, FI_8 := FI8, bi_8 := FI8.binds fun _ _ _ _ _ _ us hl => match us, hl with | [_, _], _ => rfl,
    e_8 := ⟨o8, PySem.W.mg_of X G aC8, iI8, tI8⟩,
    nf_8_value := nb8value,
    fI_9 := fI9, dI_9 := _, FI_9 := FI9, bi_9 := FI9.binds fun _ _ _ _ _ _ us hl => match us, hl with | [_, _], _ => rfl,
    e_9 := ⟨o9, PySem.W.mg_of X G aC9, iI9, tI9⟩,
    nf_9_value := nb9value,
    fI_10 := fI10, dI_10 := _, FI_10 := FI10, bi_10 := FI10.binds fun _ _ _ _ _ _ us hl => match us, hl with | [_, _], _ => rfl,
    e_10 := ⟨o10, PySem.W.mg_of X G aC10, iI10, tI10⟩,
    nf_10_code := nb10code,
    fI_11 := fI11, dI_11 := _, FI_11 := FI11, bi_11 := FI11.binds fun _ _ _ _ _ _ us hl => match us, hl with | [_, _, _], _ => rfl,
    e_11 := ⟨o11, PySem.W.mg_of X G aC11, iI11, tI11⟩,
    nf_11_first := nb11first,
    nf_11_second := nb11second,
    hrd := fun n f h => match n, f, h with | 1, f, h => ⟨y1, by rcases (by simpa [exRd] using h : f = "name") with rfl <;> assumption⟩ | 2, f, h => ⟨y2, by rcases (by simpa [exRd] using h : f = "value") with rfl <;> assumption⟩ | 3, f, h => ⟨y3, by rcases (by simpa [exRd] using h : f = "domain") with rfl <;> assumption⟩ | 4, f, h => ⟨y4, by rcases (by simpa [exRd] using h : f = "room") with rfl <;> assumption⟩ | 5, f, h => ⟨y5, by rcases (by simpa [exRd] using h : f = "code") with rfl <;> assumption⟩ | 6, f, h => ⟨y6, by rcases (by simpa [exRd] using h : f = "name") with rfl <;> assumption⟩ | 7, f, h => ⟨y7, by rcases (by simpa [exRd] using h : f = "value") with rfl <;> assumption⟩ | 8, f, h => ⟨y8, by rcases (by simpa [exRd] using h : f = "value") with rfl <;> assumption⟩ | 9, f, h => ⟨y9, by rcases (by simpa [exRd] using h : f = "value") with rfl <;> assumption⟩ | 10, f, h => ⟨y10, by rcases (by simpa [exRd] using h : f = "code") with rfl <;> assumption⟩ | 11, f, h => ⟨y11, by rcases (by simpa [exRd] using h : f = "first" ∨ f = "second") with rfl | rfl <;> assumption⟩ | 0, f, h => by simp [exRd] at h | n + 12, f, h => by simp [exRd] at h,
    hkit := fun n t b h => (by
      unfold exKit at h
      split at h
      · unfold exKit_1 at h
        split at h
        · cases h; exact ⟨x1, kit_ref hd0 tC0 sb1x1 sb1x0⟩
        · cases h; exact ⟨x1, kit_ref hd1 tC1 sb1x1 sb1x1⟩
        · cases h; exact ⟨x1, kit_ref hd2 tC2 sb1x1 sb1x2⟩
        · cases h; exact ⟨x1, kit_ref hd3 tC3 sb1x1 sb1x3⟩
        · cases h; exact ⟨x1, kit_ref hd4 tC4 sb1x1 sb1x4⟩
        · cases h; exact ⟨x1, kit_ref hd5 tC5 sb1x1 sb1x5⟩
        · cases h; exact ⟨x1, kit_ref hd6 tC6 sb1x1 sb1x6⟩
        · cases h; exact ⟨x1, kit_ref hd7 tC7 sb1x1 sb1x7⟩
        · cases h; exact ⟨x1, kit_ref hd8 tC8 sb1x1 sb1x8⟩
        · cases h; exact ⟨x1, kit_ref hd9 tC9 sb1x1 sb1x9⟩
        · cases h; exact ⟨x1, kit_ref hd10 tC10 sb1x1 sb1x10⟩
        · cases h; exact ⟨x1, kit_ref hd11 tC11 sb1x1 sb1x11⟩
        · cases h
      · unfold exKit_2 at h
        split at h
        · cases h; exact ⟨x2, kit_ref hd0 tC0 sb2x2 sb2x0⟩
        · cases h; exact ⟨x2, kit_ref hd1 tC1 sb2x2 sb2x1⟩
        · cases h; exact ⟨x2, kit_ref hd2 tC2 sb2x2 sb2x2⟩
        · cases h; exact ⟨x2, kit_ref hd3 tC3 sb2x2 sb2x3⟩
        · cases h; exact ⟨x2, kit_ref hd4 tC4 sb2x2 sb2x4⟩
        · cases h; exact ⟨x2, kit_ref hd5 tC5 sb2x2 sb2x5⟩
        · cases h; exact ⟨x2, kit_ref hd6 tC6 sb2x2 sb2x6⟩
        · cases h; exact ⟨x2, kit_ref hd7 tC7 sb2x2 sb2x7⟩
        · cases h; exact ⟨x2, kit_ref hd8 tC8 sb2x2 sb2x8⟩
        · cases h; exact ⟨x2, kit_ref hd9 tC9 sb2x2 sb2x9⟩
        · cases h; exact ⟨x2, kit_ref hd10 tC10 sb2x2 sb2x10⟩
        · cases h; exact ⟨x2, kit_ref hd11 tC11 sb2x2 sb2x11⟩
        · cases h
      · unfold exKit_3 at h
        split at h
        · cases h; exact ⟨x3, kit_ref hd0 tC0 sb3x3 sb3x0⟩
        · cases h; exact ⟨x3, kit_ref hd1 tC1 sb3x3 sb3x1⟩
        · cases h; exact ⟨x3, kit_ref hd2 tC2 sb3x3 sb3x2⟩
        · cases h; exact ⟨x3, kit_ref hd3 tC3 sb3x3 sb3x3⟩
        · cases h; exact ⟨x3, kit_ref hd4 tC4 sb3x3 sb3x4⟩
        · cases h; exact ⟨x3, kit_ref hd5 tC5 sb3x3 sb3x5⟩
        · cases h; exact ⟨x3, kit_ref hd6 tC6 sb3x3 sb3x6⟩
        · cases h; exact ⟨x3, kit_ref hd7 tC7 sb3x3 sb3x7⟩
        · cases h; exact ⟨x3, kit_ref hd8 tC8 sb3x3 sb3x8⟩
        · cases h; exact ⟨x3, kit_ref hd9 tC9 sb3x3 sb3x9⟩
        · cases h; exact ⟨x3, kit_ref hd10 tC10 sb3x3 sb3x10⟩
        · cases h; exact ⟨x3, kit_ref hd11 tC11 sb3x3 sb3x11⟩
        · cases h
      · unfold exKit_4 at h
        split at h
        · cases h; exact ⟨x4, kit_ref hd0 tC0 sb4x4 sb4x0⟩
        · cases h; exact ⟨x4, kit_ref hd1 tC1 sb4x4 sb4x1⟩
        · cases h; exact ⟨x4, kit_ref hd2 tC2 sb4x4 sb4x2⟩
        · cases h; exact ⟨x4, kit_ref hd3 tC3 sb4x4 sb4x3⟩
        · cases h; exact ⟨x4, kit_ref hd4 tC4 sb4x4 sb4x4⟩
        · cases h; exact ⟨x4, kit_ref hd5 tC5 sb4x4 sb4x5⟩
        · cases h; exact ⟨x4, kit_ref hd6 tC6 sb4x4 sb4x6⟩
        · cases h; exact ⟨x4, kit_ref hd7 tC7 sb4x4 sb4x7⟩
        · cases h; exact ⟨x4, kit_ref hd8 tC8 sb4x4 sb4x8⟩
        · cases h; exact ⟨x4, kit_ref hd9 tC9 sb4x4 sb4x9⟩
        · cases h; exact ⟨x4, kit_ref hd10 tC10 sb4x4 sb4x10⟩
        · cases h; exact ⟨x4, kit_ref hd11 tC11 sb4x4 sb4x11⟩
        · cases h
      · unfold exKit_5 at h
        split at h
        · cases h; exact ⟨x5, kit_ref hd0 tC0 sb5x5 sb5x0⟩
        · cases h; exact ⟨x5, kit_ref hd1 tC1 sb5x5 sb5x1⟩
        · cases h; exact ⟨x5, kit_ref hd2 tC2 sb5x5 sb5x2⟩
        · cases h; exact ⟨x5, kit_ref hd3 tC3 sb5x5 sb5x3⟩
        · cases h; exact ⟨x5, kit_ref hd4 tC4 sb5x5 sb5x4⟩
        · cases h; exact ⟨x5, kit_ref hd5 tC5 sb5x5 sb5x5⟩
        · cases h; exact ⟨x5, kit_ref hd6 tC6 sb5x5 sb5x6⟩
        · cases h; exact ⟨x5, kit_ref hd7 tC7 sb5x5 sb5x7⟩
        · cases h; exact ⟨x5, kit_ref hd8 tC8 sb5x5 sb5x8⟩
        · cases h; exact ⟨x5, kit_ref hd9 tC9 sb5x5 sb5x9⟩
        · cases h; exact ⟨x5, kit_ref hd10 tC10 sb5x5 sb5x10⟩
        · cases h; exact ⟨x5, kit_ref hd11 tC11 sb5x5 sb5x11⟩
        · cases h
      · unfold exKit_6 at h
        split at h
        · cases h; exact ⟨x6, kit_ref hd0 tC0 sb6x6 sb6x0⟩
        · cases h; exact ⟨x6, kit_ref hd1 tC1 sb6x6 sb6x1⟩
        · cases h; exact ⟨x6, kit_ref hd2 tC2 sb6x6 sb6x2⟩
        · cases h; exact ⟨x6, kit_ref hd3 tC3 sb6x6 sb6x3⟩
        · cases h; exact ⟨x6, kit_ref hd4 tC4 sb6x6 sb6x4⟩
        · cases h; exact ⟨x6, kit_ref hd5 tC5 sb6x6 sb6x5⟩
        · cases h; exact ⟨x6, kit_ref hd6 tC6 sb6x6 sb6x6⟩
        · cases h; exact ⟨x6, kit_ref hd7 tC7 sb6x6 sb6x7⟩
        · cases h; exact ⟨x6, kit_ref hd8 tC8 sb6x6 sb6x8⟩
        · cases h; exact ⟨x6, kit_ref hd9 tC9 sb6x6 sb6x9⟩
        · cases h; exact ⟨x6, kit_ref hd10 tC10 sb6x6 sb6x10⟩
        · cases h; exact ⟨x6, kit_ref hd11 tC11 sb6x6 sb6x11⟩
        · cases h
      · unfold exKit_7 at h
        split at h
        · cases h; exact ⟨x7, kit_ref hd0 tC0 sb7x7 sb7x0⟩
        · cases h; exact ⟨x7, kit_ref hd1 tC1 sb7x7 sb7x1⟩
        · cases h; exact ⟨x7, kit_ref hd2 tC2 sb7x7 sb7x2⟩
        · cases h; exact ⟨x7, kit_ref hd3 tC3 sb7x7 sb7x3⟩
        · cases h; exact ⟨x7, kit_ref hd4 tC4 sb7x7 sb7x4⟩
        · cases h; exact ⟨x7, kit_ref hd5 tC5 sb7x7 sb7x5⟩
        · cases h; exact ⟨x7, kit_ref hd6 tC6 sb7x7 sb7x6⟩
        · cases h; exact ⟨x7, kit_ref hd7 tC7 sb7x7 sb7x7⟩
        · cases h; exact ⟨x7, kit_ref hd8 tC8 sb7x7 sb7x8⟩
        · cases h; exact ⟨x7, kit_ref hd9 tC9 sb7x7 sb7x9⟩
        · cases h; exact ⟨x7, kit_ref hd10 tC10 sb7x7 sb7x10⟩
        · cases h; exact ⟨x7, kit_ref hd11 tC11 sb7x7 sb7x11⟩
        · cases h
      · unfold exKit_8 at h
        split at h
        · cases h; exact ⟨x8, kit_ref hd0 tC0 sb8x8 sb8x0⟩
        · cases h; exact ⟨x8, kit_ref hd1 tC1 sb8x8 sb8x1⟩
        · cases h; exact ⟨x8, kit_ref hd2 tC2 sb8x8 sb8x2⟩
        · cases h; exact ⟨x8, kit_ref hd3 tC3 sb8x8 sb8x3⟩
        · cases h; exact ⟨x8, kit_ref hd4 tC4 sb8x8 sb8x4⟩
        · cases h; exact ⟨x8, kit_ref hd5 tC5 sb8x8 sb8x5⟩
        · cases h; exact ⟨x8, kit_ref hd6 tC6 sb8x8 sb8x6⟩
        · cases h; exact ⟨x8, kit_ref hd7 tC7 sb8x8 sb8x7⟩
        · cases h; exact ⟨x8, kit_ref hd8 tC8 sb8x8 sb8x8⟩
        · cases h; exact ⟨x8, kit_ref hd9 tC9 sb8x8 sb8x9⟩
        · cases h; exact ⟨x8, kit_ref hd10 tC10 sb8x8 sb8x10⟩
        · cases h; exact ⟨x8, kit_ref hd11 tC11 sb8x8 sb8x11⟩
        · cases h
      · unfold exKit_9 at h
        split at h
        · cases h; exact ⟨x9, kit_ref hd0 tC0 sb9x9 sb9x0⟩
        · cases h; exact ⟨x9, kit_ref hd1 tC1 sb9x9 sb9x1⟩
        · cases h; exact ⟨x9, kit_ref hd2 tC2 sb9x9 sb9x2⟩
        · cases h; exact ⟨x9, kit_ref hd3 tC3 sb9x9 sb9x3⟩
        · cases h; exact ⟨x9, kit_ref hd4 tC4 sb9x9 sb9x4⟩
        · cases h; exact ⟨x9, kit_ref hd5 tC5 sb9x9 sb9x5⟩
        · cases h; exact ⟨x9, kit_ref hd6 tC6 sb9x9 sb9x6⟩
        · cases h; exact ⟨x9, kit_ref hd7 tC7 sb9x9 sb9x7⟩
        · cases h; exact ⟨x9, kit_ref hd8 tC8 sb9x9 sb9x8⟩
        · cases h; exact ⟨x9, kit_ref hd9 tC9 sb9x9 sb9x9⟩
        · cases h; exact ⟨x9, kit_ref hd10 tC10 sb9x9 sb9x10⟩
        · cases h; exact ⟨x9, kit_ref hd11 tC11 sb9x9 sb9x11⟩
        · cases h
      · unfold exKit_10 at h
        split at h
        · cases h; exact ⟨x10, kit_ref hd0 tC0 sb10x10 sb10x0⟩
        · cases h; exact ⟨x10, kit_ref hd1 tC1 sb10x10 sb10x1⟩
        · cases h; exact ⟨x10, kit_ref hd2 tC2 sb10x10 sb10x2⟩
        · cases h; exact ⟨x10, kit_ref hd3 tC3 sb10x10 sb10x3⟩
        · cases h; exact ⟨x10, kit_ref hd4 tC4 sb10x10 sb10x4⟩
        · cases h; exact ⟨x10, kit_ref hd5 tC5 sb10x10 sb10x5⟩
        · cases h; exact ⟨x10, kit_ref hd6 tC6 sb10x10 sb10x6⟩
        · cases h; exact ⟨x10, kit_ref hd7 tC7 sb10x10 sb10x7⟩
        · cases h; exact ⟨x10, kit_ref hd8 tC8 sb10x10 sb10x8⟩
        · cases h; exact ⟨x10, kit_ref hd9 tC9 sb10x10 sb10x9⟩
        · cases h; exact ⟨x10, kit_ref hd10 tC10 sb10x10 sb10x10⟩
        · cases h; exact ⟨x10, kit_ref hd11 tC11 sb10x10 sb10x11⟩
        · cases h
      · unfold exKit_11 at h
        split at h
        · cases h; exact ⟨x11, kit_ref hd0 tC0 sb11x11 sb11x0⟩
        · cases h; exact ⟨x11, kit_ref hd1 tC1 sb11x11 sb11x1⟩
        · cases h; exact ⟨x11, kit_ref hd2 tC2 sb11x11 sb11x2⟩
        · cases h; exact ⟨x11, kit_ref hd3 tC3 sb11x11 sb11x3⟩
        · cases h; exact ⟨x11, kit_ref hd4 tC4 sb11x11 sb11x4⟩
        · cases h; exact ⟨x11, kit_ref hd5 tC5 sb11x11 sb11x5⟩
        · cases h; exact ⟨x11, kit_ref hd6 tC6 sb11x11 sb11x6⟩
        · cases h; exact ⟨x11, kit_ref hd7 tC7 sb11x11 sb11x7⟩
        · cases h; exact ⟨x11, kit_ref hd8 tC8 sb11x11 sb11x8⟩
        · cases h; exact ⟨x11, kit_ref hd9 tC9 sb11x11 sb11x9⟩
        · cases h; exact ⟨x11, kit_ref hd10 tC10 sb11x11 sb11x10⟩
        · cases h; exact ⟨x11, kit_ref hd11 tC11 sb11x11 sb11x11⟩
        · cases h
      · cases h),
    hsub_0 := fun n b h => match n, h with | 1, h => by cases h; exact PySem.W.exm_ref eC0 hd0 tC0 sb1x0 | 2, h => by cases h; exact PySem.W.exm_ref eC0 hd0 tC0 sb2x0 | 3, h => by cases h; exact PySem.W.exm_ref eC0 hd0 tC0 sb3x0 | 4, h => by cases h; exact PySem.W.exm_ref eC0 hd0 tC0 sb4x0 | 5, h => by cases h; exact PySem.W.exm_ref eC0 hd0 tC0 sb5x0 | 6, h => by cases h; exact PySem.W.exm_ref eC0 hd0 tC0 sb6x0 | 7, h => by cases h; exact PySem.W.exm_ref eC0 hd0 tC0 sb7x0 | 8, h => by cases h; exact PySem.W.exm_ref eC0 hd0 tC0 sb8x0 | 9, h => by cases h; exact PySem.W.exm_ref eC0 hd0 tC0 sb9x0 | 10, h => by cases h; exact PySem.W.exm_ref eC0 hd0 tC0 sb10x0 | 11, h => by cases h; exact PySem.W.exm_ref eC0 hd0 tC0 sb11x0 | 0, h => by cases h | n + 12, h => by simp [exSub_0, exKit] at h,
    hsub_1 := fun n b h => match n, h with | 1, h => by cases h; exact PySem.W.exm_ref eC1 hd1 tC1 sb1x1 | 2, h => by cases h; exact PySem.W.exm_ref eC1 hd1 tC1 sb2x1 | 3, h => by cases h; exact PySem.W.exm_ref eC1 hd1 tC1 sb3x1 | 4, h => by cases h; exact PySem.W.exm_ref eC1 hd1 tC1 sb4x1 | 5, h => by cases h; exact PySem.W.exm_ref eC1 hd1 tC1 sb5x1 | 6, h => by cases h; exact PySem.W.exm_ref eC1 hd1 tC1 sb6x1 | 7, h => by cases h; exact PySem.W.exm_ref eC1 hd1 tC1 sb7x1 | 8, h => by cases h; exact PySem.W.exm_ref eC1 hd1 tC1 sb8x1 | 9, h => by cases h; exact PySem.W.exm_ref eC1 hd1 tC1 sb9x1 | 10, h => by cases h; exact PySem.W.exm_ref eC1 hd1 tC1 sb10x1 | 11, h => by cases h; exact PySem.W.exm_ref eC1 hd1 tC1 sb11x1 | 0, h => by cases h | n + 12, h => by simp [exSub_1, exKit] at h,
    hsub_2 := fun n b h => match n, h with | 1, h => by cases h; exact PySem.W.exm_ref eC2 hd2 tC2 sb1x2 | 2, h => by cases h; exact PySem.W.exm_ref eC2 hd2 tC2 sb2x2 | 3, h => by cases h; exact PySem.W.exm_ref eC2 hd2 tC2 sb3x2 | 4, h => by cases h; exact PySem.W.exm_ref eC2 hd2 tC2 sb4x2 | 5, h => by cases h; exact PySem.W.exm_ref eC2 hd2 tC2 sb5x2 | 6, h => by cases h; exact PySem.W.exm_ref eC2 hd2 tC2 sb6x2 | 7, h => by cases h; exact PySem.W.exm_ref eC2 hd2 tC2 sb7x2 | 8, h => by cases h; exact PySem.W.exm_ref eC2 hd2 tC2 sb8x2 | 9, h => by cases h; exact PySem.W.exm_ref eC2 hd2 tC2 sb9x2 | 10, h => by cases h; exact PySem.W.exm_ref eC2 hd2 tC2 sb10x2 | 11, h => by cases h; exact PySem.W.exm_ref eC2 hd2 tC2 sb11x2 | 0, h => by cases h | n + 12, h => by simp [exSub_2, exKit] at h,
    hsub_3 := fun n b h => match n, h with | 1, h => by cases h; exact PySem.W.exm_ref eC3 hd3 tC3 sb1x3 | 2, h => by cases h; exact PySem.W.exm_ref eC3 hd3 tC3 sb2x3 | 3, h => by cases h; exact PySem.W.exm_ref eC3 hd3 tC3 sb3x3 | 4, h => by cases h; exact PySem.W.exm_ref eC3 hd3 tC3 sb4x3 | 5, h => by cases h; exact PySem.W.exm_ref eC3 hd3 tC3 sb5x3 | 6, h => by cases h; exact PySem.W.exm_ref eC3 hd3 tC3 sb6x3 | 7, h => by cases h; exact PySem.W.exm_ref eC3 hd3 tC3 sb7x3 | 8, h => by cases h; exact PySem.W.exm_ref eC3 hd3 tC3 sb8x3 | 9, h => by cases h; exact PySem.W.exm_ref eC3 hd3 tC3 sb9x3 | 10, h => by cases h; exact PySem.W.exm_ref eC3 hd3 tC3 sb10x3 | 11, h => by cases h; exact PySem.W.exm_ref eC3 hd3 tC3 sb11x3 | 0, h => by cases h | n + 12, h => by simp [exSub_3, exKit] at h,
    hsub_4 := fun n b h => match n, h with | 1, h => by cases h; exact PySem.W.exm_ref eC4 hd4 tC4 sb1x4 | 2, h => by cases h; exact PySem.W.exm_ref eC4 hd4 tC4 sb2x4 | 3, h => by cases h; exact PySem.W.exm_ref eC4 hd4 tC4 sb3x4 | 4, h => by cases h; exact PySem.W.exm_ref eC4 hd4 tC4 sb4x4 | 5, h => by cases h; exact PySem.W.exm_ref eC4 hd4 tC4 sb5x4 | 6, h => by cases h; exact PySem.W.exm_ref eC4 hd4 tC4 sb6x4 | 7, h => by cases h; exact PySem.W.exm_ref eC4 hd4 tC4 sb7x4 | 8, h => by cases h; exact PySem.W.exm_ref eC4 hd4 tC4 sb8x4 | 9, h => by cases h; exact PySem.W.exm_ref eC4 hd4 tC4 sb9x4 | 10, h => by cases h; exact PySem.W.exm_ref eC4 hd4 tC4 sb10x4 | 11, h => by cases h; exact PySem.W.exm_ref eC4 hd4 tC4 sb11x4 | 0, h => by cases h | n + 12, h => by simp [exSub_4, exKit] at h,
    hsub_5 := fun n b h => match n, h with | 1, h => by cases h; exact PySem.W.exm_ref eC5 hd5 tC5 sb1x5 | 2, h => by cases h; exact PySem.W.exm_ref eC5 hd5 tC5 sb2x5 | 3, h => by cases h; exact PySem.W.exm_ref eC5 hd5 tC5 sb3x5 | 4, h => by cases h; exact PySem.W.exm_ref eC5 hd5 tC5 sb4x5 | 5, h => by cases h; exact PySem.W.exm_ref eC5 hd5 tC5 sb5x5 | 6, h => by cases h; exact PySem.W.exm_ref eC5 hd5 tC5 sb6x5 | 7, h => by cases h; exact PySem.W.exm_ref eC5 hd5 tC5 sb7x5 | 8, h => by cases h; exact PySem.W.exm_ref eC5 hd5 tC5 sb8x5 | 9, h => by cases h; exact PySem.W.exm_ref eC5 hd5 tC5 sb9x5 | 10, h => by cases h; exact PySem.W.exm_ref eC5 hd5 tC5 sb10x5 | 11, h => by cases h; exact PySem.W.exm_ref eC5 hd5 tC5 sb11x5 | 0, h => by cases h | n + 12, h => by simp [exSub_5, exKit] at h,
    hsub_6 := fun n b h => match n, h with | 1, h => by cases h; exact PySem.W.exm_ref eC6 hd6 tC6 sb1x6 | 2, h => by cases h; exact PySem.W.exm_ref eC6 hd6 tC6 sb2x6 | 3, h => by cases h; exact PySem.W.exm_ref eC6 hd6 tC6 sb3x6 | 4, h => by cases h; exact PySem.W.exm_ref eC6 hd6 tC6 sb4x6 | 5, h => by cases h; exact PySem.W.exm_ref eC6 hd6 tC6 sb5x6 | 6, h => by cases h; exact PySem.W.exm_ref eC6 hd6 tC6 sb6x6 | 7, h => by cases h; exact PySem.W.exm_ref eC6 hd6 tC6 sb7x6 | 8, h => by cases h; exact PySem.W.exm_ref eC6 hd6 tC6 sb8x6 | 9, h => by cases h; exact PySem.W.exm_ref eC6 hd6 tC6 sb9x6 | 10, h => by cases h; exact PySem.W.exm_ref eC6 hd6 tC6 sb10x6 | 11, h => by cases h; exact PySem.W.exm_ref eC6 hd6 tC6 sb11x6 | 0, h => by cases h | n + 12, h => by simp [exSub_6, exKit] at h,
    hsub_7 := fun n b h => match n, h with | 1, h => by cases h; exact PySem.W.exm_ref eC7 hd7 tC7 sb1x7 | 2, h => by cases h; exact PySem.W.exm_ref eC7 hd7 tC7 sb2x7 | 3, h => by cases h; exact PySem.W.exm_ref eC7 hd7 tC7 sb3x7 | 4, h => by cases h; exact PySem.W.exm_ref eC7 hd7 tC7 sb4x7 | 5, h => by cases h; exact PySem.W.exm_ref eC7 hd7 tC7 sb5x7 | 6, h => by cases h; exact PySem.W.exm_ref eC7 hd7 tC7 sb6x7 | 7, h => by cases h; exact PySem.W.exm_ref eC7 hd7 tC7 sb7x7 | 8, h => by cases h; exact PySem.W.exm_ref eC7 hd7 tC7 sb8x7 | 9, h => by cases h; exact PySem.W.exm_ref eC7 hd7 tC7 sb9x7 | 10, h => by cases h; exact PySem.W.exm_ref eC7 hd7 tC7 sb10x7 | 11, h => by cases h; exact PySem.W.exm_ref eC7 hd7 tC7 sb11x7 | 0, h => by cases h | n + 12, h => by simp [exSub_7, exKit] at h,
    hsub_8 := fun n b h => match n, h with | 1, h => by cases h; exact PySem.W.exm_ref eC8 hd8 tC8 sb1x8 | 2, h => by cases h; exact PySem.W.exm_ref eC8 hd8 tC8 sb2x8 | 3, h => by cases h; exact PySem.W.exm_ref eC8 hd8 tC8 sb3x8 | 4, h => by cases h; exact PySem.W.exm_ref eC8 hd8 tC8 sb4x8 | 5, h => by cases h; exact PySem.W.exm_ref eC8 hd8 tC8 sb5x8 | 6, h => by cases h; exact PySem.W.exm_ref eC8 hd8 tC8 sb6x8 | 7, h => by cases h; exact PySem.W.exm_ref eC8 hd8 tC8 sb7x8 | 8, h => by cases h; exact PySem.W.exm_ref eC8 hd8 tC8 sb8x8 | 9, h => by cases h; exact PySem.W.exm_ref eC8 hd8 tC8 sb9x8 | 10, h => by cases h; exact PySem.W.exm_ref eC8 hd8 tC8 sb10x8 | 11, h => by cases h; exact PySem.W.exm_ref eC8 hd8 tC8 sb11x8 | 0, h => by cases h | n + 12, h => by simp [exSub_8, exKit] at h,
    hsub_9 := fun n b h => match n, h with | 1, h => by cases h; exact PySem.W.exm_ref eC9 hd9 tC9 sb1x9 | 2, h => by cases h; exact PySem.W.exm_ref eC9 hd9 tC9 sb2x9 | 3, h => by cases h; exact PySem.W.exm_ref eC9 hd9 tC9 sb3x9 | 4, h => by cases h; exact PySem.W.exm_ref eC9 hd9 tC9 sb4x9 | 5, h => by cases h; exact PySem.W.exm_ref eC9 hd9 tC9 sb5x9 | 6, h => by cases h; exact PySem.W.exm_ref eC9 hd9 tC9 sb6x9 | 7, h => by cases h; exact PySem.W.exm_ref eC9 hd9 tC9 sb7x9 | 8, h => by cases h; exact PySem.W.exm_ref eC9 hd9 tC9 sb8x9 | 9, h => by cases h; exact PySem.W.exm_ref eC9 hd9 tC9 sb9x9 | 10, h => by cases h; exact PySem.W.exm_ref eC9 hd9 tC9 sb10x9 | 11, h => by cases h; exact PySem.W.exm_ref eC9 hd9 tC9 sb11x9 | 0, h => by cases h | n + 12, h => by simp [exSub_9, exKit] at h,
    hsub_10 := fun n b h => match n, h with | 1, h => by cases h; exact PySem.W.exm_ref eC10 hd10 tC10 sb1x10 | 2, h => by cases h; exact PySem.W.exm_ref eC10 hd10 tC10 sb2x10 | 3, h => by cases h; exact PySem.W.exm_ref eC10 hd10 tC10 sb3x10 | 4, h => by cases h; exact PySem.W.exm_ref eC10 hd10 tC10 sb4x10 | 5, h => by cases h; exact PySem.W.exm_ref eC10 hd10 tC10 sb5x10 | 6, h => by cases h; exact PySem.W.exm_ref eC10 hd10 tC10 sb6x10 | 7, h => by cases h; exact PySem.W.exm_ref eC10 hd10 tC10 sb7x10 | 8, h => by cases h; exact PySem.W.exm_ref eC10 hd10 tC10 sb8x10 | 9, h => by cases h; exact PySem.W.exm_ref eC10 hd10 tC10 sb9x10 | 10, h => by cases h; exact PySem.W.exm_ref eC10 hd10 tC10 sb10x10 | 11, h => by cases h; exact PySem.W.exm_ref eC10 hd10 tC10 sb11x10 | 0, h => by cases h | n + 12, h => by simp [exSub_10, exKit] at h,
    hsub_11 := fun n b h => match n, h with | 1, h => by cases h; exact PySem.W.exm_ref eC11 hd11 tC11 sb1x11 | 2, h => by cases h; exact PySem.W.exm_ref eC11 hd11 tC11 sb2x11 | 3, h => by cases h; exact PySem.W.exm_ref eC11 hd11 tC11 sb3x11 | 4, h => by cases h; exact PySem.W.exm_ref eC11 hd11 tC11 sb4x11 | 5, h => by cases h; exact PySem.W.exm_ref eC11 hd11 tC11 sb5x11 | 6, h => by cases h; exact PySem.W.exm_ref eC11 hd11 tC11 sb6x11 | 7, h => by cases h; exact PySem.W.exm_ref eC11 hd11 tC11 sb7x11 | 8, h => by cases h; exact PySem.W.exm_ref eC11 hd11 tC11 sb8x11 | 9, h => by cases h; exact PySem.W.exm_ref eC11 hd11 tC11 sb9x11 | 10, h => by cases h; exact PySem.W.exm_ref eC11 hd11 tC11 sb10x11 | 11, h => by cases h; exact PySem.W.exm_ref eC11 hd11 tC11 sb11x11 | 0, h => by cases h | n + 12, h => by simp [exSub_11, exKit] at h,
    f_in_order := _, d_in_order := _, g_in_order := PySem.W.mg_of X G a1, F_in_order := F1, b_in_order := F1.binds fun _ _ _ _ _ _ us hl => match us, hl with | [_], _ => rfl,
    f_told_by_first := _, d_told_by_first := _, g_told_by_first := PySem.W.mg_of X G a2, F_told_by_first := F2, b_told_by_first := F2.binds fun _ _ _ _ _ _ us hl => match us, hl with | [_], _ => rfl,
    f_kept_by := _, d_kept_by := _, g_kept_by := PySem.W.mg_of X G a3, F_kept_by := F3, b_kept_by := F3.binds fun _ _ _ _ _ _ us hl => match us, hl with | [_], _ => rfl,
    f_Bridge___init__ := _, d_Bridge___init__ := _, F_Bridge___init__ := F4, b_Bridge___init__ := F4.binds fun _ _ _ _ _ _ us hl => match us, hl with | [_, _, _], _ => rfl,
    f_Bridge_keeps := _, d_Bridge_keeps := _, F_Bridge_keeps := F5, b_Bridge_keeps := F5.binds fun _ _ _ _ _ _ us hl => match us, hl with | [_], _ => rfl,
    f_Bridge___call__ := _, d_Bridge___call__ := _, F_Bridge___call__ := F6, b_Bridge___call__ := F6.binds fun _ _ _ _ _ _ us hl => match us, hl with | [_, _], _ => rfl,
    f_Bridge_back := _, d_Bridge_back := _, F_Bridge_back := F7, b_Bridge_back := F7.binds fun _ _ _ _ _ _ us hl => match us, hl with | [_], _ => rfl,
    f_is_word := _, d_is_word := _, g_is_word := PySem.W.mg_of X G a8, F_is_word := F8, b_is_word := F8.binds fun _ _ _ _ _ _ us hl => match us, hl with | [_], _ => rfl,
    f_is_value := _, d_is_value := _, g_is_value := PySem.W.mg_of X G a9, F_is_value := F9, b_is_value := F9.binds fun _ _ _ _ _ _ us hl => match us, hl with | [_, _], _ => rfl,
    f_check_room := _, d_check_room := _, g_check_room := PySem.W.mg_of X G a10, F_check_room := F10, b_check_room := F10.binds fun _ _ _ _ _ _ us hl => match us, hl with | [_], _ => rfl,
    f_is_code := _, d_is_code := _, g_is_code := PySem.W.mg_of X G a11, F_is_code := F11, b_is_code := F11.binds fun _ _ _ _ _ _ us hl => match us, hl with | [_], _ => rfl,
    f_Book___init__ := _, d_Book___init__ := _, F_Book___init__ := F12, b_Book___init__ := bindsV lDT12 fun us hl => match us, hl with | [_, _, _, _], _ => ⟨_, rfl, rfl⟩,
    ad_Book___init__ := AE12, ud_Book___init__ := .ref AE12, b2_Book___init__ := bindsD lDT12 fun us hl => match us, hl with | [_, _, _], _ => ⟨_, rfl, rfl⟩ | _ :: _ :: _ :: _ :: _, h => absurd h (by simp only [List.cons_append, List.length_cons, List.length_append, List.length_nil]; omega), hv2_Book___init__ := .cons rfl .nil, ho2_Book___init__ := .cons (nilT (.inr ⟨_, _, _, lE12, rfl, rfl, sz_le (by decide : 0 ≤ 1000000), .nil⟩)) .nil,
    f_Book_counted := _, d_Book_counted := _, F_Book_counted := F13, b_Book_counted := F13.binds fun _ _ _ _ _ _ us hl => match us, hl with | [_, _, _, _], _ => rfl,
    f_Book___contains__ := _, d_Book___contains__ := _, F_Book___contains__ := F14, b_Book___contains__ := F14.binds fun _ _ _ _ _ _ us hl => match us, hl with | [_, _], _ => rfl,
    f_Book_code_of := _, d_Book_code_of := _, F_Book_code_of := F15, b_Book_code_of := F15.binds fun _ _ _ _ _ _ us hl => match us, hl with | [_, _], _ => rfl,
    f_Book_value_of := _, d_Book_value_of := _, F_Book_value_of := F16, b_Book_value_of := F16.binds fun _ _ _ _ _ _ us hl => match us, hl with | [_, _], _ => rfl,
    f_l_take := _, d_l_take := _, g_l_take := PySem.W.mg_of X G a17, F_l_take := F17, b_l_take := F17.binds fun _ _ _ _ _ _ us hl => match us, hl with | [_, _], _ => rfl,
    f_l_same := _, d_l_same := _, g_l_same := PySem.W.mg_of X G a18, F_l_same := F18, b_l_same := F18.binds fun _ _ _ _ _ _ us hl => match us, hl with | [_, _], _ => rfl,
    f_l_values := _, d_l_values := _, g_l_values := PySem.W.mg_of X G a19, F_l_values := F19, b_l_values := F19.binds fun _ _ _ _ _ _ us hl => match us, hl with | [_, _, _], _ => rfl,
    f_l_entries := _, d_l_entries := _, g_l_entries := PySem.W.mg_of X G a20, F_l_entries := F20, b_l_entries := F20.binds fun _ _ _ _ _ _ us hl => match us, hl with | [_, _, _], _ => rfl,
    f_l_room := _, d_l_room := _, g_l_room := PySem.W.mg_of X G a21, F_l_room := F21, b_l_room := F21.binds fun _ _ _ _ _ _ us hl => match us, hl with | [_, _], _ => rfl,
    f_l_code := _, d_l_code := _, g_l_code := PySem.W.mg_of X G a22, F_l_code := F22, b_l_code := F22.binds fun _ _ _ _ _ _ us hl => match us, hl with | [_, _], _ => rfl,
    f_l_pairs := _, d_l_pairs := _, g_l_pairs := PySem.W.mg_of X G a23, F_l_pairs := F23, b_l_pairs := F23.binds fun _ _ _ _ _ _ us hl => match us, hl with | [_, _], _ => rfl,
    f_l_kept := _, d_l_kept := _, g_l_kept := PySem.W.mg_of X G a24, F_l_kept := F24, b_l_kept := F24.binds fun _ _ _ _ _ _ us hl => match us, hl with | [_], _ => rfl,
    f_l_no_code := _, d_l_no_code := _, g_l_no_code := PySem.W.mg_of X G a25, F_l_no_code := F25, b_l_no_code := F25.binds fun _ _ _ _ _ _ us hl => match us, hl with | [_, _], _ => rfl,
    f_l_right := _, d_l_right := _, g_l_right := PySem.W.mg_of X G a26, F_l_right := F26, b_l_right := F26.binds fun _ _ _ _ _ _ us hl => match us, hl with | [_, _, _], _ => rfl,
    f_l_refused := _, d_l_refused := _, g_l_refused := PySem.W.mg_of X G a27, F_l_refused := F27, b_l_refused := F27.binds fun _ _ _ _ _ _ us hl => match us, hl with | [_, _, _], _ => rfl,
    f_l_counted := _, d_l_counted := _, g_l_counted := PySem.W.mg_of X G a28, F_l_counted := F28, b_l_counted := F28.binds fun _ _ _ _ _ _ us hl => match us, hl with | [_], _ => rfl,
    f_law := _, d_law := _, g_law := PySem.W.mg_of X G a29, F_law := F29, b_law := F29.binds fun _ _ _ _ _ _ us hl => match us, hl with | [_], _ => rfl,
    n_abs := PySem.W.mg_none_of X G z0,
    n_all := PySem.W.mg_none_of X G z1,
    n_bool := PySem.W.mg_none_of X G z2,
    n_int := PySem.W.mg_none_of X G z3,
    n_isinstance := PySem.W.mg_none_of X G z4,
    n_len := PySem.W.mg_none_of X G z5,
    n_list := PySem.W.mg_none_of X G z6,
    n_max := PySem.W.mg_none_of X G z7,
    n_min := PySem.W.mg_none_of X G z8,
    n_range := PySem.W.mg_none_of X G z9,
    n_sorted := PySem.W.mg_none_of X G z10,
    n_str := PySem.W.mg_none_of X G z11,
    n_tuple := PySem.W.mg_none_of X G z12,
    n_zip := PySem.W.mg_none_of X G z13,
    cl_Bridge := by rw [eK0]; exact ⟨pg0, hK0, po0, sK0⟩,
    gK_Bridge := by rw [eK0]; exact PySem.W.mg_of X G aK0,
    mk_Bridge := by rw [eK0]; exact ⟨mK0, fM4, iM4, kK0⟩,
    p_Bridge_keeps := _, pr_Bridge_keeps := by rw [eK0]; exact ⟨fM5, gM5, tM5, _, rM5⟩,
    me_Bridge___call__ := by rw [eK0]; exact ⟨fM6, iM6, k6⟩,
    me_Bridge_back := by rw [eK0]; exact ⟨fM7, iM7, k7⟩,
    cr_Book := by rw [eK1]; exact ⟨rdK1, gaK1⟩,
    cl_Book := by rw [eK1]; exact ⟨pg1, hK1, po1, sK1⟩,
    gK_Book := by rw [eK1]; exact PySem.W.mg_of X G aK1,
    mk_Book := by rw [eK1]; exact ⟨mK1, fM12, iM12, kK1⟩,
    p_Book_counted := _, cm_Book_counted := by rw [eK1]; exact ⟨fM13, ⟨_, rM13⟩, iM13⟩,
    me_Book___contains__ := by rw [eK1]; exact ⟨fM14, iM14, k14⟩,
    me_Book_code_of := by rw [eK1]; exact ⟨fM15, iM15, k15⟩,
    me_Book_value_of := by rw [eK1]; exact ⟨fM16, iM16, k16⟩,
    ft := fun C f h => by
      simp only [exFt, Bool.or_eq_true, Bool.and_eq_true, decide_eq_true_eq, or_assoc] at h
      rcases h with ⟨rfl, h⟩ | ⟨rfl, h⟩
      · rw [eK0]
        refine ⟨⟨pg0, hK0, po0, sK0⟩, ?_⟩
        rcases h with rfl | rfl | rfl <;> assumption
      · rw [eK1]
        refine ⟨⟨pg1, hK1, po1, sK1⟩, ?_⟩
        rcases h with rfl | rfl | rfl | rfl | rfl | rfl <;> assumption
,
    t_GREATEST := tkGREATEST, c_GREATEST := PySem.W.mg_of X G eGREATEST,
    t_LEAST := tkLEAST, c_LEAST := PySem.W.mg_of X G eLEAST,
    t_LETTERS := tkLETTERS, c_LETTERS := PySem.W.mg_of X G eLETTERS,
    t_LONGEST := tkLONGEST, c_LONGEST := PySem.W.mg_of X G eLONGEST,
    t_MOST_CODE := tkMOST_CODE, c_MOST_CODE := PySem.W.mg_of X G eMOST_CODE,
    t_MOST_ROOM := tkMOST_ROOM, c_MOST_ROOM := PySem.W.mg_of X G eMOST_ROOM,
    a_DOMAINS := _, c_DOMAINS := PySem.W.mg_of X G eDOMAINS, l_DOMAINS := .inr ⟨_, _, _, LDOMAINS, rfl, rfl, sz_le (by decide : 2 ≤ 1000000), (.cons ⟨_, rfl⟩ (.cons ⟨_, rfl⟩ .nil))⟩, r_DOMAINS := fun z F => (.cons (.str _) (.cons (.str _) .nil)),
    co_MOST := fun C i h => by
      unfold mc_MOST at h
      split at h
      · rename_i e; subst e; cases h; rw [eK1]; exact ⟨⟨pg1, hK1, po1, sK1⟩, _, fcMOST1, ⟨_, rfl⟩, gcMOST1, by decide⟩
      cases h }
  exact ⟨_, fun s v => .of_eq rfl, fun base _ _ => ok_law T⟩
end K17
open PySem PySem.W PyProof.Rows
set_option maxHeartbeats 0 in
theorem PySem.Challenge.cw_colonnade_k17_bridges_holds : PySem.Challenge.rw_colonnade_k17_bridges.Holds := by
  w_on; o_law; k_head; (case hw => w_witness2)
  k_fill
  refine L2.walk_of (l := PySem.Challenge.rw_colonnade_k17_bridges) (n := 63) (k := 10) (x := "_law_script") (CX := fun _ => L2.CX0) (sp := fun w => DL.spOf _ 1 DL.fsLaw) rfl (by decide) rfl ⟨rfl, by decide, by decide⟩ (fun w h Y => PySem.W.kIn_of Y) ?F (fun _ _ a ns hl _ hS => DL.law_sp hl hS) (fun _ _ _ _ _ h => h)
  case F =>
    intro w mg fa h KX G hmg
    refine' K17.all_mk KX G hmg ?eDOMAINS ?LDOMAINS ?eGREATEST ?eLEAST ?eLETTERS ?eLONGEST ?eMOST_CODE ?eMOST_ROOM ?aK0 ?pg0 ?hK0 ?po0 ?sK0 ?mK0 ?kK0 ?fM4 ?iM4 ?fM5 ?gM5 ?tM5 ?rM5 ?fM6 ?iM6 ?fM7 ?iM7 ?nA0x0 ?nA0x1 ?nA0x2 ?aK1 ?pg1 ?hK1 ?po1 ?sK1 ?rdK1 ?gaK1 ?mK1 ?kK1 ?fM12 ?iM12 ?fM13 ?rM13 ?iM13 ?fM14 ?iM14 ?fM15 ?iM15 ?fM16 ?iM16 ?fcMOST1 ?gcMOST1 ?nA1x0 ?nA1x1 ?nA1x2 ?nA1x3 ?nA1x4 ?nA1x5 ?a1 ?l1 ?c1 ?k1 ?a2 ?l2 ?c2 ?k2 ?a3 ?l3 ?c3 ?k3 ?l4 ?c4 ?k4 ?l5 ?c5 ?k5 ?l6 ?c6 ?k6 ?l7 ?c7 ?k7 ?a8 ?l8 ?c8 ?k8 ?a9 ?l9 ?c9 ?k9 ?a10 ?l10 ?c10 ?k10 ?a11 ?l11 ?c11 ?k11 ?l12 ?c12 ?k12 ?lDT12 ?lE12 ?l13 ?c13 ?k13 ?l14 ?c14 ?k14 ?l15 ?c15 ?k15 ?l16 ?c16 ?k16 ?a17 ?l17 ?c17 ?k17 ?a18 ?l18 ?c18 ?k18 ?a19 ?l19 ?c19 ?k19 ?a20 ?l20 ?c20 ?k20 ?a21 ?l21 ?c21 ?k21 ?a22 ?l22 ?c22 ?k22 ?a23 ?l23 ?c23 ?k23 ?a24 ?l24 ?c24 ?k24 ?a25 ?l25 ?c25 ?k25 ?a26 ?l26 ?c26 ?k26 ?a27 ?l27 ?c27 ?k27 ?a28 ?l28 ?c28 ?k28 ?a29 ?l29 ?c29 ?k29 ?aC0 ?aC1 ?aC2 ?aC3 ?aC4 ?aC5 ?aC6 ?aC7 ?aC8 ?aC9 ?aC10 ?aC11 ?eC0 ?tC0 ?hd0 ?eC1 ?tC1 ?hd1 ?eC2 ?tC2 ?hd2 ?eC3 ?tC3 ?hd3 ?eC4 ?tC4 ?hd4 ?eC5 ?tC5 ?hd5 ?eC6 ?tC6 ?hd6 ?eC7 ?tC7 ?hd7 ?eC8 ?tC8 ?hd8 ?eC9 ?tC9 ?hd9 ?eC10 ?tC10 ?hd10 ?eC11 ?tC11 ?hd11 ?gN ?gT ?xL1 ?sa1 ?ga1 ?gg1 ?hc1 ?hm1 ?kC1 ?nb1name ?iI1 ?tI1 ?lI1 ?cI1 ?kI1 ?sb1x0 ?sb1x1 ?sb1x2 ?sb1x3 ?sb1x4 ?sb1x5 ?sb1x6 ?sb1x7 ?sb1x8 ?sb1x9 ?sb1x10 ?sb1x11 ?xL2 ?sa2 ?ga2 ?gg2 ?hc2 ?hm2 ?kC2 ?nb2value ?iI2 ?tI2 ?lI2 ?cI2 ?kI2 ?sb2x0 ?sb2x1 ?sb2x2 ?sb2x3 ?sb2x4 ?sb2x5 ?sb2x6 ?sb2x7 ?sb2x8 ?sb2x9 ?sb2x10 ?sb2x11 ?xL3 ?sa3 ?ga3 ?gg3 ?hc3 ?hm3 ?kC3 ?nb3domain ?iI3 ?tI3 ?lI3 ?cI3 ?kI3 ?sb3x0 ?sb3x1 ?sb3x2 ?sb3x3 ?sb3x4 ?sb3x5 ?sb3x6 ?sb3x7 ?sb3x8 ?sb3x9 ?sb3x10 ?sb3x11 ?xL4 ?sa4 ?ga4 ?gg4 ?hc4 ?hm4 ?kC4 ?nb4room ?iI4 ?tI4 ?lI4 ?cI4 ?kI4 ?sb4x0 ?sb4x1 ?sb4x2 ?sb4x3 ?sb4x4 ?sb4x5 ?sb4x6 ?sb4x7 ?sb4x8 ?sb4x9 ?sb4x10 ?sb4x11 ?xL5 ?sa5 ?ga5 ?gg5 ?hc5 ?hm5 ?kC5 ?nb5code ?iI5 ?tI5 ?lI5 ?cI5 ?kI5 ?sb5x0 ?sb5x1 ?sb5x2 ?sb5x3 ?sb5x4 ?sb5x5 ?sb5x6 ?sb5x7 ?sb5x8 ?sb5x9 ?sb5x10 ?sb5x11 ?xL6 ?sa6 ?ga6 ?gg6 ?hc6 ?hm6 ?kC6 ?nb6name ?iI6 ?tI6 ?lI6 ?cI6 ?kI6 ?sb6x0 ?sb6x1 ?sb6x2 ?sb6x3 ?sb6x4 ?sb6x5 ?sb6x6 ?sb6x7 ?sb6x8 ?sb6x9 ?sb6x10 ?sb6x11 ?xL7 ?sa7 ?ga7 ?gg7 ?hc7 ?hm7 ?kC7 ?nb7value ?iI7 ?tI7 ?lI7 ?cI7 ?kI7 ?sb7x0 ?sb7x1 ?sb7x2 ?sb7x3 ?sb7x4 ?sb7x5 ?sb7x6 ?sb7x7 ?sb7x8 ?sb7x9 ?sb7x10 ?sb7x11 ?xL8 ?sa8 ?ga8 ?gg8 ?hc8 ?hm8 ?kC8 ?nb8value ?iI8 ?tI8 ?lI8 ?cI8 ?kI8 ?sb8x0 ?sb8x1 ?sb8x2 ?sb8x3 ?sb8x4 ?sb8x5 ?sb8x6 ?sb8x7 ?sb8x8 ?sb8x9 ?sb8x10 ?sb8x11 ?xL9 ?sa9 ?ga9 ?gg9 ?hc9 ?hm9 ?kC9 ?nb9value ?iI9 ?tI9 ?lI9 ?cI9 ?kI9 ?sb9x0 ?sb9x1 ?sb9x2 ?sb9x3 ?sb9x4 ?sb9x5 ?sb9x6 ?sb9x7 ?sb9x8 ?sb9x9 ?sb9x10 ?sb9x11 ?xL10 ?sa10 ?ga10 ?gg10 ?hc10 ?hm10 ?kC10 ?nb10code ?iI10 ?tI10 ?lI10 ?cI10 ?kI10 ?sb10x0 ?sb10x1 ?sb10x2 ?sb10x3 ?sb10x4 ?sb10x5 ?sb10x6 ?sb10x7 ?sb10x8 ?sb10x9 ?sb10x10 ?sb10x11 ?xL11 ?sa11 ?ga11 ?gg11 ?hc11 ?hm11 ?kC11 ?nb11first ?nb11second ?iI11 ?tI11 ?lI11 ?cI11 ?kI11 ?sb11x0 ?sb11x1 ?sb11x2 ?sb11x3 ?sb11x4 ?sb11x5 ?sb11x6 ?sb11x7 ?sb11x8 ?sb11x9 ?sb11x10 ?sb11x11 ?z0 ?z1 ?z2 ?z3 ?z4 ?z5 ?z6 ?z7 ?z8 ?z9 ?z10 ?z11 ?z12 ?z13
    (case eDOMAINS => k_is); (case LDOMAINS => k_is); (case eGREATEST => k_is); (case eLEAST => k_is); (case eLETTERS => k_is); (case eLONGEST => k_is); (case eMOST_CODE => k_is); (case eMOST_ROOM => k_is); (case aK0 => k_is); (case pg0 => k_is); (case hK0 => k_is); (case po0 => k_is); (case sK0 => k_is); (case mK0 => k_is); (case kK0 => k_is); (case fM4 => k_is); (case iM4 => k_is); (case fM5 => k_is); (case gM5 => k_is); (case tM5 => k_is); (case rM5 => k_is); (case fM6 => k_is); (case iM6 => k_is); (case fM7 => k_is); (case iM7 => k_is); (case nA0x0 => k_is); (case nA0x1 => k_is); (case nA0x2 => k_is); (case aK1 => k_is); (case pg1 => k_is); (case hK1 => k_is); (case po1 => k_is); (case sK1 => k_is); (case rdK1 => k_is); (case gaK1 => k_is); (case mK1 => k_is); (case kK1 => k_is); (case fM12 => k_is); (case iM12 => k_is); (case fM13 => k_is); (case rM13 => k_is); (case iM13 => k_is); (case fM14 => k_is); (case iM14 => k_is); (case fM15 => k_is); (case iM15 => k_is); (case fM16 => k_is); (case iM16 => k_is); (case fcMOST1 => k_is); (case gcMOST1 => k_is); (case nA1x0 => k_is); (case nA1x1 => k_is); (case nA1x2 => k_is); (case nA1x3 => k_is); (case nA1x4 => k_is); (case nA1x5 => k_is); (case a1 => k_is); (case l1 => k_is); (case c1 => k_is); (case k1 => k_is); (case a2 => k_is); (case l2 => k_is); (case c2 => k_is); (case k2 => k_is); (case a3 => k_is); (case l3 => k_is); (case c3 => k_is); (case k3 => k_is); (case l4 => k_is); (case c4 => k_is); (case k4 => k_is); (case l5 => k_is); (case c5 => k_is); (case k5 => k_is); (case l6 => k_is); (case c6 => k_is); (case k6 => k_is); (case l7 => k_is); (case c7 => k_is); (case k7 => k_is); (case a8 => k_is); (case l8 => k_is); (case c8 => k_is); (case k8 => k_is); (case a9 => k_is); (case l9 => k_is); (case c9 => k_is); (case k9 => k_is); (case a10 => k_is); (case l10 => k_is); (case c10 => k_is); (case k10 => k_is); (case a11 => k_is); (case l11 => k_is); (case c11 => k_is); (case k11 => k_is); (case l12 => k_is); (case c12 => k_is); (case k12 => k_is); (case lDT12 => k_is); (case lE12 => k_is); (case l13 => k_is); (case c13 => k_is); (case k13 => k_is); (case l14 => k_is); (case c14 => k_is); (case k14 => k_is); (case l15 => k_is); (case c15 => k_is); (case k15 => k_is); (case l16 => k_is); (case c16 => k_is); (case k16 => k_is); (case a17 => k_is); (case l17 => k_is); (case c17 => k_is); (case k17 => k_is); (case a18 => k_is); (case l18 => k_is); (case c18 => k_is); (case k18 => k_is); (case a19 => k_is); (case l19 => k_is); (case c19 => k_is); (case k19 => k_is); (case a20 => k_is); (case l20 => k_is); (case c20 => k_is); (case k20 => k_is); (case a21 => k_is); (case l21 => k_is); (case c21 => k_is); (case k21 => k_is); (case a22 => k_is); (case l22 => k_is); (case c22 => k_is); (case k22 => k_is); (case a23 => k_is); (case l23 => k_is); (case c23 => k_is); (case k23 => k_is); (case a24 => k_is); (case l24 => k_is); (case c24 => k_is); (case k24 => k_is); (case a25 => k_is); (case l25 => k_is); (case c25 => k_is); (case k25 => k_is); (case a26 => k_is); (case l26 => k_is); (case c26 => k_is); (case k26 => k_is); (case a27 => k_is); (case l27 => k_is); (case c27 => k_is); (case k27 => k_is); (case a28 => k_is); (case l28 => k_is); (case c28 => k_is); (case k28 => k_is); (case a29 => k_is); (case l29 => k_is); (case c29 => k_is); (case k29 => k_is); (case aC0 => k_is); (case aC1 => k_is); (case aC2 => k_is); (case aC3 => k_is); (case aC4 => k_is); (case aC5 => k_is); (case aC6 => k_is); (case aC7 => k_is); (case aC8 => k_is); (case aC9 => k_is); (case aC10 => k_is); (case aC11 => k_is); (case eC0 => k_is); (case tC0 => k_is); (case hd0 => k_is); (case eC1 => k_is); (case tC1 => k_is); (case hd1 => k_is); (case eC2 => k_is); (case tC2 => k_is); (case hd2 => k_is); (case eC3 => k_is); (case tC3 => k_is); (case hd3 => k_is); (case eC4 => k_is); (case tC4 => k_is); (case hd4 => k_is); (case eC5 => k_is); (case tC5 => k_is); (case hd5 => k_is); (case eC6 => k_is); (case tC6 => k_is); (case hd6 => k_is); (case eC7 => k_is); (case tC7 => k_is); (case hd7 => k_is); (case eC8 => k_is); (case tC8 => k_is); (case hd8 => k_is); (case eC9 => k_is); (case tC9 => k_is); (case hd9 => k_is); (case eC10 => k_is); (case tC10 => k_is); (case hd10 => k_is); (case eC11 => k_is); (case tC11 => k_is); (case hd11 => k_is); (case gN => k_is); (case gT => k_is); (case xL1 => k_is); (case sa1 => k_is); (case ga1 => k_is); (case gg1 => k_is); (case hc1 => k_is); (case hm1 => k_is); (case kC1 => k_is); (case nb1name => k_is); (case iI1 => k_is); (case tI1 => k_is); (case lI1 => k_is); (case cI1 => k_is); (case kI1 => k_is); (case sb1x0 => k_is); (case sb1x1 => k_is); (case sb1x2 => k_is); (case sb1x3 => k_is); (case sb1x4 => k_is); (case sb1x5 => k_is); (case sb1x6 => k_is); (case sb1x7 => k_is); (case sb1x8 => k_is); (case sb1x9 => k_is); (case sb1x10 => k_is); (case sb1x11 => k_is); (case xL2 => k_is); (case sa2 => k_is); (case ga2 => k_is); (case gg2 => k_is); (case hc2 => k_is); (case hm2 => k_is); (case kC2 => k_is); (case nb2value => k_is); (case iI2 => k_is); (case tI2 => k_is); (case lI2 => k_is); (case cI2 => k_is); (case kI2 => k_is); (case sb2x0 => k_is); (case sb2x1 => k_is); (case sb2x2 => k_is); (case sb2x3 => k_is); (case sb2x4 => k_is); (case sb2x5 => k_is); (case sb2x6 => k_is); (case sb2x7 => k_is); (case sb2x8 => k_is); (case sb2x9 => k_is); (case sb2x10 => k_is); (case sb2x11 => k_is); (case xL3 => k_is); (case sa3 => k_is); (case ga3 => k_is); (case gg3 => k_is); (case hc3 => k_is); (case hm3 => k_is); (case kC3 => k_is); (case nb3domain => k_is); (case iI3 => k_is); (case tI3 => k_is); (case lI3 => k_is); (case cI3 => k_is); (case kI3 => k_is); (case sb3x0 => k_is); (case sb3x1 => k_is); (case sb3x2 => k_is); (case sb3x3 => k_is); (case sb3x4 => k_is); (case sb3x5 => k_is); (case sb3x6 => k_is); (case sb3x7 => k_is); (case sb3x8 => k_is); (case sb3x9 => k_is); (case sb3x10 => k_is); (case sb3x11 => k_is); (case xL4 => k_is); (case sa4 => k_is); (case ga4 => k_is); (case gg4 => k_is); (case hc4 => k_is); (case hm4 => k_is); (case kC4 => k_is); (case nb4room => k_is); (case iI4 => k_is); (case tI4 => k_is); (case lI4 => k_is); (case cI4 => k_is); (case kI4 => k_is); (case sb4x0 => k_is); (case sb4x1 => k_is); (case sb4x2 => k_is); (case sb4x3 => k_is); (case sb4x4 => k_is); (case sb4x5 => k_is); (case sb4x6 => k_is); (case sb4x7 => k_is); (case sb4x8 => k_is); (case sb4x9 => k_is); (case sb4x10 => k_is); (case sb4x11 => k_is); (case xL5 => k_is); (case sa5 => k_is); (case ga5 => k_is); (case gg5 => k_is); (case hc5 => k_is); (case hm5 => k_is); (case kC5 => k_is); (case nb5code => k_is); (case iI5 => k_is); (case tI5 => k_is); (case lI5 => k_is); (case cI5 => k_is); (case kI5 => k_is); (case sb5x0 => k_is); (case sb5x1 => k_is); (case sb5x2 => k_is); (case sb5x3 => k_is); (case sb5x4 => k_is); (case sb5x5 => k_is); (case sb5x6 => k_is); (case sb5x7 => k_is); (case sb5x8 => k_is); (case sb5x9 => k_is); (case sb5x10 => k_is); (case sb5x11 => k_is); (case xL6 => k_is); (case sa6 => k_is); (case ga6 => k_is); (case gg6 => k_is); (case hc6 => k_is); (case hm6 => k_is); (case kC6 => k_is); (case nb6name => k_is); (case iI6 => k_is); (case tI6 => k_is); (case lI6 => k_is); (case cI6 => k_is); (case kI6 => k_is); (case sb6x0 => k_is); (case sb6x1 => k_is); (case sb6x2 => k_is); (case sb6x3 => k_is); (case sb6x4 => k_is); (case sb6x5 => k_is); (case sb6x6 => k_is); (case sb6x7 => k_is); (case sb6x8 => k_is); (case sb6x9 => k_is); (case sb6x10 => k_is); (case sb6x11 => k_is); (case xL7 => k_is); (case sa7 => k_is); (case ga7 => k_is); (case gg7 => k_is); (case hc7 => k_is); (case hm7 => k_is); (case kC7 => k_is); (case nb7value => k_is); (case iI7 => k_is); (case tI7 => k_is); (case lI7 => k_is); (case cI7 => k_is); (case kI7 => k_is); (case sb7x0 => k_is); (case sb7x1 => k_is); (case sb7x2 => k_is); (case sb7x3 => k_is); (case sb7x4 => k_is); (case sb7x5 => k_is); (case sb7x6 => k_is); (case sb7x7 => k_is); (case sb7x8 => k_is); (case sb7x9 => k_is); (case sb7x10 => k_is); (case sb7x11 => k_is); (case xL8 => k_is); (case sa8 => k_is); (case ga8 => k_is); (case gg8 => k_is); (case hc8 => k_is); (case hm8 => k_is); (case kC8 => k_is); (case nb8value => k_is); (case iI8 => k_is); (case tI8 => k_is); (case lI8 => k_is); (case cI8 => k_is); (case kI8 => k_is); (case sb8x0 => k_is); (case sb8x1 => k_is); (case sb8x2 => k_is); (case sb8x3 => k_is); (case sb8x4 => k_is); (case sb8x5 => k_is); (case sb8x6 => k_is); (case sb8x7 => k_is); (case sb8x8 => k_is); (case sb8x9 => k_is); (case sb8x10 => k_is); (case sb8x11 => k_is); (case xL9 => k_is); (case sa9 => k_is); (case ga9 => k_is); (case gg9 => k_is); (case hc9 => k_is); (case hm9 => k_is); (case kC9 => k_is); (case nb9value => k_is); (case iI9 => k_is); (case tI9 => k_is); (case lI9 => k_is); (case cI9 => k_is); (case kI9 => k_is); (case sb9x0 => k_is); (case sb9x1 => k_is); (case sb9x2 => k_is); (case sb9x3 => k_is); (case sb9x4 => k_is); (case sb9x5 => k_is); (case sb9x6 => k_is); (case sb9x7 => k_is); (case sb9x8 => k_is); (case sb9x9 => k_is); (case sb9x10 => k_is); (case sb9x11 => k_is); (case xL10 => k_is); (case sa10 => k_is); (case ga10 => k_is); (case gg10 => k_is); (case hc10 => k_is); (case hm10 => k_is); (case kC10 => k_is); (case nb10code => k_is); (case iI10 => k_is); (case tI10 => k_is); (case lI10 => k_is); (case cI10 => k_is); (case kI10 => k_is); (case sb10x0 => k_is); (case sb10x1 => k_is); (case sb10x2 => k_is); (case sb10x3 => k_is); (case sb10x4 => k_is); (case sb10x5 => k_is); (case sb10x6 => k_is); (case sb10x7 => k_is); (case sb10x8 => k_is); (case sb10x9 => k_is); (case sb10x10 => k_is); (case sb10x11 => k_is); (case xL11 => k_is); (case sa11 => k_is); (case ga11 => k_is); (case gg11 => k_is); (case hc11 => k_is); (case hm11 => k_is); (case kC11 => k_is); (case nb11first => k_is); (case nb11second => k_is); (case iI11 => k_is); (case tI11 => k_is); (case lI11 => k_is); (case cI11 => k_is); (case kI11 => k_is); (case sb11x0 => k_is); (case sb11x1 => k_is); (case sb11x2 => k_is); (case sb11x3 => k_is); (case sb11x4 => k_is); (case sb11x5 => k_is); (case sb11x6 => k_is); (case sb11x7 => k_is); (case sb11x8 => k_is); (case sb11x9 => k_is); (case sb11x10 => k_is); (case sb11x11 => k_is); (case z0 => k_is); (case z1 => k_is); (case z2 => k_is); (case z3 => k_is); (case z4 => k_is); (case z5 => k_is); (case z6 => k_is); (case z7 => k_is); (case z8 => k_is); (case z9 => k_is); (case z10 => k_is); (case z11 => k_is); (case z12 => k_is); (case z13 => k_is)
