import PyProof.Rows.All
import HandS.CallLocal
import HandS.CallSlots
import HandS.ClsMeth
import HandS.Codes
import HandS.Conv
import HandS.Defaults
import HandS.Evl
import HandS.ExcCtx
import HandS.ExcField
import HandS.ExcInit
import HandS.ExcInitHot
import HandS.ExcIs
import HandS.Finally
import HandS.ForExc
import HandS.ForMost
import HandS.HotCalls
import HandS.IsInst
import HandS.Iter
import HandS.More
import HandS.Property
import HandS.RevRange
import HandS.SetFor
import HandS.SortKw
import HandS.Star
import HandS.Strs
import HandS.Style
import HandS.TupAny
import HandS.TupLe
import HandS.Wide
import HandS.WideBits
import HandS.Zip
import KE.DataMinMax
import KE.GoesEnum
import KE.GoesZip
import KE.KCallOwn
import KE.KDictZip
import KE.KEqDict
import KE.KExcIs
import KE.KOpsOwn
import KE.SortData
import PySem.Challenge.RW_colonnade_k14_mendings_cheapest
set_option Elab.async false
set_option linter.all false
set_option maxRecDepth 100000
set_option maxHeartbeats 2000000
/-! A layer over the heap's readings: what a def does is said of plain data, the heap is hidden. Own work. -/
namespace DL
open PySem PySem.Spec PyProof.Rows L2
open Evl (Ex ex_l ex_t)

/-! ### lists in pairs -/
section
variable {α β : Type} {G : α → β → Prop}
theorem P_get : ∀ {l : List α} {m : List β} {i : Nat} {b : β}, Paired G l m → m[i]? = some b → ∃ a, l[i]? = some a ∧ G a b
  | _, _, _, _, .nil, e => by simp at e
  | _, _, 0, _, .cons r _, e => by simp at e; subst e; exact ⟨_, rfl, r⟩
  | _, _, i + 1, b, .cons _ t, e => by
    obtain ⟨a, h1, h2⟩ := P_get (i := i) (b := b) t (by simpa using e)
    exact ⟨a, by simpa using h1, h2⟩
theorem P_getL : ∀ {l : List α} {m : List β} {i : Nat} {a : α}, Paired G l m → l[i]? = some a → ∃ b, m[i]? = some b ∧ G a b
  | _, _, _, _, .nil, e => by simp at e
  | _, _, 0, _, .cons r _, e => by simp at e; subst e; exact ⟨_, rfl, r⟩
  | _, _, i + 1, a, .cons _ t, e => by
    obtain ⟨b, h1, h2⟩ := P_getL (i := i) (a := a) t (by simpa using e)
    exact ⟨b, by simpa using h1, h2⟩
theorem P_len : ∀ {l : List α} {m : List β}, Paired G l m → l.length = m.length
  | _, _, .nil => rfl
  | _, _, .cons _ t => by rw [List.length_cons, List.length_cons, P_len t]
theorem P_app : ∀ {l l' : List α} {m m' : List β}, Paired G l m → Paired G l' m' → Paired G (l ++ l') (m ++ m')
  | _, _, _, _, .nil, s => s
  | _, _, _, _, .cons r t, s => .cons r (P_app t s)
theorem P_take : ∀ {l : List α} {m : List β} (n : Nat), Paired G l m → Paired G (l.take n) (m.take n)
  | _, _, 0, _ => .nil
  | _, _, _ + 1, .nil => .nil
  | _, _, n + 1, .cons r t => .cons r (P_take n t)
theorem P_drop : ∀ {l : List α} {m : List β} (n : Nat), Paired G l m → Paired G (l.drop n) (m.drop n)
  | _, _, 0, r => r
  | _, _, _ + 1, .nil => .nil
  | _, _, n + 1, .cons _ t => P_drop n t
theorem P_set {a : α} {b : β} (r : G a b) : ∀ {l : List α} {m : List β} (i : Nat), Paired G l m → Paired G (l.set i a) (m.set i b)
  | _, _, _, .nil => .nil
  | _, _, 0, .cons _ t => .cons r t
  | _, _, i + 1, .cons q t => .cons q (P_set r i t)
theorem P_rev : ∀ {l : List α} {m : List β}, Paired G l m → Paired G l.reverse m.reverse
  | _, _, .nil => .nil
  | _, _, .cons r t => by
    rw [List.reverse_cons, List.reverse_cons]
    exact P_app (P_rev t) (.cons r .nil)
theorem P_erase : ∀ {l : List α} {m : List β} (i : Nat), Paired G l m → Paired G (l.eraseIdx i) (m.eraseIdx i)
  | _, _, _, .nil => .nil
  | _, _, 0, .cons _ t => t
  | _, _, i + 1, .cons q t => .cons q (P_erase i t)
theorem P_mono {G' : α → β → Prop} (k : ∀ a b, G a b → G' a b) : ∀ {l : List α} {m : List β}, Paired G l m → Paired G' l m
  | _, _, .nil => .nil
  | _, _, .cons r t => .cons (k _ _ r) (P_mono k t)
theorem P_rep {l : List α} {m : List β} (h : Paired G l m) : ∀ k : Nat, Paired G (List.replicate k l).flatten (List.replicate k m).flatten
  | 0 => .nil
  | k + 1 => by
    rw [List.replicate_succ, List.replicate_succ, List.flatten_cons, List.flatten_cons]
    exact P_app h (P_rep h k)
theorem P_dropLast {l : List α} {m : List β} (h : Paired G l m) : Paired G l.dropLast m.dropLast := by
  rw [List.dropLast_eq_take, List.dropLast_eq_take, P_len h]
  exact P_take _ h
theorem P_of : ∀ {l : List α} {m : List β}, l.length = m.length → (∀ (i : Nat) (a : α) (b : β), l[i]? = some a → m[i]? = some b → G a b) → Paired G l m
  | [], [], _, _ => .nil
  | [], _ :: _, h, _ => by simp at h
  | _ :: _, [], h, _ => by simp at h
  | a :: l, b :: m, h, k => .cons (k 0 a b rfl rfl) (P_of (by simpa using h) fun i x y e1 e2 => k (i + 1) x y (by simpa using e1) (by simpa using e2))
theorem P_insert {a : α} {b : β} (r : G a b) : ∀ {l : List α} {m : List β} (i : Nat), Paired G l m → Paired G (l.take i ++ a :: l.drop i) (m.take i ++ b :: m.drop i) := fun i h =>
  P_app (P_take i h) (.cons r (P_drop i h))
end

/-! ### data -/
inductive D where
  | non | bl (b : Bool) | int (i : Int) | str (x : Str) | ref (a : Addr) | ty (n : String)
  | lst (xs : List D) | tup (xs : List D) | obj (C : String) (fs : List (Str × D)) | dct (kvs : List (Key × D))
  /-- a class of the text -/
  | kls (C : String)
  /-- the law's own script -/
  | scr (ns : List Int)
  /-- a thing that is newer than the line that was drawn -/
  | fr (d : D)

/-- the kit's fragment, and the addresses that were there before -/
structure KZ where
  fr : PySem.W.Frag
  z : Addr → Prop
instance : Coe KZ PySem.W.Frag := ⟨KZ.fr⟩
/-- where a class of the text stands -/
def ctOf (K : PySem.W.Frag) (n : String) : Addr := match PySem.W.nsIn K mainGlobals n with
  | some (some (.ref a)) => a
  | _ => 0
theorem ctOf_of {K : PySem.W.Frag} {n : String} {a : Addr} (h : PySem.W.nsIn K mainGlobals n = some (some (.ref a))) : ctOf K n = a := by
  unfold ctOf
  rw [h]
mutual
/-- v is the data d, all of it read off F -/
inductive Rp (K : KZ) (F : Hp) : V → D → Prop
  | non : Rp K F .non .non
  | bl (b : Bool) : Rp K F (.bl b) (.bl b)
  | int (i : Int) : Rp K F (.int i) (.int i)
  | str (x : Str) : Rp K F (.str x) (.str x)
  | ref (a : Addr) : Rp K F (.ref a) (.ref a)
  | ty (n : String) : Rp K F (.ty n) (.ty n)
  | lst {a : Addr} {vs : List V} {ds : List D} : F a = some (.lst vs) → RpAll K F vs ds → Rp K F (.ref a) (.lst ds)
  | scr {a : Addr} {ns : List Int} : SqL K.fr F a (ns.map V.int) → Rp K F (.ref a) (.scr ns)
  | tup {a : Addr} {vs : List V} {ds : List D} : SqT K.fr F a vs → RpAll K F vs ds → Rp K F (.ref a) (.tup ds)
  | kls (n : String) : Rp K F (.ref (ctOf K.fr n)) (.kls n)
  | obj {a dx : Addr} {C : String} {fv : List (Str × V)} {fs : List (Str × D)} : F a = some (.ins (ctOf K.fr C) dx fv) → F dx = some (.own a) → RpFs K F fv fs → Rp K F (.ref a) (.obj C fs)
  | dct {a : Addr} {kv : List (Key × V)} {kd : List (Key × D)} : F a = some (.dK kv) → RpKs K F kv kd → Rp K F (.ref a) (.dct kd)
  | fr {a : Addr} {d : D} : ¬ K.z a → Rp K F (.ref a) d → Rp K F (.ref a) (.fr d)
inductive RpAll (K : KZ) (F : Hp) : List V → List D → Prop
  | nil : RpAll K F [] []
  | cons {v : V} {vs : List V} {d : D} {ds : List D} : Rp K F v d → RpAll K F vs ds → RpAll K F (v :: vs) (d :: ds)
inductive RpFs (K : KZ) (F : Hp) : List (Str × V) → List (Str × D) → Prop
  | nil : RpFs K F [] []
  | cons {n : Str} {v : V} {vs : List (Str × V)} {d : D} {ds : List (Str × D)} : Rp K F v d → RpFs K F vs ds → RpFs K F ((n, v) :: vs) ((n, d) :: ds)
inductive RpKs (K : KZ) (F : Hp) : List (Key × V) → List (Key × D) → Prop
  | nil : RpKs K F [] []
  | cons {n : Key} {v : V} {vs : List (Key × V)} {d : D} {ds : List (Key × D)} : Rp K F v d → RpKs K F vs ds → RpKs K F ((n, v) :: vs) ((n, d) :: ds)
end
section
variable {K : KZ} {F F' : Hp}
mutual
theorem Rp.mono (e : Ex F F') : ∀ {v : V} {d : D}, Rp K F v d → Rp K F' v d
  | _, _, .non => .non
  | _, _, .bl b => .bl b
  | _, _, .int i => .int i
  | _, _, .str x => .str x
  | _, _, .ref a => .ref a
  | _, _, .ty n => .ty n
  | _, _, .kls n => .kls n
  | _, _, .lst h a => .lst (e _ _ h) (RpAll.mono e a)
  | _, _, .scr h => .scr (ex_l e h)
  | _, _, .tup h a => .tup (ex_t e h) (RpAll.mono e a)
  | _, _, .obj h1 h2 a => .obj (e _ _ h1) (e _ _ h2) (RpFs.mono e a)
  | _, _, .dct h1 a => .dct (e _ _ h1) (RpKs.mono e a)
  | _, _, .fr n a => .fr n (Rp.mono e a)
theorem RpAll.mono (e : Ex F F') : ∀ {v : List V} {d : List D}, RpAll K F v d → RpAll K F' v d
  | _, _, .nil => .nil
  | _, _, .cons h t => .cons (Rp.mono e h) (RpAll.mono e t)
theorem RpFs.mono (e : Ex F F') : ∀ {v : List (Str × V)} {d : List (Str × D)}, RpFs K F v d → RpFs K F' v d
  | _, _, .nil => .nil
  | _, _, .cons h t => .cons (Rp.mono e h) (RpFs.mono e t)
theorem RpKs.mono (e : Ex F F') : ∀ {v : List (Key × V)} {d : List (Key × D)}, RpKs K F v d → RpKs K F' v d
  | _, _, .nil => .nil
  | _, _, .cons h t => .cons (Rp.mono e h) (RpKs.mono e t)
end
theorem RpAll.p : ∀ {vs : List V} {ds : List D}, RpAll K F vs ds → Paired (Rp K F) vs ds
  | _, _, .nil => .nil
  | _, _, .cons h t => .cons h (RpAll.p t)
theorem RpAll.of : ∀ {vs : List V} {ds : List D}, Paired (Rp K F) vs ds → RpAll K F vs ds
  | _, _, .nil => .nil
  | _, _, .cons h t => .cons h (RpAll.of t)
theorem RpAll.length {vs : List V} {ds : List D} (h : RpAll K F vs ds) : vs.length = ds.length := P_len h.p
end

/-! ### what is owned: it may still change -/
inductive OC where
  | lst (xs : List D) | ins (C : String) (fs : List (Str × D)) | dct (kvs : List (Key × D))
def OC.data : OC → D
  | .lst xs => .lst xs
  | .ins C fs => .obj C fs
  | .dct k => .dct k
/-- a name's slot: nothing known; data that stays; a thing that this def may change (of a parameter: some k) -/
inductive Sx where
  | no | val (d : D) | own (p : Option Nat) (c : OC)
/-- a result: data that stays; what stands in slot j; a new thing that nobody else holds -/
inductive RS where
  | val (d : D) | own (j : Nat) (c : OC) | new (c : OC)
def RS.data : RS → D
  | .val d => d
  | .own _ c => c.data
  | .new c => c.data
abbrev Env := List Sx
def look : Env → Nat → Sx
  | [], _ => .no
  | s :: _, 0 => s
  | _ :: γ, i + 1 => look γ i
def put : Env → Nat → Sx → Env
  | [], _, _ => []
  | _ :: γ, 0, t => t :: γ
  | s :: γ, i + 1, t => s :: put γ i t
theorem look_of : ∀ {γ : Env} {i : Nat} {s : Sx}, γ[i]? = some s → look γ i = s
  | [], _, _, h => by simp at h
  | _ :: _, 0, _, h => by simpa [look] using h
  | _ :: γ, i + 1, _, h => look_of (γ := γ) (i := i) (by simpa using h)
theorem of_look : ∀ {γ : Env} {i : Nat} {s : Sx}, look γ i = s → s ≠ .no → γ[i]? = some s
  | [], _, _, h, n => absurd h.symm n
  | _ :: _, 0, _, h, _ => by simpa [look] using h
  | _ :: γ, i + 1, _, h, n => by
    have := of_look (γ := γ) (i := i) h n
    simpa using this
theorem put_set : ∀ {γ : Env} {i : Nat} {s : Sx}, put γ i s = γ.set i s
  | [], _, _ => rfl
  | _ :: _, 0, _ => rfl
  | _ :: γ, i + 1, _ => by rw [put, put_set, List.set_cons_succ]
theorem put_len {γ : Env} {i : Nat} {s : Sx} : (put γ i s).length = γ.length := by rw [put_set, List.length_set]

/-- a base: N the heap at the def's entry, pa its parameters' things; F, H the heaps that later ones are held against, m what may have changed since -/
structure Bs where
  N : Hp
  pa : Nat → Option Addr
  F : Hp
  H : Hp
  m : List Addr
  z : Addr → Prop
  zn : ∀ a, z a → ∃ o, N a = some o
abbrev Bs.kz (B : Bs) (K : PySem.W.Frag) : KZ := ⟨K, B.z⟩

def OCok (K : PySem.W.Frag) (B : Bs) (F H : Hp) (a : Addr) : OC → Prop
  | .lst ds => ∃ vs, H a = some (.lst vs) ∧ RpAll (B.kz K) F vs ds
  | .ins C fs => ∃ dx fv, H a = some (.ins (ctOf K C) dx fv) ∧ H dx = some (.own a) ∧ F dx = none ∧ (B.N a = none → B.N dx = none) ∧ (dx ∈ B.m ∨ B.H dx = none) ∧ RpFs (B.kz K) F fv fs
  | .dct kd => ∃ kv, H a = some (.dK kv) ∧ RpKs (B.kz K) F kv kd
def SlotOk (K : PySem.W.Frag) (B : Bs) (F H : Hp) (s : Option V) : Sx → Prop
  | .no => True
  | .val d => ∃ v, s = some v ∧ Rp (B.kz K) F v d
  | .own _ c => ∃ a, s = some (.ref a) ∧ F a = none ∧ OCok K B F H a c
/-- the kind of an object stays -/
def Kin : HO → HO → Prop
  | .ins C dx _, o => ∃ fs, o = .ins C dx fs
  | .lst _, o => ∃ xs, o = .lst xs
  | .dK _, o => ∃ xs, o = .dK xs
  | _, _ => True
theorem Kin.refl : ∀ o : HO, Kin o o
  | .ins _ _ fs => ⟨fs, rfl⟩
  | .lst xs => ⟨xs, rfl⟩
  | .dK xs => ⟨xs, rfl⟩
  | .tup _ => trivial | .dT _ => trivial | .set _ _ => trivial | .own _ => trivial | .xd _ => trivial | .met _ _ => trivial | .rng _ _ => trivial | .frz _ _ => trivial | .tbl _ => trivial | .ext _ => trivial
theorem Kin.trans : ∀ {a b c : HO}, Kin a b → Kin b c → Kin a c
  | .ins _ _ fs, _, _, ⟨_, rfl⟩, h => h
  | .lst xs, _, _, ⟨_, rfl⟩, h => h
  | .dK xs, _, _, ⟨_, rfl⟩, h => h
  | .tup _, _, _, _, _ => trivial | .dT _, _, _, _, _ => trivial | .set _ _, _, _, _, _ => trivial | .own _, _, _, _, _ => trivial | .xd _, _, _, _, _ => trivial | .met _ _, _, _, _, _ => trivial | .rng _ _, _, _, _, _ => trivial | .frz _ _, _, _, _, _ => trivial | .tbl _, _, _, _, _ => trivial | .ext _, _, _, _, _ => trivial
structure Rep (K : PySem.W.Frag) (B : Bs) (F H : Hp) (σ : L2.St) (γ : Env) : Prop where
  fh : Ex F H
  len : σ.length = γ.length
  sl : ∀ (i : Nat) s t, σ[i]? = some s → γ[i]? = some t → SlotOk K B F H s t
  nd : ∀ (i j : Nat) a p c q c', γ[i]? = some (.own p c) → γ[j]? = some (.own q c') → σ[i]? = some (some (.ref a)) → σ[j]? = some (some (.ref a)) → i = j
  b1 : ∀ b o, B.H b = some o → (b ∉ B.m → H b = some o) ∧ ∃ o', H b = some o'
  b2 : Ex B.F F
  b3 : ∀ b o, B.H b = some o → b ∉ B.m → F b = B.F b
  b4 : ∀ (i : Nat) a p c, γ[i]? = some (.own p c) → σ[i]? = some (some (.ref a)) → (∀ k, p = some k → B.pa k = some a) ∧ (p = none → B.N a = none)
  b5 : ∀ (i : Nat) a p c, γ[i]? = some (.own p c) → σ[i]? = some (some (.ref a)) → a ∈ B.m ∨ B.H a = none
  bN : ∀ b o, B.N b = some o → ∃ o', H b = some o'
  bd : ∀ a o, B.H a = some o → ∃ o', H a = some o' ∧ Kin o o'
structure RNew (K : PySem.W.Frag) (B : Bs) (F H : Hp) (σ : L2.St) (γ : Env) (a : Addr) (c : OC) : Prop where
  fa : F a = none
  ok : OCok K B F H a c
  bn : B.N a = none
  bm : a ∈ B.m ∨ B.H a = none
  na : ∀ (i : Nat) p c', γ[i]? = some (.own p c') → σ[i]? ≠ some (some (.ref a))
def RsOk (K : PySem.W.Frag) (B : Bs) (F H : Hp) (σ : L2.St) (γ : Env) (v : V) : RS → Prop
  | .val d => Rp (B.kz K) F v d
  | .own j c => σ[j]? = some (some v) ∧ ∃ p, γ[j]? = some (.own p c)
  | .new c => ∃ a, v = .ref a ∧ RNew K B F H σ γ a c
/-- the result still stands as it was told -/
def RS.ok (γ : Env) : RS → Prop
  | .own j c => ∃ p, look γ j = .own p c
  | _ => True

section
variable {K : PySem.W.Frag} {B : Bs} {F F' H H' : Hp} {σ : L2.St} {γ : Env} {v : V} {d : D}
theorem OCok.mono {a : Addr} {c : OC} (e : Ex F F') (hd : ∀ dx, H dx = some (.own a) → F dx = none → F' dx = none) (h : OCok K B F H a c) : OCok K B F' H a c := by
  cases c with
  | lst ds => obtain ⟨vs, h1, h2⟩ := h; exact ⟨vs, h1, h2.mono e⟩
  | ins C fs => obtain ⟨dx, fv, h1, h2, h3, h4, h5, h6⟩ := h; exact ⟨dx, fv, h1, h2, hd dx h2 h3, h4, h5, h6.mono e⟩
  | dct kd => obtain ⟨kv, h1, h2⟩ := h; exact ⟨kv, h1, h2.mono e⟩
theorem OCok.obj {a : Addr} {c : OC} (h : OCok K B F H a c) : ∃ o, H a = some o ∧ ∀ x, o ≠ .own x := by
  cases c with
  | lst ds => obtain ⟨vs, h1, h2⟩ := h; exact ⟨_, h1, fun x e => by cases e⟩
  | ins C fs => obtain ⟨dx, fv, h1, _⟩ := h; exact ⟨_, h1, fun x e => by cases e⟩
  | dct kd => obtain ⟨kv, h1, h2⟩ := h; exact ⟨_, h1, fun x e => by cases e⟩
/-- the heap may change elsewhere -/
theorem OCok.heap {a : Addr} {c : OC} (h : OCok K B F H a c) (ka : H' a = H a) (kd : ∀ dx, H dx = some (.own a) → H' dx = H dx) : OCok K B F H' a c := by
  cases c with
  | lst ds => obtain ⟨vs, h1, h2⟩ := h; exact ⟨vs, ka.trans h1, h2⟩
  | ins C fs => obtain ⟨dx, fv, h1, h2, h3⟩ := h; exact ⟨dx, fv, ka.trans h1, (kd dx h2).trans h2, h3⟩
  | dct kd => obtain ⟨kv, h1, h2⟩ := h; exact ⟨kv, ka.trans h1, h2⟩
theorem OCok.base {a : Addr} {c : OC} {B' : Bs} (h : OCok K B F H a c) (hN : B'.N = B.N) (hz : B'.z = B.z) (hm : ∀ dx, H dx = some (.own a) → dx ∈ B.m ∨ B.H dx = none → dx ∈ B'.m ∨ B'.H dx = none) : OCok K B' F H a c := by
  have e : B'.kz K = B.kz K := by unfold Bs.kz; rw [hz]
  cases c with
  | lst ds => obtain ⟨vs, h1, h2⟩ := h; exact ⟨vs, h1, by rw [e]; exact h2⟩
  | ins C fs => obtain ⟨dx, fv, h1, h2, h3, h4, h5, h6⟩ := h; exact ⟨dx, fv, h1, h2, h3, by rw [hN]; exact h4, hm dx h2 h5, by rw [e]; exact h6⟩
  | dct kd => obtain ⟨kv, h1, h2⟩ := h; exact ⟨kv, h1, by rw [e]; exact h2⟩

theorem Rep.val (R : Rep K B F H σ γ) {i : Nat} (h : look γ i = .val d) : ∃ v, σ[i]? = some (some v) ∧ Rp (B.kz K) F v d := by
  have hg := of_look h (by intro e; cases e)
  obtain ⟨h1, _⟩ := List.getElem?_eq_some_iff.mp hg
  have h2 : i < σ.length := by rw [R.len]; exact h1
  have hs : σ[i]? = some σ[i] := List.getElem?_eq_getElem h2
  obtain ⟨v, e, r⟩ := R.sl i _ _ hs hg
  exact ⟨v, by rw [hs, e], r⟩
theorem Rep.own (R : Rep K B F H σ γ) {i : Nat} {p : Option Nat} {c : OC} (h : look γ i = .own p c) : ∃ a, σ[i]? = some (some (.ref a)) ∧ γ[i]? = some (.own p c) ∧ F a = none ∧ OCok K B F H a c := by
  have hg := of_look h (by intro e; cases e)
  obtain ⟨h1, _⟩ := List.getElem?_eq_some_iff.mp hg
  have h2 : i < σ.length := by rw [R.len]; exact h1
  have hs : σ[i]? = some σ[i] := List.getElem?_eq_getElem h2
  obtain ⟨a, e, r, q⟩ := R.sl i _ _ hs hg
  exact ⟨a, by rw [hs, e], hg, r, q⟩
/-- a free address is free everywhere -/
theorem Rep.fresh (R : Rep K B F H σ γ) {p : Addr} (h : H p = none) : F p = none ∧ B.H p = none ∧ B.N p = none ∧ ∀ (i : Nat) q c', γ[i]? = some (.own q c') → σ[i]? ≠ some (some (.ref p)) := by
  refine ⟨?_, ?_, ?_, ?_⟩
  · cases e : F p with
    | none => rfl
    | some o => rw [R.fh p o e] at h; cases h
  · cases e : B.H p with
    | none => rfl
    | some o => obtain ⟨_, o', e'⟩ := R.b1 p o e; rw [e'] at h; cases h
  · cases e : B.N p with
    | none => rfl
    | some o => obtain ⟨o', e'⟩ := R.bN p o e; rw [e'] at h; cases h
  · intro i q c' hg hs
    obtain ⟨a, e, _, ok⟩ := R.sl i _ _ hs hg
    cases e
    obtain ⟨o, ho, _⟩ := ok.obj
    rw [ho] at h; cases h
/-- a slot's address, and that it is no own dict -/
theorem Rep.ownObj (R : Rep K B F H σ γ) {i : Nat} {p : Option Nat} {c : OC} {a : Addr} (hg : γ[i]? = some (.own p c)) (hs : σ[i]? = some (some (.ref a))) : F a = none ∧ OCok K B F H a c := by
  obtain ⟨a', e, f, ok⟩ := R.sl i _ _ hs hg
  cases e
  exact ⟨f, ok⟩
/-- a new object, not frozen -/
theorem Rep.alloc (R : Rep K B F H σ γ) {p : Addr} (o : HO) (h : H p = none) : Rep K B F (upd H p o) σ γ := by
  have hx : Ex H (upd H p o) := Ex.new h
  have nep : ∀ {b : Addr} {x : HO}, H b = some x → b ≠ p := fun e => ne_of_none e h
  refine ⟨R.fh.trans hx, R.len, fun i s t hs hg => ?_, R.nd, fun b x e => ?_, R.b2, R.b3, R.b4, R.b5, fun b x e => ?_, fun a x e => let ⟨o', h, k⟩ := R.bd a x e; ⟨o', hx _ _ h, k⟩⟩
  · have q := R.sl i s t hs hg
    cases t with
    | no => trivial
    | val d => exact q
    | own q' c =>
      obtain ⟨a, e, f, ok⟩ := q
      obtain ⟨o', ho', _⟩ := ok.obj
      exact ⟨a, e, f, ok.heap (upd_ne (nep ho')) fun dx hd => upd_ne (nep hd)⟩
  · obtain ⟨h1, o', h2⟩ := R.b1 b x e
    exact ⟨fun n => hx _ _ (h1 n), o', hx _ _ h2⟩
  · obtain ⟨o', h2⟩ := R.bN b x e
    exact ⟨o', hx _ _ h2⟩
/-- F takes up what H holds at a, which nobody owns -/
theorem Rep.freeze (R : Rep K B F H σ γ) {a : Addr} {o : HO} (h : H a = some o) (fa : F a = none) (bm : a ∈ B.m ∨ B.H a = none) (na : ∀ (i : Nat) q c', γ[i]? = some (.own q c') → σ[i]? ≠ some (some (.ref a)) ∧ ∀ x, σ[i]? = some (some (.ref x)) → o ≠ .own x) :
    Rep K B (upd F a o) H σ γ ∧ Ex F (upd F a o) := by
  have hx : Ex F (upd F a o) := Ex.new fa
  refine ⟨⟨fun b x e => ?_, R.len, fun i s t hs hg => ?_, R.nd, R.b1, R.b2.trans hx, fun b x e n => ?_, R.b4, R.b5, R.bN, R.bd⟩, hx⟩
  · by_cases hb : b = a
    · subst hb; rw [upd_same] at e; cases e; exact h
    · rw [upd_ne hb] at e; exact R.fh b x e
  · have q := R.sl i s t hs hg
    cases t with
    | no => trivial
    | val d => obtain ⟨v, e, r⟩ := q; exact ⟨v, e, r.mono hx⟩
    | own q' c =>
      obtain ⟨b, e, f, ok⟩ := q
      subst e
      obtain ⟨n1, n2⟩ := na i _ _ hg
      have nba : b ≠ a := fun z => n1 (by rw [hs, z])
      refine ⟨b, rfl, by rw [upd_ne nba]; exact f, ok.mono hx fun dx hd fd => ?_⟩
      have : dx ≠ a := fun z => by
        subst z
        rw [h] at hd
        exact n2 b hs (Option.some.inj hd)
      rw [upd_ne this]; exact fd
  · rcases bm with z | z
    · by_cases hb : b = a
      · subst hb; exact absurd z n
      · rw [upd_ne hb]; exact R.b3 b x e n
    · rw [upd_ne (ne_of_none e z)]; exact R.b3 b x e n
end
end DL

set_option Elab.async false
set_option linter.all false
set_option maxRecDepth 100000
set_option maxHeartbeats 2000000
namespace DL
open PySem PySem.Spec PyProof.Rows L2
open Evl (Ex ex_l ex_t)

abbrev DE := Env → (RS → Env → Prop) → Prop
abbrev DT := Env → (Bool → Env → Prop) → Prop
abbrev DA := Env → (List RS → Env → Prop) → Prop
def SE (K : PySem.W.Frag) (B : Bs) (te : TE) (de : DE) : Prop := ∀ (F H : Hp) (σ : L2.St) (γ : Env) (Q : VK) (q : RS → Env → Prop), Rep K B F H σ γ → de γ q →
  (∀ v F' H' γ' s, Rep K B F' H' σ γ' → Ex F F' → RsOk K B F' H' σ γ' v s → q s γ' → Q v H') → te σ H Q
def ST (K : PySem.W.Frag) (B : Bs) (tt : TT) (dt : DT) : Prop := ∀ (F H : Hp) (σ : L2.St) (γ : Env) (Q : Bool → Hp → Prop) (q : Bool → Env → Prop), Rep K B F H σ γ → dt γ q →
  (∀ b F' H' γ', Rep K B F' H' σ γ' → Ex F F' → q b γ' → Q b H') → tt σ H Q
def SA (K : PySem.W.Frag) (B : Bs) (ta : TA) (da : DA) : Prop := ∀ (F H : Hp) (σ : L2.St) (γ : Env) (Q : List V → Hp → Prop) (q : List RS → Env → Prop), Rep K B F H σ γ → da γ q →
  (∀ vs F' H' γ' rs, Rep K B F' H' σ γ' → Ex F F' → Paired (RsOk K B F' H' σ γ') vs rs → q rs γ' → Q vs H') → ta σ H Q
structure XE (X : Cx) (B : Bs) (e : Expr) (te : TE) (de : DE) : Prop where
  pe : PE X e te
  se : SE X.K B te de
structure XT (X : Cx) (B : Bs) (e : Expr) (tt : TT) (dt : DT) : Prop where
  pt : PT X e tt
  st : ST X.K B tt dt
structure XW (X : Cx) (B : Bs) (e : Expr) (tt : TT) (dt : DT) : Prop where
  pw : PW X e tt
  st : ST X.K B tt dt
structure XA (X : Cx) (B : Bs) (es : List Expr) (ta : TA) (da : DA) : Prop where
  pa : PA X es ta
  sa : SA X.K B ta da

/-- a new thing that is not given a name stays -/
def RS.fz : RS → RS
  | .new c => .val c.data
  | s => s
theorem RS.fz_data (s : RS) : s.fz.data = s.data := by cases s <;> rfl
section
variable {K : PySem.W.Frag} {B : Bs} {F F' H H' : Hp} {σ : L2.St} {γ γ' : Env} {v : V} {d : D}
theorem RsOk.fz (R : Rep K B F H σ γ) {s : RS} (h : RsOk K B F H σ γ v s) : ∃ F', Rep K B F' H σ γ ∧ Ex F F' ∧ RsOk K B F' H σ γ v s.fz := by
  cases s with
  | val d => exact ⟨F, R, Evl.Ex.refl F, h⟩
  | own j c => exact ⟨F, R, Evl.Ex.refl F, h⟩
  | new c =>
    obtain ⟨a, rfl, N⟩ := h
    have ok := N.ok
    cases c with
    | lst ds =>
      obtain ⟨vs, h1, h2⟩ := ok
      obtain ⟨R', e⟩ := R.freeze h1 N.fa N.bm fun i q c' hg => ⟨N.na i q c' hg, fun x _ z => by cases z⟩
      exact ⟨_, R', e, .lst upd_same (h2.mono e)⟩
    | dct kd =>
      obtain ⟨kv, h1, h2⟩ := ok
      obtain ⟨R', e⟩ := R.freeze h1 N.fa N.bm fun i q c' hg => ⟨N.na i q c' hg, fun x _ z => by cases z⟩
      exact ⟨_, R', e, .dct upd_same (h2.mono e)⟩
    | ins C fs =>
      obtain ⟨dx, fv, h1, h2, h3, h4, h5, h6⟩ := ok
      have na : a ≠ dx := ne_of h1 h2 (fun z => by cases z)
      obtain ⟨R', e⟩ := R.freeze h2 h3 h5 fun i q c' hg => ⟨fun hs => by
        obtain ⟨_, ok'⟩ := R.ownObj hg hs
        obtain ⟨o, ho, n⟩ := ok'.obj
        rw [h2] at ho
        exact n a (Option.some.inj ho).symm, fun x hs z => by
        injection z with z
        subst z
        exact N.na i q c' hg hs⟩
      obtain ⟨R2, e2⟩ := R'.freeze h1 (by rw [upd_ne na]; exact N.fa) N.bm fun i q c' hg => ⟨N.na i q c' hg, fun x _ z => by cases z⟩
      refine ⟨_, R2, e.trans e2, .obj upd_same (e2 dx _ upd_same) (h6.mono (e.trans e2))⟩
/-- read as it stands: frozen, or owned -/
def Rs (K : KZ) (F H : Hp) (v : V) (d : D) : Prop := Rp K F v d ∨ ∃ a, v = .ref a ∧
  ((∃ vs ds, d = .lst ds ∧ H a = some (.lst vs) ∧ RpAll K F vs ds) ∨ (∃ C dx fv fs, d = .obj C fs ∧ H a = some (.ins (ctOf K.fr C) dx fv) ∧ H dx = some (.own a) ∧ RpFs K F fv fs) ∨ ∃ kv kd, d = .dct kd ∧ H a = some (.dK kv) ∧ RpKs K F kv kd)
theorem OCok.rs {a : Addr} {c : OC} (h : OCok K B F H a c) : Rs (B.kz K) F H (.ref a) c.data := by
  cases c with
  | lst ds => obtain ⟨vs, h1, h2⟩ := h; exact .inr ⟨a, rfl, .inl ⟨vs, ds, rfl, h1, h2⟩⟩
  | ins C fs => obtain ⟨dx, fv, h1, h2, _, _, _, h6⟩ := h; exact .inr ⟨a, rfl, .inr (.inl ⟨C, dx, fv, fs, rfl, h1, h2, h6⟩)⟩
  | dct kd => obtain ⟨kv, h1, h2⟩ := h; exact .inr ⟨a, rfl, .inr (.inr ⟨kv, kd, rfl, h1, h2⟩)⟩
/-- what a result says later: val grows, own is asked again -/
theorem RsOk.later {s : RS} {F1 H1 F2 H2 : Hp} {γ1 γ2 : Env} (h : RsOk K B F1 H1 σ γ1 v s) (e : Ex F1 F2) (R2 : Rep K B F2 H2 σ γ2) (hok : s.ok γ2) (hf : s.fz = s) : RsOk K B F2 H2 σ γ2 v s := by
  cases s with
  | val d => exact Rp.mono e h
  | own j c =>
    obtain ⟨p, hp⟩ := hok
    obtain ⟨a, _, hg, _⟩ := R2.own hp
    exact ⟨h.1, p, hg⟩
  | new c => cases hf
theorem RsOk.rs (R : Rep K B F H σ γ) {s : RS} (h : RsOk K B F H σ γ v s) : Rs (B.kz K) F H v s.data := by
  cases s with
  | val d => exact .inl h
  | own j c =>
    obtain ⟨hs, p, hg⟩ := h
    obtain ⟨a, e, _, ok⟩ := R.sl j _ _ hs hg
    cases e
    exact ok.rs
  | new c =>
    obtain ⟨a, rfl, N⟩ := h
    exact N.ok.rs
theorem fz_idem (s : RS) : s.fz.fz = s.fz := by cases s <;> rfl
theorem fz_ok (s : RS) (γ : Env) : s.ok γ → s.fz.ok γ := by cases s <;> exact fun h => h
theorem ok_own {j : Nat} {c : OC} {p : Option Nat} (h : look γ j = .own p c) : RS.ok γ (.own j c) := ⟨p, h⟩
end
/-! inversions -/
section
variable {K : KZ} {F F' H H' : Hp} {v : V} {d : D}
theorem Rs.int {i : Int} (h : Rs K F H v (.int i)) : v = .int i := by
  rcases h with h | ⟨a, rfl, ⟨_, _, e, _⟩ | ⟨_, _, _, _, e, _⟩ | ⟨_, _, e, _⟩⟩
  · cases h; rfl
  all_goals cases e
theorem Rs.bl {i : Bool} (h : Rs K F H v (.bl i)) : v = .bl i := by
  rcases h with h | ⟨a, rfl, ⟨_, _, e, _⟩ | ⟨_, _, _, _, e, _⟩ | ⟨_, _, e, _⟩⟩
  · cases h; rfl
  all_goals cases e
theorem Rs.str {i : Str} (h : Rs K F H v (.str i)) : v = .str i := by
  rcases h with h | ⟨a, rfl, ⟨_, _, e, _⟩ | ⟨_, _, _, _, e, _⟩ | ⟨_, _, e, _⟩⟩
  · cases h; rfl
  all_goals cases e
theorem Rs.non (h : Rs K F H v .non) : v = .non := by
  rcases h with h | ⟨a, rfl, ⟨_, _, e, _⟩ | ⟨_, _, _, _, e, _⟩ | ⟨_, _, e, _⟩⟩
  · cases h; rfl
  all_goals cases e
theorem Rs.lst {ds : List D} (e : Ex F H) (h : Rs K F H v (.lst ds)) : ∃ a vs, v = .ref a ∧ H a = some (.lst vs) ∧ RpAll K F vs ds := by
  rcases h with h | ⟨a, rfl, ⟨vs, _, e, h1, h2⟩ | ⟨_, _, _, _, e, _⟩ | ⟨_, _, e, _⟩⟩
  · cases h with
    | lst h1 h2 => exact ⟨_, _, rfl, e _ _ h1, h2⟩
  · cases e; exact ⟨a, vs, rfl, h1, h2⟩
  all_goals cases e
theorem Rs.tup {ds : List D} (e : Ex F H) (h : Rs K F H v (.tup ds)) : ∃ a vs, v = .ref a ∧ SqT K H a vs ∧ RpAll K F vs ds := by
  rcases h with h | ⟨a, rfl, ⟨vs, _, e, h1, h2⟩ | ⟨_, _, _, _, e, _⟩ | ⟨_, _, e, _⟩⟩
  · cases h with
    | tup h1 h2 => exact ⟨_, _, rfl, ex_t e h1, h2⟩
  all_goals cases e
end

/-! ### names and constants -/
section
variable {X : Cx} {B : Bs} {pos : Pos}
def dC (d : D) (γ : Env) (q : RS → Env → Prop) : Prop := q (.val d) γ
/-- a name, as it stands -/
def dVar (i : Nat) (γ : Env) (q : RS → Env → Prop) : Prop := match look γ i with
  | .val d => q (.val d) γ
  | .own _ c => q (.own i c) γ
  | .no => False
/-- a name whose thing stays from here on -/
def dVarV (i : Nat) (γ : Env) (q : RS → Env → Prop) : Prop := match look γ i with
  | .val d => q (.val d) γ
  | .own _ c => q (.val c.data) (put γ i (.val c.data))
  | .no => False
/-- a name that is given away -/
def dVarM (i : Nat) (γ : Env) (q : RS → Env → Prop) : Prop := match look γ i with
  | .val d => q (.val d) γ
  | .own none c => q (.new c) (put γ i .no)
  | .own (some _) _ => False
  | .no => False
theorem se_c {K : PySem.W.Frag} {B : Bs} {v : V} {d : D} (h : ∀ z F, Rp ⟨K, z⟩ F v d) : SE K B (tC v) (dC d) := fun F H σ γ Q q R hq k => k v F H γ (.val d) R (Evl.Ex.refl F) (h B.z F) hq
theorem se_var {K : PySem.W.Frag} {B : Bs} {i : Nat} : SE K B (tVar i) (dVar i) := fun F H σ γ Q q R hq k => by
  unfold dVar at hq
  cases e : look γ i with
  | no => rw [e] at hq; exact hq.elim
  | val d =>
    rw [e] at hq
    obtain ⟨v, hs, r⟩ := R.val e
    exact ⟨v, hs, k v F H γ (.val d) R (Evl.Ex.refl F) r hq⟩
  | own p c =>
    rw [e] at hq
    obtain ⟨a, hs, hg, _⟩ := R.own e
    exact ⟨.ref a, hs, k _ F H γ (.own i c) R (Evl.Ex.refl F) ⟨hs, p, hg⟩ hq⟩
section
variable {K : PySem.W.Frag} {B : Bs} {F H : Hp} {σ : L2.St} {γ : Env}
theorem get_put {i j : Nat} {s t : Sx} (h : (put γ i s)[j]? = some t) : (j = i ∧ t = s) ∨ (j ≠ i ∧ γ[j]? = some t) := by
  rw [put_set] at h
  by_cases e : i = j
  · subst e
    by_cases hl : i < γ.length
    · rw [List.getElem?_set_self hl] at h; exact .inl ⟨rfl, (Option.some.inj h).symm⟩
    · rw [List.getElem?_eq_none (by rw [List.length_set]; omega)] at h; cases h
  · rw [List.getElem?_set_ne e] at h; exact .inr ⟨fun z => e z.symm, h⟩
/-- a slot told less, or by frozen data -/
theorem Rep.told (R : Rep K B F H σ γ) {i : Nat} {t : Sx} (ht : ∀ s, σ[i]? = some s → SlotOk K B F H s t) (hn : ∀ p c, t ≠ .own p c) : Rep K B F H σ (put γ i t) := by
  have key : ∀ {j : Nat} {p : Option Nat} {c : OC}, (put γ i t)[j]? = some (.own p c) → γ[j]? = some (.own p c) := fun h => by
    rcases get_put h with ⟨_, e⟩ | ⟨_, e⟩
    · exact absurd e.symm (hn _ _)
    · exact e
  refine ⟨R.fh, by rw [put_len]; exact R.len, fun j s u hs hg => ?_, fun i j a p c q c' h1 h2 => R.nd i j a p c q c' (key h1) (key h2), R.b1, R.b2, R.b3, fun j a p c h1 => R.b4 j a p c (key h1), fun j a p c h1 => R.b5 j a p c (key h1), R.bN, R.bd⟩
  rcases get_put hg with ⟨rfl, rfl⟩ | ⟨_, e⟩
  · exact ht s hs
  · exact R.sl j s u hs e
/-- the thing in slot i is given away -/
theorem Rep.move (R : Rep K B F H σ γ) {i : Nat} {c : OC} (e : look γ i = .own none c) : ∃ a, σ[i]? = some (some (.ref a)) ∧ Rep K B F H σ (put γ i .no) ∧ RNew K B F H σ (put γ i .no) a c := by
  obtain ⟨a, hs, hg, fa, ok⟩ := R.own e
  refine ⟨a, hs, R.told (fun _ _ => trivial) (fun _ _ z => by cases z), fa, ok, (R.b4 i a none c hg hs).2 rfl, R.b5 i a none c hg hs, fun j p c' h1 h2 => ?_⟩
  rcases get_put h1 with ⟨_, z⟩ | ⟨n, z⟩
  · cases z
  · exact n (R.nd j i a p c' none c z hg h2 hs)
/-- the thing in slot i stays from here on -/
theorem Rep.freezeVar (R : Rep K B F H σ γ) {i : Nat} {p : Option Nat} {c : OC} (e : look γ i = .own p c) : ∃ a F', σ[i]? = some (some (.ref a)) ∧ Rep K B F' H σ (put γ i (.val c.data)) ∧ Ex F F' ∧ Rp (B.kz K) F' (.ref a) c.data := by
  obtain ⟨a, hs, hg, fa, ok⟩ := R.own e
  have R0 : Rep K B F H σ (put γ i .no) := R.told (fun _ _ => trivial) (fun _ _ z => by cases z)
  have na : ∀ (j : Nat) q c', (put γ i .no)[j]? = some (.own q c') → σ[j]? ≠ some (some (.ref a)) := fun j q c' h1 h2 => by
    rcases get_put h1 with ⟨_, z⟩ | ⟨n, z⟩
    · cases z
    · exact n (R.nd j i a q c' p c z hg h2 hs)
  have b5 := R.b5 i a p c hg hs
  obtain ⟨F', R', ex, rp⟩ : ∃ F', Rep K B F' H σ (put γ i .no) ∧ Ex F F' ∧ Rp (B.kz K) F' (.ref a) c.data := by
    cases c with
    | lst ds =>
      obtain ⟨vs, h1, h2⟩ := ok
      obtain ⟨R', e⟩ := R0.freeze h1 fa b5 fun i q c' hg => ⟨na i q c' hg, fun x _ z => by cases z⟩
      exact ⟨_, R', e, .lst upd_same (h2.mono e)⟩
    | dct kd =>
      obtain ⟨kv, h1, h2⟩ := ok
      obtain ⟨R', e⟩ := R0.freeze h1 fa b5 fun i q c' hg => ⟨na i q c' hg, fun x _ z => by cases z⟩
      exact ⟨_, R', e, .dct upd_same (h2.mono e)⟩
    | ins C fs =>
      obtain ⟨dx, fv, h1, h2, h3, h4, h5, h6⟩ := ok
      have nad : a ≠ dx := ne_of h1 h2 (fun z => by cases z)
      obtain ⟨R', e⟩ := R0.freeze h2 h3 h5 fun i q c' hg => ⟨fun hs => by
        obtain ⟨_, ok'⟩ := R0.ownObj hg hs
        obtain ⟨o, ho, n⟩ := ok'.obj
        rw [h2] at ho
        exact n a (Option.some.inj ho).symm, fun x hs z => by
        injection z with z
        subst z
        exact na i q c' hg hs⟩
      obtain ⟨R2, e2⟩ := R'.freeze h1 (by rw [upd_ne nad]; exact fa) b5 fun i q c' hg => ⟨na i q c' hg, fun x _ z => by cases z⟩
      exact ⟨_, R2, e.trans e2, .obj upd_same (e2 dx _ upd_same) (h6.mono (e.trans e2))⟩
  refine ⟨a, F', hs, ?_, ex, rp⟩
  have q := R'.told (i := i) (t := .val c.data) (fun s hs' => by rw [hs] at hs'; cases hs'; exact ⟨_, rfl, rp⟩) (fun _ _ z => by cases z)
  have pp : put (put γ i .no) i (.val c.data) = put γ i (.val c.data) := by rw [put_set, put_set, put_set, List.set_set]
  rw [pp] at q
  exact q
end
theorem se_varV {K : PySem.W.Frag} {B : Bs} {i : Nat} : SE K B (tVar i) (dVarV i) := fun F H σ γ Q q R hq k => by
  unfold dVarV at hq
  cases e : look γ i with
  | no => rw [e] at hq; exact hq.elim
  | val d =>
    rw [e] at hq
    obtain ⟨v, hs, r⟩ := R.val e
    exact ⟨v, hs, k v F H γ (.val d) R (Evl.Ex.refl F) r hq⟩
  | own p c =>
    rw [e] at hq
    obtain ⟨a, F', hs, R', ex, rp⟩ := R.freezeVar e
    exact ⟨.ref a, hs, k _ F' H _ (.val c.data) R' ex rp hq⟩
theorem se_varM {K : PySem.W.Frag} {B : Bs} {i : Nat} : SE K B (tVar i) (dVarM i) := fun F H σ γ Q q R hq k => by
  unfold dVarM at hq
  cases e : look γ i with
  | no => rw [e] at hq; exact hq.elim
  | val d =>
    rw [e] at hq
    obtain ⟨v, hs, r⟩ := R.val e
    exact ⟨v, hs, k v F H γ (.val d) R (Evl.Ex.refl F) r hq⟩
  | own p c =>
    rw [e] at hq
    cases p with
    | some k' => exact hq.elim
    | none =>
      obtain ⟨a, hs, R', N⟩ := R.move e
      exact ⟨.ref a, hs, k _ F H _ (.new c) R' (Evl.Ex.refl F) ⟨a, rfl, N⟩ hq⟩
section
variable {x : Str}
theorem xv (i : Nat) (hN : X.N[i]? = some x := by rfl) (hv : Vis X.env.scope x := by first | exact Or.inl rfl | exact Or.inr (Or.inl rfl) | exact Or.inr (Or.inr rfl)) (hd : (x == ("__debug__" : Str)) = false := by decide)
    (hcd : (x == ("__classdict__" : Str)) = false := by decide) : XE X B (.Name x pos) (tVar i) (dVar i) := ⟨pe_var hN hv hd hcd, se_var⟩
theorem xvV (i : Nat) (hN : X.N[i]? = some x := by rfl) (hv : Vis X.env.scope x := by first | exact Or.inl rfl | exact Or.inr (Or.inl rfl) | exact Or.inr (Or.inr rfl)) (hd : (x == ("__debug__" : Str)) = false := by decide)
    (hcd : (x == ("__classdict__" : Str)) = false := by decide) : XE X B (.Name x pos) (tVar i) (dVarV i) := ⟨pe_var hN hv hd hcd, se_varV⟩
theorem xvM (i : Nat) (hN : X.N[i]? = some x := by rfl) (hv : Vis X.env.scope x := by first | exact Or.inl rfl | exact Or.inr (Or.inl rfl) | exact Or.inr (Or.inr rfl)) (hd : (x == ("__debug__" : Str)) = false := by decide)
    (hcd : (x == ("__classdict__" : Str)) = false := by decide) : XE X B (.Name x pos) (tVar i) (dVarM i) := ⟨pe_var hN hv hd hcd, se_varM⟩
end
theorem x_int {i j} : XE X B (.Constant (.int i) j pos) (tC (.int i)) (dC (.int i)) := ⟨pe_int, se_c fun _ _ => .int i⟩
theorem x_bl {i j} : XE X B (.Constant (.bool i) j pos) (tC (.bl i)) (dC (.bl i)) := ⟨pe_bl, se_c fun _ _ => .bl i⟩
theorem x_non {j} : XE X B (.Constant .none j pos) (tC .non) (dC .non) := ⟨pe_non, se_c fun _ _ => .non⟩
theorem x_str {i j} : XE X B (.Constant (.str i) j pos) (tC (.str i)) (dC (.str i)) := ⟨pe_str, se_c fun _ _ => .str i⟩
theorem x_glob {x : Str} {v : V} {d : D} {u : Value} (hg : Gl X x) (hm : X.mg x = some u) (r : RelV v u) (h : ∀ z F, Rp ⟨X.K, z⟩ F v d) (hd : (x == ("__debug__" : Str)) = false := by decide) : XE X B (.Name x pos) (tC v) (dC d) := ⟨pe_glob hg hm r hd, se_c h⟩
end

/-! ### operations -/
def OpD (K : PySem.W.Frag) (r : R2) (f : D → D → (RS → Prop) → Prop) : Prop := ∀ (B : Bs) (F H : Hp) (σ : L2.St) (γ : Env) (x y : V) (d e : D) (Q : VK) (q : RS → Prop), Rep K B F H σ γ → Rs (B.kz K) F H x d → Rs (B.kz K) F H y e → f d e q →
  (∀ v F' H' s, Rep K B F' H' σ γ → Ex F F' → RsOk K B F' H' σ γ v s → q s → Q v H') → r x y H Q
def UnD (K : PySem.W.Frag) (r : V → Hp → VK → Prop) (f : D → (RS → Prop) → Prop) : Prop := ∀ (B : Bs) (F H : Hp) (σ : L2.St) (γ : Env) (x : V) (d : D) (Q : VK) (q : RS → Prop), Rep K B F H σ γ → Rs (B.kz K) F H x d → f d q →
  (∀ v F' H' s, Rep K B F' H' σ γ → Ex F F' → RsOk K B F' H' σ γ v s → q s → Q v H') → r x H Q
def CallD (K : PySem.W.Frag) (r : List V → Hp → VK → Prop) (f : List D → (RS → Prop) → Prop) : Prop := ∀ (B : Bs) (F H : Hp) (σ : L2.St) (γ : Env) (xs : List V) (ds : List D) (Q : VK) (q : RS → Prop), Rep K B F H σ γ → Paired (Rs (B.kz K) F H) xs ds → f ds q →
  (∀ v F' H' s, Rep K B F' H' σ γ → Ex F F' → RsOk K B F' H' σ γ v s → q s → Q v H') → r xs H Q
def d2 (f : D → D → (RS → Prop) → Prop) (da db : DE) (γ : Env) (q : RS → Env → Prop) : Prop := da γ fun s γ1 => db γ1 fun t γ2 => s.ok γ2 ∧ f s.data t.data fun r => q r γ2
def d1 (f : D → (RS → Prop) → Prop) (da : DE) (γ : Env) (q : RS → Env → Prop) : Prop := da γ fun s γ1 => f s.data fun r => q r γ1
section
variable {K : PySem.W.Frag} {B : Bs} {ta tb : TE} {da db : DE}
theorem se_op {r : R2} {f : D → D → (RS → Prop) → Prop} (ho : OpD K r f) (sa : SE K B ta da) (sb : SE K B tb db) : SE K B (tOp r ta tb) (d2 f da db) := fun F H σ γ Q q R hq k => by
  refine sa F H σ γ _ _ R hq fun x F1 H1 γ1 s R1 e1 o1 h1 => ?_
  obtain ⟨F2, R2, e2, o2⟩ := o1.fz R1
  refine sb F2 H1 σ γ1 _ _ R2 h1 fun y F3 H3 γ3 t R3 e3 o3 ⟨h3, h4⟩ => ?_
  obtain ⟨F4, R4, e4, o4⟩ := o3.fz R3
  have ox := o2.later (e3.trans e4) R4 (fz_ok s γ3 h3) (fz_idem s)
  have rx := ox.rs R4
  have ry := o4.rs R4
  rw [RS.fz_data] at rx ry
  exact ho B F4 H3 σ γ3 x y _ _ Q _ R4 rx ry h4 fun v F5 H5 u R5 e5 o5 h5 => k v F5 H5 γ3 u R5 ((((e1.trans e2).trans e3).trans e4).trans e5) o5 h5
theorem se_un {r : V → Hp → VK → Prop} {f : D → (RS → Prop) → Prop} (ho : UnD K r f) (sa : SE K B ta da) : SE K B (tUn r ta) (d1 f da) := fun F H σ γ Q q R hq k => by
  refine sa F H σ γ _ _ R hq fun x F1 H1 γ1 s R1 e1 o1 h1 => ?_
  obtain ⟨F2, R2, e2, o2⟩ := o1.fz R1
  have rx := o2.rs R2
  rw [RS.fz_data] at rx
  exact ho B F2 H1 σ γ1 x _ Q _ R2 rx h1 fun v F5 H5 u R5 e5 o5 h5 => k v F5 H5 γ1 u R5 ((e1.trans e2).trans e5) o5 h5
def dNil (γ : Env) (q : List RS → Env → Prop) : Prop := q [] γ
/-- what a result is by now -/
def RS.now (γ : Env) : RS → (RS → Prop) → Prop
  | .own j _, q => match look γ j with
    | .own _ c => q (.own j c)
    | .val d => q (.val d)
    | .no => False
  | .val d, q => q (.val d)
  | .new c, q => q (.val c.data)
theorem RsOk.now {B : Bs} {F1 H1 F2 H2 : Hp} {σ : L2.St} {γ1 γ2 : Env} {v : V} {s : RS} {q : RS → Prop} (h : RsOk K B F1 H1 σ γ1 v s.fz) (e : Ex F1 F2) (R2 : Rep K B F2 H2 σ γ2) (hq : s.now γ2 q) : ∃ s', RsOk K B F2 H2 σ γ2 v s' ∧ q s' := by
  cases s with
  | val d => exact ⟨.val d, Rp.mono e h, hq⟩
  | new c => exact ⟨.val c.data, Rp.mono e h, hq⟩
  | own j c =>
    obtain ⟨hs, p, hg⟩ := h
    unfold RS.now at hq
    cases el : look γ2 j with
    | no => simp only [el] at hq
    | val d =>
      simp only [el] at hq
      obtain ⟨v', hs', r⟩ := R2.val el
      rw [hs] at hs'
      cases hs'
      exact ⟨.val d, r, hq⟩
    | own p' c' =>
      simp only [el] at hq
      obtain ⟨a, hs', hg', _⟩ := R2.own el
      exact ⟨.own j c', ⟨hs, p', hg'⟩, hq⟩
def dCons (da : DE) (dr : DA) (γ : Env) (q : List RS → Env → Prop) : Prop := da γ fun s γ1 => dr γ1 fun rs γ2 => s.now γ2 fun s' => q (s' :: rs) γ2
theorem sa_nil : SA K B tNil dNil := fun F H σ γ Q q R hq k => k [] F H γ [] R (Evl.Ex.refl F) .nil hq
theorem sa_cons {tr : TA} {dr : DA} (sa : SE K B ta da) (sr : SA K B tr dr) : SA K B (tCons ta tr) (dCons da dr) := fun F H σ γ Q q R hq k => by
  refine sa F H σ γ _ _ R hq fun x F1 H1 γ1 s R1 e1 o1 h1 => ?_
  obtain ⟨F2, R2, e2, o2⟩ := o1.fz R1
  refine sr F2 H1 σ γ1 _ _ R2 h1 fun vs F3 H3 γ3 rs R3 e3 o3 h3 => ?_
  obtain ⟨s', o4, h4⟩ := o2.now e3 R3 h3
  exact k _ F3 H3 γ3 _ R3 ((e1.trans e2).trans e3) (.cons o4 o3) h4
/-- the data of arguments -/
def dCB (f : List D → (RS → Prop) → Prop) (da : DA) (γ : Env) (q : RS → Env → Prop) : Prop := da γ fun rs γ1 => f (rs.map RS.data) fun r => q r γ1
theorem rs_all {B : Bs} {F H : Hp} {σ : L2.St} {γ : Env} (R : Rep K B F H σ γ) : ∀ {vs : List V} {rs : List RS}, Paired (RsOk K B F H σ γ) vs rs → Paired (Rs (B.kz K) F H) vs (rs.map RS.data)
  | _, _, .nil => .nil
  | _, _, .cons h t => .cons (h.rs R) (rs_all R t)
theorem se_cb {ta : TA} {da : DA} {r : List V → Hp → VK → Prop} {f : List D → (RS → Prop) → Prop} (ho : CallD K r f) (sa : SA K B ta da) : SE K B (tCB r ta) (dCB f da) := fun F H σ γ Q q R hq k => by
  refine sa F H σ γ _ _ R hq fun vs F1 H1 γ1 rs R1 e1 o1 h1 => ?_
  exact ho B F1 H1 σ γ1 vs _ Q _ R1 (rs_all R1 o1) h1 fun v F5 H5 u R5 e5 o5 h5 => k v F5 H5 γ1 u R5 (e1.trans e5) o5 h5
end
section
variable {X : Cx} {B : Bs} {pos : Pos} {a b : Expr} {ta tb : TE} {da db : DE}
theorem x_op {op : Operator} {r : R2} {f : D → D → (RS → Prop) → Prop} (ho : OpR X (binaryOp op) r) (hd : OpD X.K r f) (ha : XE X B a ta da) (hb : XE X B b tb db) : XE X B (.BinOp a op b pos) (tOp r ta tb) (d2 f da db) := ⟨pe_op ho ha.pe hb.pe, se_op hd ha.se hb.se⟩
theorem x_un {op : UnaryOp} {r : V → Hp → VK → Prop} {f : D → (RS → Prop) → Prop} (ho : UnR X (unaryOp op) r) (hd : UnD X.K r f) (ha : XE X B a ta da) : XE X B (.UnaryOp op a pos) (tUn r ta) (d1 f da) := ⟨pe_un ho ha.pe, se_un hd ha.se⟩
theorem x_cmp {op : CmpOp} {r : R2} {f : D → D → (RS → Prop) → Prop} (ho : OpR X (compareOp op) r) (hd : OpD X.K r f) (ha : XE X B a ta da) (hb : XE X B b tb db) (hm : behindInMarks op b = false := by first | exact nomark _ | rfl) : XE X B (.Compare a [op] [b] pos) (tOp r ta tb) (d2 f da db) := ⟨pe_cmpR ho ha.pe hb.pe hm, se_op hd ha.se hb.se⟩
theorem x_ix {r : R2} {f : D → D → (RS → Prop) → Prop} (ho : IxR X r) (hd : OpD X.K r f) (ha : XE X B a ta da) (hb : XE X B b tb db) (hs : PlainIx b := by exact fun _ _ => rfl) : XE X B (.Subscript a b pos) (tOp r ta tb) (d2 f da db) := ⟨pe_ix ho ha.pe hb.pe hs, se_op hd ha.se hb.se⟩
theorem xa_nil : XA X B [] tNil dNil := ⟨pa_nil, sa_nil⟩
theorem xa_cons {es : List Expr} {tr : TA} {dr : DA} (ha : XE X B a ta da) (hr : XA X B es tr dr) (hs : starEach (a :: es) X.env = (false, eval a X.env) :: starEach es X.env := by rfl) : XA X B (a :: es) (tCons ta tr) (dCons da dr) := ⟨pa_cons ha.pe hr.pa hs, sa_cons ha.se hr.sa⟩
theorem x_cb {id : String} {es : List Expr} {x : Str} {p : Pos} {tl : TA} {dl : DA} {r : List V → Hp → VK → Prop} {f : List D → (RS → Prop) → Prop} (hc : CallR X (.builtin id) r) (hd : CallD X.K r f) (hm : X.mg x = none) (hl : XA X B (a :: es) tl dl)
    (hg : Gl X x := by rfl) (hv : bootBuiltins x = some (.builtin id) := by decide +kernel) (hn : x ≠ "__name__" := by decide) (hdb : (x == ("__debug__" : Str)) = false := by decide)
    (he : starEach (a :: es) X.env = (false, eval a X.env) :: starEach es X.env := by rfl) (hpl : (backTo pos (starEach es X.env)).any (·.1) = false := by rfl) : XE X B (.Call (.Name x p) (a :: es) [] pos) (tCB r tl) (dCB f dl) := ⟨pe_callB hc hg hm hv hl.pa hn hdb he hpl, se_cb hd hl.sa⟩
theorem x_ct {T : String} {es : List Expr} {x : Str} {p : Pos} {tl : TA} {dl : DA} {r : List V → Hp → VK → Prop} {f : List D → (RS → Prop) → Prop} (hc : CallR X (.type T) r) (hd : CallD X.K r f) (hm : X.mg x = none) (hl : XA X B (a :: es) tl dl)
    (hg : Gl X x := by rfl) (hv : bootBuiltins x = some (.type T) := by decide +kernel) (hn : x ≠ "__name__" := by decide) (hdb : (x == ("__debug__" : Str)) = false := by decide)
    (he : starEach (a :: es) X.env = (false, eval a X.env) :: starEach es X.env := by rfl) (hpl : (backTo pos (starEach es X.env)).any (·.1) = false := by rfl) : XE X B (.Call (.Name x p) (a :: es) [] pos) (tCB r tl) (dCB f dl) := ⟨pe_callTy hc hg hm hv hl.pa hn hdb he hpl, se_cb hd hl.sa⟩
end
end DL

set_option Elab.async false
set_option linter.all false
set_option maxRecDepth 100000
set_option maxHeartbeats 2000000
namespace DL
open PySem PySem.Spec PyProof.Rows L2
open Evl (Ex ex_l ex_t)
theorem sz_le {n : Nat} (h : n ≤ 1000000) : n ≤ sizeLine := Nat.le_trans h (by decide)

/-! ### new things -/
section
variable {K : PySem.W.Frag} {B : Bs} {F H : Hp} {σ : L2.St} {γ : Env} {p : Addr} {vs : List V} {ds : List D}
theorem Rep.newL (R : Rep K B F H σ γ) (hp : H p = none) (h : RpAll (B.kz K) F vs ds) : Rep K B F (upd H p (.lst vs)) σ γ ∧ RsOk K B F (upd H p (.lst vs)) σ γ (.ref p) (.new (.lst ds)) := by
  obtain ⟨f1, f2, f3, f4⟩ := R.fresh hp
  exact ⟨R.alloc _ hp, p, rfl, f1, ⟨vs, upd_same, h⟩, f3, .inr f2, f4⟩
theorem Rep.newT (R : Rep K B F H σ γ) (hp : H p = none) (h : RpAll (B.kz K) F vs ds) : Rep K B (upd F p (.tup vs)) (upd H p (.tup vs)) σ γ ∧ Ex F (upd F p (.tup vs)) ∧ Rp (B.kz K) (upd F p (.tup vs)) (.ref p) (.tup ds) := by
  obtain ⟨f1, f2, f3, f4⟩ := R.fresh hp
  obtain ⟨R2, e⟩ := (R.alloc (.tup vs) hp).freeze (a := p) (o := .tup vs) upd_same f1 (.inr f2) fun i q c' hg => ⟨f4 i q c' hg, fun x _ z => by cases z⟩
  exact ⟨R2, e, .tup (Evl.st_of upd_same) (h.mono e)⟩
end

/-! ### operations on numbers, texts, truths -/
theorem vk {K : PySem.W.Frag} {B : Bs} {F H : Hp} {σ : L2.St} {γ : Env} {v : V} {d : D} {Q : VK} {q : RS → Prop} (R : Rep K B F H σ γ) (k : ∀ v F' H' s, Rep K B F' H' σ γ → Ex F F' → RsOk K B F' H' σ γ v s → q s → Q v H')
    (r : Rp (B.kz K) F v d) (hq : q (.val d)) : Q v H := k v F H (.val d) R (Evl.Ex.refl F) r hq
def fI0 (g : Int → Int → D) : D → D → (RS → Prop) → Prop
  | .int i, .int j, q => q (.val (g i j))
  | _, _, _ => False
def fI (C : Int → Int → Prop) (g : Int → Int → D) : D → D → (RS → Prop) → Prop
  | .int i, .int j, q => C i j ∧ q (.val (g i j))
  | _, _, _ => False
def fU (g : Int → D) : D → (RS → Prop) → Prop
  | .int i, q => q (.val (g i))
  | _, _ => False
section
variable {K : PySem.W.Frag} {B : Bs}
theorem od_I0 {gv : Int → Int → V} {g : Int → Int → D} (h : ∀ i j z F, Rp ⟨K, z⟩ F (gv i j) (g i j)) : OpD K (rI0 gv) (fI0 g) := fun B F H σ γ x y d e Q q R rx ry hf k => by
  unfold fI0 at hf
  split at hf
  · exact ⟨_, _, rx.int, ry.int, vk R k (h _ _ _ F) hf⟩
  · exact hf.elim
theorem od_I {C : Int → Int → Prop} {gv : Int → Int → V} {g : Int → Int → D} (h : ∀ i j z F, Rp ⟨K, z⟩ F (gv i j) (g i j)) : OpD K (rI C gv) (fI C g) := fun B F H σ γ x y d e Q q R rx ry hf k => by
  unfold fI at hf
  split at hf
  · exact ⟨_, _, rx.int, ry.int, hf.1, vk R k (h _ _ _ F) hf.2⟩
  · exact hf.elim
theorem ud_U {gv : Int → V} {g : Int → D} (h : ∀ i z F, Rp ⟨K, z⟩ F (gv i) (g i)) : UnD K (rU gv) (fU g) := fun B F H σ γ x d Q q R rx hf k => by
  unfold fU at hf
  split at hf
  · exact ⟨_, rx.int, vk R k (h _ _ F) hf⟩
  · exact hf.elim
theorem od_add : OpD K (rI0 fun i j => .int (i + j)) (fI0 fun i j => .int (i + j)) := od_I0 fun _ _ _ _ => .int _
theorem od_sub : OpD K (rI0 fun i j => .int (i - j)) (fI0 fun i j => .int (i - j)) := od_I0 fun _ _ _ _ => .int _
theorem od_mul : OpD K (rI CMul fun i j => .int (i * j)) (fI CMul fun i j => .int (i * j)) := od_I fun _ _ _ _ => .int _
theorem od_fdiv : OpD K (rI CDiv fun i j => .int (i / j)) (fI CDiv fun i j => .int (i / j)) := od_I fun _ _ _ _ => .int _
theorem od_mod : OpD K (rI (fun _ j => 0 < j) fun i j => .int (i % j)) (fI (fun _ j => 0 < j) fun i j => .int (i % j)) := od_I fun _ _ _ _ => .int _
theorem od_mulW : OpD K (rI CMulW fun i j => .int (i * j)) (fI CMulW fun i j => .int (i * j)) := od_I fun _ _ _ _ => .int _
theorem od_fdivW : OpD K (rI CDivW fun i j => .int (i / j)) (fI CDivW fun i j => .int (i / j)) := od_I fun _ _ _ _ => .int _
theorem od_pow : OpD K (rI CPow fun i j => .int (i ^ j.toNat)) (fI CPow fun i j => .int (i ^ j.toNat)) := od_I fun _ _ _ _ => .int _
theorem od_shl : OpD K (rI CPow fun i j => .int (i * 2 ^ j.toNat)) (fI CPow fun i j => .int (i * 2 ^ j.toNat)) := od_I fun _ _ _ _ => .int _
theorem od_shr : OpD K (rI (fun _ j => 0 ≤ j) fun i j => .int (i / 2 ^ j.toNat)) (fI (fun _ j => 0 ≤ j) fun i j => .int (i / 2 ^ j.toNat)) := od_I fun _ _ _ _ => .int _
theorem od_bit {g : Int → Int → Int} : OpD K (rI0 fun i j => .int (g i j)) (fI0 fun i j => .int (g i j)) := od_I0 fun _ _ _ _ => .int _
theorem od_lt : OpD K (rI0 fun i j => .bl (decide (i < j))) (fI0 fun i j => .bl (decide (i < j))) := od_I0 fun _ _ _ _ => .bl _
theorem od_le : OpD K (rI0 fun i j => .bl (decide (i ≤ j))) (fI0 fun i j => .bl (decide (i ≤ j))) := od_I0 fun _ _ _ _ => .bl _
theorem od_gt : OpD K (rI0 fun i j => .bl (decide (j < i))) (fI0 fun i j => .bl (decide (j < i))) := od_I0 fun _ _ _ _ => .bl _
theorem od_ge : OpD K (rI0 fun i j => .bl (decide (j ≤ i))) (fI0 fun i j => .bl (decide (j ≤ i))) := od_I0 fun _ _ _ _ => .bl _
theorem ud_neg : UnD K (rU fun i => .int (-i)) (fU fun i => .int (-i)) := ud_U fun _ _ _ => .int _
/-- == of flat things of the kinds that are met -/
def fEq : D → D → (RS → Prop) → Prop
  | .int i, .int j, q => q (.val (.bl (decide (i = j))))
  | .str i, .str j, q => q (.val (.bl (decide (i = j))))
  | .bl i, .bl j, q => q (.val (.bl (decide (i = j))))
  | .non, .non, q => q (.val (.bl true))
  | .int _, .non, q => q (.val (.bl false))
  | .non, .int _, q => q (.val (.bl false))
  | .str _, .non, q => q (.val (.bl false))
  | .non, .str _, q => q (.val (.bl false))
  | .int _, .str _, q => q (.val (.bl false))
  | .str _, .int _, q => q (.val (.bl false))
  | _, _, _ => False
def fNe : D → D → (RS → Prop) → Prop
  | .int i, .int j, q => q (.val (.bl (!decide (i = j))))
  | .str i, .str j, q => q (.val (.bl (!decide (i = j))))
  | .bl i, .bl j, q => q (.val (.bl (!decide (i = j))))
  | .non, .non, q => q (.val (.bl false))
  | .int _, .non, q => q (.val (.bl true))
  | .non, .int _, q => q (.val (.bl true))
  | .str _, .non, q => q (.val (.bl true))
  | .non, .str _, q => q (.val (.bl true))
  | .int _, .str _, q => q (.val (.bl true))
  | .str _, .int _, q => q (.val (.bl true))
  | _, _, _ => False
theorem dec_inj {α : Type} [DecidableEq α] (f : α → V) (h : ∀ a b, f a = f b → a = b) (a b : α) : decide (f a = f b) = decide (a = b) := by
  by_cases e : a = b
  · subst e; simp
  · rw [decide_eq_false e, decide_eq_false fun z => e (h _ _ z)]
theorem od_eq : OpD K rEq fEq := fun B F H σ γ x y d e Q q R rx ry hf k => by
  unfold fEq at hf
  split at hf
  all_goals first
    | exact hf.elim
    | (rw [rx.int, ry.int]; exact ⟨rfl, by rw [dec_inj V.int (fun _ _ e => V.int.inj e)]; exact vk R k (.bl _) hf⟩)
    | (rw [rx.str, ry.str]; exact ⟨rfl, by rw [dec_inj V.str (fun _ _ e => V.str.inj e)]; exact vk R k (.bl _) hf⟩)
    | (rw [rx.bl, ry.bl]; exact ⟨rfl, by rw [dec_inj V.bl (fun _ _ e => V.bl.inj e)]; exact vk R k (.bl _) hf⟩)
    | (rw [rx.non, ry.non]; exact ⟨rfl, vk R k (.bl _) hf⟩)
    | (rw [rx.int, ry.non]; exact ⟨rfl, vk R k (.bl _) hf⟩)
    | (rw [rx.non, ry.int]; exact ⟨rfl, vk R k (.bl _) hf⟩)
    | (rw [rx.str, ry.non]; exact ⟨rfl, vk R k (.bl _) hf⟩)
    | (rw [rx.non, ry.str]; exact ⟨rfl, vk R k (.bl _) hf⟩)
    | (rw [rx.int, ry.str]; exact ⟨rfl, vk R k (.bl _) hf⟩)
    | (rw [rx.str, ry.int]; exact ⟨rfl, vk R k (.bl _) hf⟩)
theorem od_ne : OpD K rNe fNe := fun B F H σ γ x y d e Q q R rx ry hf k => by
  unfold fNe at hf
  split at hf
  all_goals first
    | exact hf.elim
    | (rw [rx.int, ry.int]; exact ⟨rfl, by rw [dec_inj V.int (fun _ _ e => V.int.inj e)]; exact vk R k (.bl _) hf⟩)
    | (rw [rx.str, ry.str]; exact ⟨rfl, by rw [dec_inj V.str (fun _ _ e => V.str.inj e)]; exact vk R k (.bl _) hf⟩)
    | (rw [rx.bl, ry.bl]; exact ⟨rfl, by rw [dec_inj V.bl (fun _ _ e => V.bl.inj e)]; exact vk R k (.bl _) hf⟩)
    | (rw [rx.non, ry.non]; exact ⟨rfl, vk R k (.bl _) hf⟩)
    | (rw [rx.int, ry.non]; exact ⟨rfl, vk R k (.bl _) hf⟩)
    | (rw [rx.non, ry.int]; exact ⟨rfl, vk R k (.bl _) hf⟩)
    | (rw [rx.str, ry.non]; exact ⟨rfl, vk R k (.bl _) hf⟩)
    | (rw [rx.non, ry.str]; exact ⟨rfl, vk R k (.bl _) hf⟩)
    | (rw [rx.int, ry.str]; exact ⟨rfl, vk R k (.bl _) hf⟩)
    | (rw [rx.str, ry.int]; exact ⟨rfl, vk R k (.bl _) hf⟩)
def fIsN : D → D → (RS → Prop) → Prop
  | .non, .non, q => q (.val (.bl true))
  | _, .non, q => q (.val (.bl false))
  | _, _, _ => False
def fNotN : D → D → (RS → Prop) → Prop
  | .non, .non, q => q (.val (.bl false))
  | _, .non, q => q (.val (.bl true))
  | _, _, _ => False
theorem Rs.ne_non {K : KZ} {F H : Hp} {v : V} {d : D} (h : Rs K F H v d) (n : d ≠ .non) : v ≠ .non := fun e => by
  subst e
  rcases h with h | ⟨a, z, _⟩
  · cases h; exact n rfl
  · cases z
theorem od_isN : OpD K (fun x y H Q => y = .non ∧ Q (.bl (decide (x = .non))) H) fIsN := fun B F H σ γ x y d e Q q R rx ry hf k => by
  unfold fIsN at hf
  split at hf
  · rw [rx.non]; exact ⟨ry.non, vk R k (.bl _) hf⟩
  · rename_i n
    refine ⟨ry.non, ?_⟩
    rw [decide_eq_false (rx.ne_non fun z => n z)]
    exact vk R k (.bl _) hf
  · exact hf.elim
theorem od_notN : OpD K (fun x y H Q => y = .non ∧ Q (.bl (!decide (x = .non))) H) fNotN := fun B F H σ γ x y d e Q q R rx ry hf k => by
  unfold fNotN at hf
  split at hf
  · rw [rx.non]; exact ⟨ry.non, vk R k (.bl _) hf⟩
  · rename_i n
    refine ⟨ry.non, ?_⟩
    rw [decide_eq_false (rx.ne_non fun z => n z)]
    exact vk R k (.bl _) hf
  · exact hf.elim
def fAddS : D → D → (RS → Prop) → Prop
  | .str i, .str j, q => i.length + j.length ≤ 1000000 ∧ q (.val (.str (i ++ j)))
  | _, _, _ => False
theorem od_addS : OpD K (fun x y H Q => ∃ i j, x = .str i ∧ y = .str j ∧ i.length + j.length ≤ sizeLine ∧ Q (.str (i ++ j)) H) fAddS := fun B F H σ γ x y d e Q q R rx ry hf k => by
  unfold fAddS at hf
  split at hf
  · exact ⟨_, _, rx.str, ry.str, sz_le hf.1, vk R k (.str _) hf.2⟩
  · exact hf.elim
def fLtS : D → D → (RS → Prop) → Prop
  | .str i, .str j, q => q (.val (.bl (decide (i.cps.toList < j.cps.toList))))
  | _, _, _ => False
theorem od_ltS : OpD K (fun x y H Q => ∃ i j, x = .str i ∧ y = .str j ∧ Q (.bl (decide (i.cps.toList < j.cps.toList))) H) fLtS := fun B F H σ γ x y d e Q q R rx ry hf k => by
  unfold fLtS at hf
  split at hf
  · exact ⟨_, _, rx.str, ry.str, vk R k (.bl _) hf⟩
  · exact hf.elim
end

/-! ### lists and tuples -/
section
variable {K : PySem.W.Frag} {B : Bs} {F H : Hp}
theorem rp_ints {K : KZ} : ∀ {vs : List V} {ns : List Int}, RpAll K F vs (ns.map D.int) → vs = ns.map V.int
  | _, [], .nil => rfl
  | _, n :: ns, .cons h t => by
    cases h
    rw [List.map_cons, rp_ints t]
theorem rp_bls {K : KZ} : ∀ {vs : List V} {ns : List Bool}, RpAll K F vs (ns.map D.bl) → vs = ns.map V.bl
  | _, [], .nil => rfl
  | _, n :: ns, .cons h t => by
    cases h
    rw [List.map_cons, rp_bls t]
theorem rp_strs {K : KZ} : ∀ {vs : List V} {ns : List Str}, RpAll K F vs (ns.map D.str) → vs = ns.map V.str
  | _, [], .nil => rfl
  | _, n :: ns, .cons h t => by
    cases h
    rw [List.map_cons, rp_strs t]
theorem ints_rp {K : KZ} : ∀ ns : List Int, RpAll K F (ns.map V.int) (ns.map D.int)
  | [] => .nil
  | n :: ns => .cons (.int n) (ints_rp ns)
theorem strs_rp {K : KZ} : ∀ ns : List Str, RpAll K F (ns.map V.str) (ns.map D.str)
  | [] => .nil
  | n :: ns => .cons (.str n) (strs_rp ns)
theorem bls_rp {K : KZ} : ∀ ns : List Bool, RpAll K F (ns.map V.bl) (ns.map D.bl)
  | [] => .nil
  | n :: ns => .cons (.bl n) (bls_rp ns)
theorem Rs.scr {K : KZ} {ns : List Int} {v : V} (e : Ex F H) (h : Rs K F H v (.scr ns)) : ∃ a, v = .ref a ∧ SqL K H a (ns.map V.int) := by
  rcases h with h | ⟨a, rfl, ⟨_, _, e, _⟩ | ⟨_, _, _, _, e, _⟩ | ⟨_, _, e, _⟩⟩
  · cases h with
    | scr h1 => exact ⟨_, rfl, ex_l e h1⟩
  all_goals cases e
theorem Rs.seq {K : KZ} {ds : List D} {v : V} {d : D} (e : Ex F H) (h : Rs K F H v d) (hd : d = .lst ds ∨ d = .tup ds ∨ (∃ ns, d = .scr ns ∧ ds = ns.map D.int)) : ∃ a vs, v = .ref a ∧ (SqL K H a vs ∨ SqT K H a vs) ∧ RpAll K F vs ds := by
  rcases hd with rfl | rfl | ⟨ns, rfl, rfl⟩
  · obtain ⟨a, vs, h1, h2, h3⟩ := h.lst e; exact ⟨a, vs, h1, .inl (Evl.sq_of h2), h3⟩
  · obtain ⟨a, vs, h1, h2, h3⟩ := h.tup e; exact ⟨a, vs, h1, .inr h2, h3⟩
  · obtain ⟨a, h1, h2⟩ := h.scr e; exact ⟨a, _, h1, .inl h2, ints_rp ns⟩
def fCat : D → D → (RS → Prop) → Prop
  | .lst xs, .lst ys, q => xs.length + ys.length ≤ 1000000 ∧ q (.new (.lst (xs ++ ys)))
  | _, _, _ => False
theorem od_cat : OpD K rCat fCat := fun B F H σ γ x y d e Q q R rx ry hf k => by
  unfold fCat at hf
  split at hf
  · obtain ⟨a, vs, rfl, h1, r1⟩ := rx.lst R.fh
    obtain ⟨b, ws, rfl, h2, r2⟩ := ry.lst R.fh
    refine ⟨a, b, vs, ws, rfl, rfl, h1, h2, sz_le (by rw [r1.length, r2.length]; exact hf.1), fun p hp => ?_⟩
    obtain ⟨R', ok⟩ := R.newL hp (RpAll.of (P_app r1.p r2.p))
    exact k _ F _ _ R' (Evl.Ex.refl F) ok hf.2
  · exact hf.elim
def fRep : D → D → (RS → Prop) → Prop
  | .lst xs, .int n, q => -1000000 ≤ n ∧ n ≤ 1000000 ∧ xs.length * n.toNat ≤ 1000000 ∧ q (.new (.lst (List.replicate n.toNat xs).flatten))
  | _, _, _ => False
theorem od_rep : OpD K rRep fRep := fun B F H σ γ x y d e Q q R rx ry hf k => by
  unfold fRep at hf
  split at hf
  · obtain ⟨a, vs, rfl, h1, r1⟩ := rx.lst R.fh
    obtain ⟨n1, n2, n3, hq⟩ := hf
    refine ⟨a, _, vs, rfl, ry.int, h1, by omega, by omega, sz_le (by rw [r1.length]; exact n3), fun p hp => ?_⟩
    obtain ⟨R', ok⟩ := R.newL hp (RpAll.of (P_rep r1.p _))
    exact k _ F _ _ R' (Evl.Ex.refl F) ok hq
  · exact hf.elim
theorem atI_p {G : V → D → Prop} {vs : List V} {ds : List D} {i : Int} {d : D} (h : Paired G vs ds) (e : atI ds i = some d) : ∃ v, atI vs i = some v ∧ G v d := by
  unfold atI at e ⊢
  rw [P_len h]
  cases hn : ixN ds.length i with
  | none => rw [hn] at e; cases e
  | some j =>
    rw [hn] at e
    exact P_get h e
def fIxL : D → D → (RS → Prop) → Prop
  | .lst xs, .int i, q => ∃ d, atI xs i = some d ∧ q (.val d)
  | .scr ns, .int i, q => ∃ n, atI ns i = some n ∧ q (.val (.int n))
  | _, _, _ => False
theorem atI_map {α β : Type} {f : α → β} {xs : List α} {i : Int} {x : α} (h : atI xs i = some x) : atI (xs.map f) i = some (f x) := by
  unfold atI at h ⊢
  rw [List.length_map]
  cases hn : ixN xs.length i with
  | none => rw [hn] at h; cases h
  | some j =>
    rw [hn] at h
    show (xs.map f)[j]? = _
    rw [List.getElem?_map, show xs[j]? = some x from h]; rfl
theorem od_ixL : OpD K (rIxL K) fIxL := fun B F H σ γ x y d e Q q R rx ry hf k => by
  unfold fIxL at hf
  split at hf
  · obtain ⟨a, vs, rfl, h1, r1⟩ := rx.lst R.fh
    obtain ⟨d, hd, hq⟩ := hf
    obtain ⟨v, hv, rv⟩ := atI_p r1.p hd
    exact ⟨a, vs, _, v, rfl, ry.int, Evl.sq_of h1, hv, vk R k rv hq⟩
  · obtain ⟨a, rfl, h1⟩ := rx.scr R.fh
    obtain ⟨n, hn, hq⟩ := hf
    exact ⟨a, _, _, .int n, rfl, ry.int, h1, atI_map hn, vk R k (.int n) hq⟩
  · exact hf.elim
def fIxT : D → D → (RS → Prop) → Prop
  | .tup xs, .int i, q => ∃ d, atI xs i = some d ∧ q (.val d)
  | _, _, _ => False
theorem od_ixT : OpD K (rIxT K) fIxT := fun B F H σ γ x y d e Q q R rx ry hf k => by
  unfold fIxT at hf
  split at hf
  · obtain ⟨a, vs, rfl, h1, r1⟩ := rx.tup R.fh
    obtain ⟨d, hd, hq⟩ := hf
    obtain ⟨v, hv, rv⟩ := atI_p r1.p hd
    exact ⟨a, vs, _, v, rfl, ry.int, h1, hv, vk R k rv hq⟩
  · exact hf.elim
def fIxS : D → D → (RS → Prop) → Prop
  | .str z, .int i, q => z.length ≤ 1000000 ∧ ∃ c, atI z.cps.toList i = some c ∧ q (.val (.str ⟨#[c]⟩))
  | _, _, _ => False
theorem od_ixS : OpD K rIxS fIxS := fun B F H σ γ x y d e Q q R rx ry hf k => by
  unfold fIxS at hf
  split at hf
  · obtain ⟨hz, c, hc, hq⟩ := hf
    exact ⟨_, _, c, rx.str, ry.int, sz_le hz, hc, vk R k (.str _) hq⟩
  · exact hf.elim

/-! ### built-in calls -/
def fLen : List D → (RS → Prop) → Prop
  | [.lst xs], q => q (.val (.int xs.length))
  | [.tup xs], q => q (.val (.int xs.length))
  | [.scr xs], q => q (.val (.int xs.length))
  | _, _ => False
theorem one_rs {P : V → D → Prop} {xs : List V} {d : D} (h : Paired P xs [d]) : ∃ x, xs = [x] ∧ P x d := by
  cases h with
  | cons r t => cases t; exact ⟨_, rfl, r⟩
theorem two_rs {P : V → D → Prop} {xs : List V} {d e : D} (h : Paired P xs [d, e]) : ∃ x y, xs = [x, y] ∧ P x d ∧ P y e := by
  cases h with
  | cons r t =>
    obtain ⟨y, rfl, ry⟩ := one_rs t
    exact ⟨_, _, rfl, r, ry⟩
theorem cd_len : CallD K (fun xs H Q => ∃ p ys, xs = [.ref p] ∧ (SqL K H p ys ∨ SqT K H p ys) ∧ Q (.int ys.length) H) fLen := fun B F H σ γ xs ds Q q R rx hf k => by
  unfold fLen at hf
  split at hf
  · obtain ⟨x, rfl, r⟩ := one_rs rx
    obtain ⟨a, vs, rfl, h1, r1⟩ := r.seq R.fh (.inl rfl)
    exact ⟨a, vs, rfl, h1, by rw [r1.length]; exact vk R k (.int _) hf⟩
  · obtain ⟨x, rfl, r⟩ := one_rs rx
    obtain ⟨a, vs, rfl, h1, r1⟩ := r.seq R.fh (.inr (.inl rfl))
    exact ⟨a, vs, rfl, h1, by rw [r1.length]; exact vk R k (.int _) hf⟩
  · obtain ⟨x, rfl, r⟩ := one_rs rx
    obtain ⟨a, vs, rfl, h1, r1⟩ := r.seq R.fh (.inr (.inr ⟨_, rfl, rfl⟩))
    refine ⟨a, vs, rfl, h1, ?_⟩
    have e := r1.length
    rw [List.length_map] at e
    rw [e]; exact vk R k (.int _) hf
  · exact hf.elim
def fLenS : List D → (RS → Prop) → Prop
  | [.str x], q => x.length ≤ 1000000 ∧ q (.val (.int x.length))
  | _, _ => False
theorem cd_lenS : CallD K (fun xs H Q => ∃ z, xs = [.str z] ∧ z.length ≤ sizeLine ∧ Q (.int z.length) H) fLenS := fun B F H σ γ xs ds Q q R rx hf k => by
  unfold fLenS at hf
  split at hf
  · obtain ⟨x, rfl, r⟩ := one_rs rx
    rw [r.str]
    exact ⟨_, rfl, sz_le hf.1, vk R k (.int _) hf.2⟩
  · exact hf.elim
def fInt : List D → (RS → Prop) → Prop
  | [.int i], q => q (.val (.int i))
  | [.bl b], q => q (.val (.int (if b then 1 else 0)))
  | _, _ => False
theorem cd_int : CallD K (fun xs H Q => (∃ i, xs = [.int i] ∧ Q (.int i) H) ∨ ∃ k, xs = [.bl k] ∧ Q (.int (if k then 1 else 0)) H) fInt := fun B F H σ γ xs ds Q q R rx hf k => by
  unfold fInt at hf
  split at hf
  · obtain ⟨x, rfl, r⟩ := one_rs rx
    rw [r.int]
    exact .inl ⟨_, rfl, vk R k (.int _) hf⟩
  · obtain ⟨x, rfl, r⟩ := one_rs rx
    rw [r.bl]
    exact .inr ⟨_, rfl, vk R k (.int _) hf⟩
  · exact hf.elim
def fAbs : List D → (RS → Prop) → Prop
  | [.int i], q => q (.val (.int (if i < 0 then -i else i)))
  | _, _ => False
theorem cd_abs : CallD K (fun xs H Q => ∃ i, xs = [.int i] ∧ Q (.int (if i < 0 then -i else i)) H) fAbs := fun B F H σ γ xs ds Q q R rx hf k => by
  unfold fAbs at hf
  split at hf
  · obtain ⟨x, rfl, r⟩ := one_rs rx
    rw [r.int]
    exact ⟨_, rfl, vk R k (.int _) hf⟩
  · exact hf.elim
def fI2 (g : Int → Int → Int) : List D → (RS → Prop) → Prop
  | [.int i, .int j], q => q (.val (.int (g i j)))
  | _, _ => False
theorem cd_I2 {g : Int → Int → Int} : CallD K (fun xs H Q => ∃ i j, xs = [.int i, .int j] ∧ Q (.int (g i j)) H) (fI2 g) := fun B F H σ γ xs ds Q q R rx hf k => by
  unfold fI2 at hf
  split at hf
  · obtain ⟨x, y, rfl, r, r'⟩ := two_rs rx
    rw [r.int, r'.int]
    exact ⟨_, _, rfl, vk R k (.int _) hf⟩
  · exact hf.elim
def fSum : List D → (RS → Prop) → Prop
  | [.lst ds], q => ∃ ns : List Int, ds = ns.map D.int ∧ q (.val (.int ns.sum))
  | _, _ => False
theorem cd_sum : CallD K (rSum K) fSum := fun B F H σ γ xs ds Q q R rx hf k => by
  unfold fSum at hf
  split at hf
  · obtain ⟨x, rfl, r⟩ := one_rs rx
    obtain ⟨ns, rfl, hq⟩ := hf
    obtain ⟨a, vs, rfl, h1, r1⟩ := r.lst R.fh
    rw [rp_ints r1] at h1
    exact ⟨a, ns, rfl, Evl.sq_of h1, vk R k (.int _) hq⟩
  · exact hf.elim
def fMin : List D → (RS → Prop) → Prop
  | [.lst ds], q => ∃ ns : List Int, ds = ns.map D.int ∧ 0 < ns.length ∧ ∀ m, m ∈ ns → (∀ y, y ∈ ns → m ≤ y) → q (.val (.int m))
  | _, _ => False
theorem cd_min : CallD K (rMin K) fMin := fun B F H σ γ xs ds Q q R rx hf k => by
  unfold fMin at hf
  split at hf
  · obtain ⟨x, rfl, r⟩ := one_rs rx
    obtain ⟨ns, rfl, hl, hq⟩ := hf
    obtain ⟨a, vs, rfl, h1, r1⟩ := r.lst R.fh
    rw [rp_ints r1] at h1
    exact ⟨a, ns, rfl, Evl.sq_of h1, hl, fun m h2 h3 => vk R k (.int _) (hq m h2 h3)⟩
  · exact hf.elim
def fMax : List D → (RS → Prop) → Prop
  | [.lst ds], q => ∃ ns : List Int, ds = ns.map D.int ∧ 0 < ns.length ∧ ∀ m, m ∈ ns → (∀ y, y ∈ ns → y ≤ m) → q (.val (.int m))
  | _, _ => False
theorem cd_max : CallD K (rMax K) fMax := fun B F H σ γ xs ds Q q R rx hf k => by
  unfold fMax at hf
  split at hf
  · obtain ⟨x, rfl, r⟩ := one_rs rx
    obtain ⟨ns, rfl, hl, hq⟩ := hf
    obtain ⟨a, vs, rfl, h1, r1⟩ := r.lst R.fh
    rw [rp_ints r1] at h1
    exact ⟨a, ns, rfl, Evl.sq_of h1, hl, fun m h2 h3 => vk R k (.int _) (hq m h2 h3)⟩
  · exact hf.elim
def fAll : List D → (RS → Prop) → Prop
  | [.lst ds], q => ∃ bs : List Bool, ds = bs.map D.bl ∧ q (.val (.bl (bs.all id)))
  | _, _ => False
theorem cd_all : CallD K (rAll K) fAll := fun B F H σ γ xs ds Q q R rx hf k => by
  unfold fAll at hf
  split at hf
  · obtain ⟨x, rfl, r⟩ := one_rs rx
    obtain ⟨ns, rfl, hq⟩ := hf
    obtain ⟨a, vs, rfl, h1, r1⟩ := r.lst R.fh
    rw [rp_bls r1] at h1
    exact ⟨a, ns, rfl, Evl.sq_of h1, vk R k (.bl _) hq⟩
  · exact hf.elim
def fAny : List D → (RS → Prop) → Prop
  | [.lst ds], q => ∃ bs : List Bool, ds = bs.map D.bl ∧ q (.val (.bl (bs.any id)))
  | _, _ => False
theorem cd_any : CallD K (rAny K) fAny := fun B F H σ γ xs ds Q q R rx hf k => by
  unfold fAny at hf
  split at hf
  · obtain ⟨x, rfl, r⟩ := one_rs rx
    obtain ⟨ns, rfl, hq⟩ := hf
    obtain ⟨a, vs, rfl, h1, r1⟩ := r.lst R.fh
    rw [rp_bls r1] at h1
    exact ⟨a, ns, rfl, Evl.sq_of h1, vk R k (.bl _) hq⟩
  · exact hf.elim
def fList : List D → (RS → Prop) → Prop
  | [.lst xs], q => q (.new (.lst xs))
  | [.tup xs], q => q (.new (.lst xs))
  | [.scr ns], q => q (.new (.lst (ns.map D.int)))
  | _, _ => False
theorem cd_list : CallD K (fun xs H Q => ∃ p ys, xs = [.ref p] ∧ (SqL K H p ys ∨ SqT K H p ys) ∧ ∀ l, H l = none → Q (.ref l) (upd H l (.lst ys))) fList := fun B F H σ γ xs ds Q q R rx hf k => by
  have key : ∀ {d : D} {ys : List D}, Paired (Rs (B.kz K) F H) xs [d] → (d = .lst ys ∨ d = .tup ys ∨ (∃ ns, d = .scr ns ∧ ys = ns.map D.int)) → q (.new (.lst ys)) → ∃ p ys, xs = [.ref p] ∧ (SqL K H p ys ∨ SqT K H p ys) ∧ ∀ l, H l = none → Q (.ref l) (upd H l (.lst ys)) := fun rx hd hq => by
    obtain ⟨x, rfl, r⟩ := one_rs rx
    obtain ⟨a, vs, rfl, h1, r1⟩ := r.seq R.fh hd
    refine ⟨a, vs, rfl, h1, fun l hl => ?_⟩
    obtain ⟨R', ok⟩ := R.newL hl r1
    exact k _ F _ _ R' (Evl.Ex.refl F) ok hq
  unfold fList at hf
  split at hf
  · exact key rx (.inl rfl) hf
  · exact key rx (.inr (.inl rfl)) hf
  · exact key rx (.inr (.inr ⟨_, rfl, rfl⟩)) hf
  · exact hf.elim
def fTuple : List D → (RS → Prop) → Prop
  | [.lst xs], q => q (.val (.tup xs))
  | [.tup xs], q => q (.val (.tup xs))
  | _, _ => False
/-- a tuple that is handed on is itself frozen -/
theorem Rs.tupF {K : KZ} {F H : Hp} {v : V} {ds : List D} (h : Rs K F H v (.tup ds)) : Rp K F v (.tup ds) := by
  rcases h with h | ⟨a, rfl, ⟨_, _, e, _⟩ | ⟨_, _, _, _, e, _⟩ | ⟨_, _, e, _⟩⟩
  · exact h
  all_goals cases e
theorem cd_tuple : CallD K (fun xs H Q => ∃ p ys, xs = [.ref p] ∧ ((SqL K H p ys ∧ ∀ l, H l = none → Q (.ref l) (upd H l (.tup ys))) ∨ (SqT K H p ys ∧ Q (.ref p) H))) fTuple := fun B F H σ γ xs ds Q q R rx hf k => by
  unfold fTuple at hf
  split at hf
  · obtain ⟨x, rfl, r⟩ := one_rs rx
    obtain ⟨a, vs, rfl, h1, r1⟩ := r.lst R.fh
    refine ⟨a, vs, rfl, .inl ⟨Evl.sq_of h1, fun l hl => ?_⟩⟩
    obtain ⟨R', ex, rp⟩ := R.newT hl r1
    exact k _ _ _ (.val _) R' ex rp hf
  · obtain ⟨x, rfl, r⟩ := one_rs rx
    have rf := r.tupF
    obtain ⟨a, vs, rfl, h1, r1⟩ := r.tup R.fh
    exact ⟨a, vs, rfl, .inr ⟨h1, vk R k rf hf⟩⟩
  · exact hf.elim
/-! isinstance -/
def D.cls : D → String
  | .non => "NoneType" | .bl _ => "bool" | .int _ => "int" | .str _ => "str" | .lst _ => "list" | .tup _ => "tuple" | .dct _ => "dict" | .scr _ => "list" | .ref _ => "" | .ty _ => "" | .obj _ _ => "" | .fr _ => "" | .kls _ => ""
theorem kb_ii : kitB "int" "int" = some true := by decide +kernel
theorem kb_ib : kitB "int" "bool" = some false := by decide +kernel
theorem kb_il : kitB "int" "list" = some false := by decide +kernel
theorem kb_it : kitB "int" "tuple" = some false := by decide +kernel
theorem kb_is : kitB "int" "str" = some false := by decide +kernel
theorem kb_bi : kitB "bool" "int" = some true := by decide +kernel
theorem kb_bb : kitB "bool" "bool" = some true := by decide +kernel
theorem kb_li : kitB "list" "int" = some false := by decide +kernel
theorem kb_ll : kitB "list" "list" = some true := by decide +kernel
theorem kb_lt : kitB "list" "tuple" = some false := by decide +kernel
theorem kb_ti : kitB "tuple" "int" = some false := by decide +kernel
theorem kb_tt : kitB "tuple" "tuple" = some true := by decide +kernel
theorem kb_tl : kitB "tuple" "list" = some false := by decide +kernel
theorem kb_si : kitB "str" "int" = some false := by decide +kernel
theorem kb_sb : kitB "str" "bool" = some false := by decide +kernel
theorem kb_ss : kitB "str" "str" = some true := by decide +kernel
theorem kb_ni : kitB "NoneType" "int" = some false := by decide +kernel
theorem kb_nl : kitB "NoneType" "list" = some false := by decide +kernel
theorem kb_nt : kitB "NoneType" "tuple" = some false := by decide +kernel
def fIsi : List D → (RS → Prop) → Prop
  | [.int _, .ty n], q => ∃ r, kitB "int" n = some r ∧ q (.val (.bl r))
  | [.bl _, .ty n], q => ∃ r, kitB "bool" n = some r ∧ q (.val (.bl r))
  | [.str _, .ty n], q => ∃ r, kitB "str" n = some r ∧ q (.val (.bl r))
  | [.non, .ty n], q => ∃ r, kitB "NoneType" n = some r ∧ q (.val (.bl r))
  | [.lst _, .ty n], q => ∃ r, kitB "list" n = some r ∧ q (.val (.bl r))
  | [.tup _, .ty n], q => ∃ r, kitB "tuple" n = some r ∧ q (.val (.bl r))
  | [.dct _, .ty n], q => ∃ r, kitB "dict" n = some r ∧ q (.val (.bl r))
  | _, _ => False
theorem Rs.ty {K : KZ} {n : String} {v : V} (h : Rs K F H v (.ty n)) : v = .ty n := by
  rcases h with h | ⟨a, rfl, ⟨_, _, e, _⟩ | ⟨_, _, _, _, e, _⟩ | ⟨_, _, e, _⟩⟩
  · cases h; rfl
  all_goals cases e
theorem tyx_tup {a : Addr} {vs : List V} (h : SqT K H a vs) : TyX K H (.ref a) (.type "tuple") := by
  rcases h with (h | ⟨o, h⟩) | ⟨o, its, n, h1, h2, _⟩
  · exact .base (.tup h)
  · exact .fTuple h
  · exact .kTuple h1 h2
theorem Rs.dct {K : KZ} {kd : List (Key × D)} {v : V} (e : Ex F H) (h : Rs K F H v (.dct kd)) : ∃ a kv, v = .ref a ∧ H a = some (.dK kv) ∧ RpKs K F kv kd := by
  rcases h with h | ⟨a, rfl, ⟨vs, _, e, h1, h2⟩ | ⟨_, _, _, _, e, _⟩ | ⟨kv, kd', e1, h1, h2⟩⟩
  · cases h with
    | dct h1 h2 => exact ⟨_, _, rfl, e _ _ h1, h2⟩
  · cases e
  · cases e
  · cases e1; exact ⟨a, kv, rfl, h1, h2⟩
theorem cd_isi : CallD K (rIsi K) fIsi := fun B F H σ γ xs ds Q q R rx hf k => by
  have go : ∀ {x : V} {n a : String} {r : Bool}, TyX K H x (.type a) → kitB a n = some r → q (.val (.bl r)) → rIsi K [x, .ty n] H Q := fun t hi hq =>
    ⟨_, _, _, _, _, rfl, .ty _, t, kit_ty hi, vk R k (.bl _) hq⟩
  unfold fIsi at hf
  split at hf
  all_goals first
    | exact hf.elim
    | (obtain ⟨x, y, rfl, r, r'⟩ := two_rs rx; obtain ⟨b, hi, hq⟩ := hf; rw [r'.ty])
  · rw [r.int]; exact go (.base (.int _)) hi hq
  · rw [r.bl]; exact go (.base (.bl _)) hi hq
  · rw [r.str]; exact go (.base (.str _)) hi hq
  · rw [r.non]; exact go (.base .non) hi hq
  · obtain ⟨a, vs, rfl, h1, r1⟩ := r.lst R.fh; exact go (.base (.lst h1)) hi hq
  · obtain ⟨a, vs, rfl, h1, r1⟩ := r.tup R.fh; exact go (tyx_tup h1) hi hq
  · obtain ⟨a, vs, rfl, h1, r1⟩ := r.dct R.fh; exact go (.base (.dK h1)) hi hq
end
end DL

set_option Elab.async false
set_option linter.all false
set_option maxRecDepth 100000
set_option maxHeartbeats 2000000
namespace DL
open PySem PySem.Spec PyProof.Rows L2
open Evl (Ex ex_l ex_t)

/-! ### == at any depth -/
mutual
def D.py : D → PyData
  | .non => .none | .bl b => .bool b | .int i => .int i | .str x => .str x | .ref _ => .none | .ty _ => .none | .kls _ => .none
  | .lst xs => .list (pyAll xs) | .tup xs => .tuple (pyAll xs) | .obj _ _ => .none | .dct _ => .none | .fr _ => .none | .scr ns => .list (ns.map PyData.int)
def pyAll : List D → List PyData
  | [] => []
  | x :: xs => x.py :: pyAll xs
end
mutual
def D.pure : D → Bool
  | .non => true | .bl _ => true | .int _ => true | .str _ => true | .ref _ => false | .ty _ => false | .kls _ => false
  | .lst xs => pureAll xs | .tup xs => pureAll xs | .obj _ _ => false | .dct _ => false | .fr _ => false | .scr _ => true
def pureAll : List D → Bool
  | [] => true
  | x :: xs => x.pure && pureAll xs
end
theorem pyAll_map {α : Type} (f : α → D) (g : α → PyData) (h : ∀ x, (f x).py = g x) : ∀ xs : List α, pyAll (xs.map f) = xs.map g
  | [] => rfl
  | x :: xs => by rw [List.map_cons, List.map_cons, pyAll, h, pyAll_map f g h xs]
theorem pureAll_map {α : Type} (f : α → D) (h : ∀ x, (f x).pure = true) : ∀ xs : List α, pureAll (xs.map f) = true
  | [] => rfl
  | x :: xs => by rw [List.map_cons, pureAll, h, pureAll_map f h xs]; rfl
def dOk (d : D) : Bool := d.pure && SeqAt.shaped d.py
def deq (d e : D) : Bool := PyData.eqv d.py e.py
section
variable {K : PySem.W.Frag} {B : Bs} {F H : Hp}
theorem dp_ints : ∀ ns : List Int, DpAll K H (ns.map V.int) (ns.map PyData.int)
  | [] => .nil
  | n :: ns => .cons (.int n) (dp_ints ns)
mutual
theorem Rp.dp {K : KZ} (e : Ex F H) : ∀ {v : V} {d : D}, Rp K F v d → d.pure = true → Dp K H v d.py
  | _, _, .non, _ => .non
  | _, _, .bl b, _ => .bl b
  | _, _, .int i, _ => .int i
  | _, _, .str x, _ => .str x
  | _, _, .lst h a, p => .lst (Evl.sq_of (e _ _ h)) (RpAll.dp e a p)
  | _, _, .tup h a, p => .tup (ex_t e h) (RpAll.dp e a p)
  | _, _, .scr h, _ => .lst (ex_l e h) (dp_ints _)
theorem RpAll.dp {K : KZ} (e : Ex F H) : ∀ {v : List V} {d : List D}, RpAll K F v d → pureAll d = true → DpAll K H v (pyAll d)
  | _, _, .nil, _ => .nil
  | _, _, .cons h t, p => .cons (Rp.dp e h (Bool.and_eq_true_iff.mp p).1) (RpAll.dp e t (Bool.and_eq_true_iff.mp p).2)
end
theorem Rs.dp {K : KZ} {v : V} {d : D} (e : Ex F H) (h : Rs K F H v d) (p : d.pure = true) : Dp K H v d.py := by
  rcases h with h | ⟨a, rfl, ⟨vs, ds, rfl, h1, h2⟩ | ⟨_, _, _, _, rfl, _⟩ | ⟨_, _, rfl, _⟩⟩
  · exact h.dp e p
  · exact .lst (Evl.sq_of h1) (h2.dp e p)
  · cases p
  · cases p
def fEqD (d e : D) (q : RS → Prop) : Prop := dOk d = true ∧ dOk e = true ∧ q (.val (.bl (deq d e)))
def fNeD (d e : D) (q : RS → Prop) : Prop := dOk d = true ∧ dOk e = true ∧ q (.val (.bl (!deq d e)))
theorem od_eqD : OpD K (rEqD K) fEqD := fun B F H σ γ x y d e Q q R rx ry hf k => by
  obtain ⟨h1, h2, h3⟩ := hf
  obtain ⟨p1, s1⟩ := Bool.and_eq_true_iff.mp h1
  obtain ⟨p2, s2⟩ := Bool.and_eq_true_iff.mp h2
  exact ⟨_, _, rx.dp R.fh p1, ry.dp R.fh p2, s1, s2, vk R k (.bl _) h3⟩
theorem od_neD : OpD K (rNeD K) fNeD := fun B F H σ γ x y d e Q q R rx ry hf k => by
  obtain ⟨h1, h2, h3⟩ := hf
  obtain ⟨p1, s1⟩ := Bool.and_eq_true_iff.mp h1
  obtain ⟨p2, s2⟩ := Bool.and_eq_true_iff.mp h2
  exact ⟨_, _, rx.dp R.fh p1, ry.dp R.fh p2, s1, s2, vk R k (.bl _) h3⟩
end

/-! ### slices -/
def cut {α : Type} (xs : List α) (lo hi : Option Int) : List α := (xs.drop (HT.sIx xs.length 0 lo)).take (HT.sIx xs.length xs.length hi - HT.sIx xs.length 0 lo)
theorem cut_p {G : V → D → Prop} {vs : List V} {ds : List D} {lo hi : Option Int} (h : Paired G vs ds) : Paired G (cutV vs lo hi) (cut ds lo hi) := by
  unfold cutV cut
  rw [P_len h]
  exact P_take _ (P_drop _ h)
theorem cut_map {α β : Type} (f : α → β) (xs : List α) (lo hi : Option Int) : cut (xs.map f) lo hi = (cut xs lo hi).map f := by
  unfold cut
  rw [List.length_map, List.map_take, List.map_drop]
abbrev DO := Env → (Option Int → Env → Prop) → Prop
def SO (K : PySem.W.Frag) (B : Bs) (to : TO) (dd : DO) : Prop := ∀ (F H : Hp) (σ : L2.St) (γ : Env) (Q : Option Int → Hp → Prop) (q : Option Int → Env → Prop), Rep K B F H σ γ → dd γ q →
  (∀ b F' H' γ', Rep K B F' H' σ γ' → Ex F F' → q b γ' → Q b H') → to σ H Q
structure XO (X : Cx) (B : Bs) (e : Option Expr) (to : TO) (dd : DO) : Prop where
  po : PO X e to
  so : SO X.K B to dd
def dNo (γ : Env) (q : Option Int → Env → Prop) : Prop := q none γ
def dPart (de : DE) (γ : Env) (q : Option Int → Env → Prop) : Prop := de γ fun s γ1 => match s.data with
  | .int i => q (some i) γ1
  | _ => False
theorem xo_none {X : Cx} {B : Bs} : XO X B none tNoPart dNo := ⟨po_none, fun F H σ γ Q q R hq k => k none F H γ R (Evl.Ex.refl F) hq⟩
theorem xo_some {X : Cx} {B : Bs} {e : Expr} {te : TE} {de : DE} (h : XE X B e te de) : XO X B (some e) (tPart te) (dPart de) := ⟨po_some h.pe, fun F H σ γ Q q R hq k => by
  refine h.se F H σ γ _ _ R hq fun v F1 H1 γ1 s R1 e1 o1 h1 => ?_
  split at h1
  · rename_i i es
    have r := o1.rs R1
    rw [es] at r
    exact ⟨i, r.int, k _ F1 H1 γ1 R1 e1 h1⟩
  · exact h1.elim⟩
def dSl (f : D → Option Int → Option Int → (RS → Prop) → Prop) (de : DE) (dl dh : DO) (γ : Env) (q : RS → Env → Prop) : Prop := de γ fun s γ1 => dl γ1 fun lo γ2 => dh γ2 fun hi γ3 => s.ok γ3 ∧ f s.data lo hi fun r => q r γ3
def SlD (K : PySem.W.Frag) (r : V → Option Int → Option Int → Hp → VK → Prop) (f : D → Option Int → Option Int → (RS → Prop) → Prop) : Prop := ∀ (B : Bs) (F H : Hp) (σ : L2.St) (γ : Env) (x : V) (d : D) (lo hi : Option Int) (Q : VK) (q : RS → Prop), Rep K B F H σ γ → Rs (B.kz K) F H x d → f d lo hi q →
  (∀ v F' H' s, Rep K B F' H' σ γ → Ex F F' → RsOk K B F' H' σ γ v s → q s → Q v H') → r x lo hi H Q
theorem x_sl {X : Cx} {B : Bs} {e : Expr} {lo hi : Option Expr} {p2 pos : Pos} {te : TE} {de : DE} {tl th : TO} {dl dh : DO} {r : V → Option Int → Option Int → Hp → VK → Prop} {f : D → Option Int → Option Int → (RS → Prop) → Prop} (hr : SlR X r) (hf : SlD X.K r f) (he : XE X B e te de) (hl : XO X B lo tl dl) (hh : XO X B hi th dh) :
    XE X B (.Subscript e (.Slice lo hi none p2) pos) (tSl r te tl th) (dSl f de dl dh) := ⟨pe_slice hr he.pe hl.po hh.po, fun F H σ γ Q q R hq k => by
  refine he.se F H σ γ _ _ R hq fun x F1 H1 γ1 s R1 e1 o1 h1 => ?_
  obtain ⟨F2, R2, e2, o2⟩ := o1.fz R1
  refine hl.so F2 H1 σ γ1 _ _ R2 h1 fun a F3 H3 γ3 R3 e3 h3 => ?_
  refine hh.so F3 H3 σ γ3 _ _ R3 h3 fun b F4 H4 γ4 R4 e4 ⟨h4, h5⟩ => ?_
  have ox := (o2.later (e3.trans e4) R4 (fz_ok s γ4 h4) (fz_idem s)).rs R4
  rw [RS.fz_data] at ox
  exact hf B F4 H4 σ γ4 x _ a b Q _ R4 ox h5 fun v F5 H5 u R5 e5 o5 h6 => k v F5 H5 γ4 u R5 ((((e1.trans e2).trans e3).trans e4).trans e5) o5 h6⟩
def fSlL : D → Option Int → Option Int → (RS → Prop) → Prop
  | .lst xs, lo, hi, q => q (.new (.lst (cut xs lo hi)))
  | .scr ns, lo, hi, q => q (.new (.lst ((cut ns lo hi).map D.int)))
  | _, _, _, _ => False
theorem sd_list {K : PySem.W.Frag} : SlD K (rSlL K) fSlL := fun B F H σ γ x d lo hi Q q R rx hf k => by
  unfold fSlL at hf
  split at hf
  · obtain ⟨a, vs, rfl, h1, r1⟩ := rx.lst R.fh
    refine ⟨a, vs, rfl, Evl.sq_of h1, fun p hp => ?_⟩
    obtain ⟨R', ok⟩ := R.newL hp (RpAll.of (cut_p r1.p))
    exact k _ F _ _ R' (Evl.Ex.refl F) ok hf
  · obtain ⟨a, rfl, h1⟩ := rx.scr R.fh
    refine ⟨a, _, rfl, h1, fun p hp => ?_⟩
    obtain ⟨R', ok⟩ := R.newL hp (RpAll.of (cut_p (ints_rp (K := B.kz K) (F := F) _).p))
    rw [cut_map] at ok
    exact k _ F _ _ R' (Evl.Ex.refl F) ok hf
  · exact hf.elim
def fSlT : D → Option Int → Option Int → (RS → Prop) → Prop
  | .tup xs, lo, hi, q => q (.val (.tup (cut xs lo hi)))
  | _, _, _, _ => False
def fRev : D → (RS → Prop) → Prop
  | .lst xs, q => q (.new (.lst xs.reverse))
  | _, _ => False
theorem x_revL {X : Cx} {B : Bs} {e : Expr} {te : TE} {de : DE} {k : Nat} {p1 p2 p3 pos : Pos} (he : XE X B e te de) : XE X B (.Subscript e (.Slice none none (some (.UnaryOp .USub (.Constant (.int 1) k p1) p2)) p3) pos) (tRevL X.K te)
    (d1 fRev de) := ⟨pe_revL he.pe, fun F H σ γ Q q R hq k => by
  refine he.se F H σ γ _ _ R hq fun x F1 H1 γ1 s R1 e1 o1 h1 => ?_
  unfold fRev at h1
  split at h1
  · rename_i xs es
    obtain ⟨F2, R2, e2, o2⟩ := o1.fz R1
    have r := o2.rs R2
    rw [RS.fz_data, es] at r
    obtain ⟨a, vs, rfl, h2, r1⟩ := r.lst R2.fh
    refine ⟨a, vs, rfl, Evl.sq_of h2, fun p hp => ?_⟩
    obtain ⟨R', ok⟩ := R2.newL hp (RpAll.of (P_rev r1.p))
    exact k _ F2 _ γ1 _ R' (e1.trans e2) ok h1
  · exact h1.elim⟩

/-! ### displays -/
def allV : List RS → Prop
  | [] => True
  | .val _ :: r => allV r
  | _ :: _ => False
theorem allV_rp {K : PySem.W.Frag} {B : Bs} {F H : Hp} {σ : L2.St} {γ : Env} : ∀ {vs : List V} {rs : List RS}, Paired (RsOk K B F H σ γ) vs rs → allV rs → RpAll (B.kz K) F vs (rs.map RS.data)
  | _, _, .nil, _ => .nil
  | _, .val d :: _, .cons h t, a => .cons h (allV_rp t a)
def dLst (da : DA) (γ : Env) (q : RS → Env → Prop) : Prop := da γ fun rs γ1 => allV rs ∧ rs.length ≤ 1000000 ∧ q (.new (.lst (rs.map RS.data))) γ1
def dTup (da : DA) (γ : Env) (q : RS → Env → Prop) : Prop := da γ fun rs γ1 => allV rs ∧ rs.length ≤ 1000000 ∧ q (.val (.tup (rs.map RS.data))) γ1
section
variable {X : Cx} {B : Bs} {es : List Expr} {ta : TA} {da : DA} {pos : Pos}
theorem x_lst (h : XA X B es ta da) : XE X B (.List es pos) (tLst ta) (dLst da) := ⟨pe_lst h.pa, fun F H σ γ Q q R hq k => by
  refine h.sa F H σ γ _ _ R hq fun vs F1 H1 γ1 rs R1 e1 o1 ⟨h1, h2, h3⟩ => ?_
  have ra := allV_rp o1 h1
  refine ⟨sz_le (by rw [P_len o1]; exact h2), fun p hp => ?_⟩
  obtain ⟨R', ok⟩ := R1.newL hp ra
  exact k _ F1 _ γ1 _ R' e1 ok h3⟩
theorem x_tup {x1} (h : XA X B es ta da) : XE X B (.Tuple es x1 pos) (tTup ta) (dTup da) := ⟨pe_tup h.pa, fun F H σ γ Q q R hq k => by
  refine h.sa F H σ γ _ _ R hq fun vs F1 H1 γ1 rs R1 e1 o1 ⟨h1, h2, h3⟩ => ?_
  have ra := allV_rp o1 h1
  refine ⟨sz_le (by rw [P_len o1]; exact h2), fun p hp => ?_⟩
  obtain ⟨R', ex, rp⟩ := R1.newT hp ra
  exact k _ _ _ γ1 (.val _) R' (e1.trans ex) rp h3⟩
end

/-! ### tests -/
def dB (de : DE) (γ : Env) (q : Bool → Env → Prop) : Prop := de γ fun s γ1 => match s.data with
  | .bl b => q b γ1
  | _ => False
def dAnd (t u : DT) (γ : Env) (q : Bool → Env → Prop) : Prop := t γ fun b γ1 => (b = true → u γ1 q) ∧ (b = false → q false γ1)
def dOr (t u : DT) (γ : Env) (q : Bool → Env → Prop) : Prop := t γ fun b γ1 => (b = true → q true γ1) ∧ (b = false → u γ1 q)
def dNot (t : DT) (γ : Env) (q : Bool → Env → Prop) : Prop := t γ fun b γ1 => q (!b) γ1
def dAndV (da db : DE) (γ : Env) (q : RS → Env → Prop) : Prop := da γ fun s γ1 => match s.data with
  | .bl b => (b = true → db γ1 q) ∧ (b = false → q (.val (.bl false)) γ1)
  | _ => False
def dOrV (da db : DE) (γ : Env) (q : RS → Env → Prop) : Prop := da γ fun s γ1 => match s.data with
  | .bl b => (b = true → q (.val (.bl true)) γ1) ∧ (b = false → db γ1 q)
  | _ => False
def dNotV (da : DE) (γ : Env) (q : RS → Env → Prop) : Prop := da γ fun s γ1 => match s.data with
  | .bl b => q (.val (.bl (!b))) γ1
  | _ => False
def dIfE (t : DT) (da db : DE) (γ : Env) (q : RS → Env → Prop) : Prop := t γ fun b γ1 => (b = true → da γ1 q) ∧ (b = false → db γ1 q)
def dTru (de : DE) (γ : Env) (q : Bool → Env → Prop) : Prop := de γ fun s γ1 => match s.data with
  | .lst xs => q (!xs.isEmpty) γ1
  | .tup xs => q (!xs.isEmpty) γ1
  | .int i => q (i != 0) γ1
  | .bl b => q b γ1
  | .non => q false γ1
  | .str x => x.length ≤ 1000000 ∧ q ((x.length : Int) != 0) γ1
  | _ => False
section
variable {K : PySem.W.Frag} {B : Bs} {te : TE} {de : DE} {t u : TT} {dt du : DT}
theorem st_B (h : SE K B te de) : ST K B (tTest te) (dB de) := fun F H σ γ Q q R hq k => by
  refine h F H σ γ _ _ R hq fun v F1 H1 γ1 s R1 e1 o1 h1 => ?_
  split at h1
  · rename_i b es
    have r := o1.rs R1
    rw [es] at r
    exact ⟨b, r.bl, k _ F1 H1 γ1 R1 e1 h1⟩
  · exact h1.elim
theorem st_and (h1 : ST K B t dt) (h2 : ST K B u du) : ST K B (tAnd t u) (dAnd dt du) := fun F H σ γ Q q R hq k => by
  refine h1 F H σ γ _ _ R hq fun b F1 H1 γ1 R1 e1 ⟨q1, q2⟩ => ?_
  cases b with
  | true =>
    show u σ H1 Q
    exact h2 F1 H1 σ γ1 _ _ R1 (q1 rfl) fun c F2 H2 γ2 R2 e2 q3 => k c F2 H2 γ2 R2 (e1.trans e2) q3
  | false => exact k false F1 H1 γ1 R1 e1 (q2 rfl)
theorem st_or (h1 : ST K B t dt) (h2 : ST K B u du) : ST K B (tOr t u) (dOr dt du) := fun F H σ γ Q q R hq k => by
  refine h1 F H σ γ _ _ R hq fun b F1 H1 γ1 R1 e1 ⟨q1, q2⟩ => ?_
  cases b with
  | false =>
    show u σ H1 Q
    exact h2 F1 H1 σ γ1 _ _ R1 (q2 rfl) fun c F2 H2 γ2 R2 e2 q3 => k c F2 H2 γ2 R2 (e1.trans e2) q3
  | true => exact k true F1 H1 γ1 R1 e1 (q1 rfl)
theorem st_not (h1 : ST K B t dt) : ST K B (tNot t) (dNot dt) := fun F H σ γ Q q R hq k =>
  h1 F H σ γ _ _ R hq fun b F1 H1 γ1 R1 e1 q1 => k _ F1 H1 γ1 R1 e1 q1
theorem st_tru (h : SE K B te de) : ST K B (fun σ H Q => te σ H fun x H' => ∃ k, TruV K x H' k ∧ Q k H') (dTru de) := fun F H σ γ Q q R hq k => by
  refine h F H σ γ _ _ R hq fun v F1 H1 γ1 s R1 e1 o1 h1 => ?_
  have r := o1.rs R1
  split at h1
  · rename_i xs es
    rw [es] at r
    obtain ⟨a, vs, rfl, h2, r1⟩ := r.lst R1.fh
    refine ⟨_, .inl ⟨vs, Evl.sq_of h2, rfl⟩, ?_⟩
    have e : vs.isEmpty = xs.isEmpty := by
      have := r1.length
      cases vs <;> cases xs <;> first | rfl | (simp at this)
    rw [e]
    exact k _ F1 H1 γ1 R1 e1 h1
  · rename_i xs es
    rw [es] at r
    obtain ⟨a, vs, rfl, h2, r1⟩ := r.tup R1.fh
    refine ⟨_, .inr (.inl ⟨vs, h2, rfl⟩), ?_⟩
    have e : vs.isEmpty = xs.isEmpty := by
      have := r1.length
      cases vs <;> cases xs <;> first | rfl | (simp at this)
    rw [e]
    exact k _ F1 H1 γ1 R1 e1 h1
  · rename_i i es
    rw [es] at r
    rw [r.int]
    exact ⟨_, rfl, k _ F1 H1 γ1 R1 e1 h1⟩
  · rename_i i es
    rw [es] at r
    rw [r.bl]
    exact ⟨_, rfl, k _ F1 H1 γ1 R1 e1 h1⟩
  · rename_i es
    rw [es] at r
    rw [r.non]
    exact ⟨_, rfl, k _ F1 H1 γ1 R1 e1 h1⟩
  · rename_i i es
    rw [es] at r
    rw [r.str]
    exact ⟨_, ⟨sz_le h1.1, rfl⟩, k _ F1 H1 γ1 R1 e1 h1.2⟩
  · exact h1.elim
theorem se_and {ta tb : TE} {da db : DE} (h1 : SE K B ta da) (h2 : SE K B tb db) : SE K B (tAndV ta tb) (dAndV da db) := fun F H σ γ Q q R hq k => by
  refine h1 F H σ γ _ _ R hq fun v F1 H1 γ1 s R1 e1 o1 q1 => ?_
  split at q1
  · rename_i b es
    have r := o1.rs R1
    rw [es] at r
    refine ⟨b, r.bl, ?_⟩
    cases b with
    | true =>
      show tb σ H1 Q
      exact h2 F1 H1 σ γ1 _ _ R1 (q1.1 rfl) fun v F2 H2 γ2 s R2 e2 o2 q3 => k v F2 H2 γ2 s R2 (e1.trans e2) o2 q3
    | false => exact k _ F1 H1 γ1 (.val (.bl false)) R1 e1 (.bl _) (q1.2 rfl)
  · exact q1.elim
theorem se_or {ta tb : TE} {da db : DE} (h1 : SE K B ta da) (h2 : SE K B tb db) : SE K B (tOrV ta tb) (dOrV da db) := fun F H σ γ Q q R hq k => by
  refine h1 F H σ γ _ _ R hq fun v F1 H1 γ1 s R1 e1 o1 q1 => ?_
  split at q1
  · rename_i b es
    have r := o1.rs R1
    rw [es] at r
    refine ⟨b, r.bl, ?_⟩
    cases b with
    | false =>
      show tb σ H1 Q
      exact h2 F1 H1 σ γ1 _ _ R1 (q1.2 rfl) fun v F2 H2 γ2 s R2 e2 o2 q3 => k v F2 H2 γ2 s R2 (e1.trans e2) o2 q3
    | true => exact k _ F1 H1 γ1 (.val (.bl true)) R1 e1 (.bl _) (q1.1 rfl)
  · exact q1.elim
theorem se_not {ta : TE} {da : DE} (h1 : SE K B ta da) : SE K B (tNotV ta) (dNotV da) := fun F H σ γ Q q R hq k => by
  refine h1 F H σ γ _ _ R hq fun v F1 H1 γ1 s R1 e1 o1 q1 => ?_
  split at q1
  · rename_i b es
    have r := o1.rs R1
    rw [es] at r
    exact ⟨b, r.bl, k _ F1 H1 γ1 (.val (.bl (!b))) R1 e1 (.bl _) q1⟩
  · exact q1.elim
theorem se_if {ta tb : TE} {da db : DE} (h : ST K B t dt) (h1 : SE K B ta da) (h2 : SE K B tb db) : SE K B (tIf t ta tb) (dIfE dt da db) := fun F H σ γ Q q R hq k => by
  refine h F H σ γ _ _ R hq fun b F1 H1 γ1 R1 e1 q1 => ?_
  cases b with
  | true =>
    show ta σ H1 Q
    exact h1 F1 H1 σ γ1 _ _ R1 (q1.1 rfl) fun v F2 H2 γ2 s R2 e2 o2 q3 => k v F2 H2 γ2 s R2 (e1.trans e2) o2 q3
  | false =>
    show tb σ H1 Q
    exact h2 F1 H1 σ γ1 _ _ R1 (q1.2 rfl) fun v F2 H2 γ2 s R2 e2 o2 q3 => k v F2 H2 γ2 s R2 (e1.trans e2) o2 q3
/-- a op b op' c -/
def dChain (f g : D → D → (RS → Prop) → Prop) (da db dc : DE) (γ : Env) (q : RS → Env → Prop) : Prop := da γ fun s γ1 => db γ1 fun t γ2 => s.ok γ2 ∧ f s.data t.data fun r => match r with
  | .val (.bl b) => (b = true → dc γ2 fun u γ3 => t.ok γ3 ∧ g t.data u.data fun r' => q r' γ3) ∧ (b = false → q (.val (.bl false)) γ2)
  | _ => False
theorem se_chain {ta tb tc : TE} {da db dc : DE} {r r' : R2} {f g : D → D → (RS → Prop) → Prop} (hf : OpD K r f) (hg : OpD K r' g) (ha : SE K B ta da) (hb : SE K B tb db) (hc : SE K B tc dc) : SE K B (tChain r r' ta tb tc) (dChain f g da db dc) := fun F H σ γ Q q R hq k => by
  refine ha F H σ γ _ _ R hq fun x F1 H1 γ1 s R1 e1 o1 h1 => ?_
  obtain ⟨F2, R2, e2, o2⟩ := o1.fz R1
  refine hb F2 H1 σ γ1 _ _ R2 h1 fun y F3 H3 γ3 t R3 e3 o3 ⟨h3, h4⟩ => ?_
  obtain ⟨F4, R4, e4, o4⟩ := o3.fz R3
  have ox := o2.later (e3.trans e4) R4 (fz_ok s γ3 h3) (fz_idem s)
  have rx := ox.rs R4
  have ry := o4.rs R4
  rw [RS.fz_data] at rx ry
  refine hf B F4 H3 σ γ3 x y _ _ _ _ R4 rx ry h4 fun v F5 H5 u R5 e5 o5 h5 => ?_
  split at h5
  · rename_i b
    have ev : v = .bl b := (o5.rs R5).bl
    refine ⟨b, ev, ?_⟩
    cases b with
    | true =>
      show tc σ H5 _
      refine hc F5 H5 σ γ3 _ _ R5 (h5.1 rfl) fun z F6 H6 γ6 u R6 e6 o6 ⟨h6, h7⟩ => ?_
      obtain ⟨F7, R7, e7, o7⟩ := o6.fz R6
      have oy := (o4.later ((e5.trans e6).trans e7) R7 (fz_ok t γ6 h6) (fz_idem t)).rs R7
      have oz := o7.rs R7
      rw [RS.fz_data] at oy oz
      exact hg B F7 H6 σ γ6 y z _ _ Q _ R7 oy oz h7 fun v F8 H8 u R8 e8 o8 h8 => k v F8 H8 γ6 u R8 (((((((e1.trans e2).trans e3).trans e4).trans e5).trans e6).trans e7).trans e8) o8 h8
    | false => exact k _ F5 H5 γ3 (.val (.bl false)) R5 ((((e1.trans e2).trans e3).trans e4).trans e5) (.bl _) (h5.2 rfl)
  · exact h5.elim
end
section
variable {X : Cx} {B : Bs} {pos : Pos} {a b c : Expr} {ta tb tc : TE} {da db dc : DE} {t u : TT} {dt du : DT} {rest : List Expr}
theorem t_cmp {op : CmpOp} {r : R2} {f : D → D → (RS → Prop) → Prop} (ho : OpR X (compareOp op) r) (hd : OpD X.K r f) (ha : XE X B a ta da) (hb : XE X B b tb db) (hm : behindInMarks op b = false := by first | exact nomark _ | rfl) : XT X B (.Compare a [op] [b] pos) (tTest (tOp r ta tb)) (dB (d2 f da db)) :=
  ⟨pt_cmpR ho ha.pe hb.pe hm, st_B (se_op hd ha.se hb.se)⟩
theorem t_val {e : Expr} {te : TE} {de : DE} (h : XE X B e te de) (he : ∀ whole, isTrue e X.env whole = (do let v ← whole; standAt e.pos; holding [v] (truthy v)) := by intro _; rfl) : XT X B e (tB te) (dB de) := ⟨pt_val h.pe he, st_B h.se⟩
theorem t_tru {e : Expr} {te : TE} {de : DE} (h : XE X B e te de) (he : ∀ whole, isTrue e X.env whole = (do let v ← whole; standAt e.pos; holding [v] (truthy v)) := by intro _; rfl) : XT X B e (fun σ H Q => te σ H fun x H' => ∃ k, TruV X.K x H' k ∧ Q k H') (dTru de) := ⟨pt_truth h.pe he, st_tru h.se⟩
theorem w_and1 (h : XT X B a t dt) : XW X B (.BoolOp .And [a] pos) t dt := ⟨pw_and1 h.pt, h.st⟩
theorem w_or1 (h : XT X B a t dt) : XW X B (.BoolOp .Or [a] pos) t dt := ⟨pw_or1 h.pt, h.st⟩
theorem w_and (h : XT X B a t dt) (h2 : XW X B (.BoolOp .And (b :: rest) pos) u du) : XW X B (.BoolOp .And (a :: b :: rest) pos) (tAnd t u) (dAnd dt du) := ⟨pw_and h.pt h2.pw, st_and h.st h2.st⟩
theorem w_or (h : XT X B a t dt) (h2 : XW X B (.BoolOp .Or (b :: rest) pos) u du) : XW X B (.BoolOp .Or (a :: b :: rest) pos) (tOr t u) (dOr dt du) := ⟨pw_or h.pt h2.pw, st_or h.st h2.st⟩
theorem t_w {e : Expr} (h : XW X B e t dt) : XT X B e t dt := ⟨h.pw.pt, h.st⟩
theorem t_not (h : XT X B a t dt) : XT X B (.UnaryOp .Not a pos) (tNot t) (dNot dt) := ⟨pt_not h.pt, st_not h.st⟩
theorem t_chain {op op' : CmpOp} {r r' : R2} {f g : D → D → (RS → Prop) → Prop} (ho : OpR X (compareOp op) r) (ho' : OpR X (compareOp op') r') (hd : OpD X.K r f) (hd' : OpD X.K r' g) (ha : XE X B a ta da) (hb : XE X B b tb db) (hc : XE X B c tc dc) (hm : lastMarks [op, op'] [b, c] = false := by with_unfolding_all rfl) :
    XT X B (.Compare a [op, op'] [b, c] pos) (tTest (tChain r r' ta tb tc)) (dB (dChain f g da db dc)) := ⟨pt_chain ho ho' ha.pe hb.pe hc.pe hm, st_B (se_chain hd hd' ha.se hb.se hc.se)⟩
theorem x_chain {op op' : CmpOp} {r r' : R2} {f g : D → D → (RS → Prop) → Prop} (ho : OpR X (compareOp op) r) (ho' : OpR X (compareOp op') r') (hd : OpD X.K r f) (hd' : OpD X.K r' g) (ha : XE X B a ta da) (hb : XE X B b tb db) (hc : XE X B c tc dc) (hm : lastMarks [op, op'] [b, c] = false := by with_unfolding_all rfl) :
    XE X B (.Compare a [op, op'] [b, c] pos) (tChain r r' ta tb tc) (dChain f g da db dc) := ⟨pe_chain ho ho' ha.pe hb.pe hc.pe hm, se_chain hd hd' ha.se hb.se hc.se⟩
theorem x_one {op} (h : XE X B a ta da) : XE X B (.BoolOp op [a] pos) ta da := ⟨pe_one h.pe, h.se⟩
theorem x_and (h : XE X B a ta da) (h2 : XE X B (.BoolOp .And (b :: rest) pos) tb db) : XE X B (.BoolOp .And (a :: b :: rest) pos) (tAndV ta tb) (dAndV da db) := ⟨pe_and h.pe h2.pe, se_and h.se h2.se⟩
theorem x_or (h : XE X B a ta da) (h2 : XE X B (.BoolOp .Or (b :: rest) pos) tb db) : XE X B (.BoolOp .Or (a :: b :: rest) pos) (tOrV ta tb) (dOrV da db) := ⟨pe_or h.pe h2.pe, se_or h.se h2.se⟩
theorem x_not (h : XE X B a ta da) : XE X B (.UnaryOp .Not a pos) (tNotV ta) (dNotV da) := ⟨pe_not h.pe, se_not h.se⟩
theorem x_if (h : XT X B c t dt) (h1 : XE X B a ta da) (h2 : XE X B b tb db) : XE X B (.IfExp c a b pos) (tIf t ta tb) (dIfE dt da db) := ⟨pe_ifExp h.pt h1.pe h2.pe, se_if h.st h1.se h2.se⟩
end
end DL

set_option Elab.async false
set_option linter.all false
set_option maxRecDepth 100000
set_option maxHeartbeats 2000000
namespace DL
open PySem PySem.Spec PyProof.Rows L2
open Evl (Ex ex_l ex_t)

structure DEnds where
  nx : Env → Prop
  rt : RS → Env → Prop
  bk : Env → Prop := fun _ => False
  ct : Env → Prop := fun _ => False
abbrev DS := DEnds → Env → Prop
structure EndsOk (K : PySem.W.Frag) (B : Bs) (F0 : Hp) (E : Ends) (d : DEnds) : Prop where
  nx : ∀ F H σ γ, Rep K B F H σ γ → Ex F0 F → d.nx γ → E.nx σ H
  rt : ∀ F H σ γ v s, Rep K B F H σ γ → Ex F0 F → RsOk K B F H σ γ v s → d.rt s γ → E.rt v H
  bk : ∀ F H σ γ, Rep K B F H σ γ → Ex F0 F → d.bk γ → E.bk σ H
  ct : ∀ F H σ γ, Rep K B F H σ γ → Ex F0 F → d.ct γ → E.ct σ H
def SS (K : PySem.W.Frag) (B : Bs) (ts : TS) (ds : DS) : Prop := ∀ (F H : Hp) (σ : L2.St) (γ : Env) (E : Ends) (d : DEnds), Rep K B F H σ γ → ds d γ → EndsOk K B F E d → ts E σ H
structure XS (X : Cx) (B : Bs) (st : Stmt) (ts : TS) (ds : DS) : Prop where
  ps : PS X st ts
  ss : SS X.K B ts ds
structure XSs (X : Cx) (B : Bs) (st : List Stmt) (ts : TS) (ds : DS) : Prop where
  ps : PSs X st ts
  ss : SS X.K B ts ds
section
variable {K : PySem.W.Frag} {B : Bs} {F F' H : Hp} {σ : L2.St} {γ : Env} {E : Ends} {d : DEnds}
theorem EndsOk.mono (h : EndsOk K B F E d) (e : Ex F F') : EndsOk K B F' E d :=
  ⟨fun F2 H2 σ2 γ2 R x => h.nx F2 H2 σ2 γ2 R (e.trans x), fun F2 H2 σ2 γ2 v s R x => h.rt F2 H2 σ2 γ2 v s R (e.trans x), fun F2 H2 σ2 γ2 R x => h.bk F2 H2 σ2 γ2 R (e.trans x), fun F2 H2 σ2 γ2 R x => h.ct F2 H2 σ2 γ2 R (e.trans x)⟩
theorem get_set {i j : Nat} {v : V} {s : Option V} (h : (σ.set i (some v))[j]? = some s) : (j = i ∧ s = some v) ∨ (j ≠ i ∧ σ[j]? = some s) := by
  by_cases e : i = j
  · subst e
    by_cases hl : i < σ.length
    · rw [List.getElem?_set_self hl] at h; exact .inl ⟨rfl, (Option.some.inj h).symm⟩
    · rw [List.getElem?_eq_none (by rw [List.length_set]; omega)] at h; cases h
  · rw [List.getElem?_set_ne e] at h; exact .inr ⟨fun z => e z.symm, h⟩
theorem Rep.setVal (R : Rep K B F H σ γ) (i : Nat) {v : V} {x : D} (r : Rp (B.kz K) F v x) : Rep K B F H (σ.set i (some v)) (put γ i (.val x)) := by
  have key : ∀ {j : Nat} {p : Option Nat} {c : OC} {a : Addr}, (put γ i (.val x))[j]? = some (.own p c) → (σ.set i (some v))[j]? = some (some (.ref a)) → γ[j]? = some (.own p c) ∧ σ[j]? = some (some (.ref a)) := fun h h2 => by
    rcases get_put h with ⟨_, e⟩ | ⟨n, e⟩
    · cases e
    · rcases get_set h2 with ⟨z, _⟩ | ⟨_, e2⟩
      · exact absurd z n
      · exact ⟨e, e2⟩
  refine ⟨R.fh, by rw [put_len, List.length_set]; exact R.len, fun j s u hs hg => ?_, fun i j a p c q c' h1 h2 h3 h4 => R.nd i j a p c q c' (key h1 h3).1 (key h2 h4).1 (key h1 h3).2 (key h2 h4).2, R.b1, R.b2, R.b3,
    fun j a p c h1 h2 => R.b4 j a p c (key h1 h2).1 (key h1 h2).2, fun j a p c h1 h2 => R.b5 j a p c (key h1 h2).1 (key h1 h2).2, R.bN, R.bd⟩
  rcases get_put hg with ⟨rfl, rfl⟩ | ⟨n, e⟩
  · rcases get_set hs with ⟨_, rfl⟩ | ⟨z, _⟩
    · exact ⟨v, rfl, r⟩
    · exact absurd rfl z
  · rcases get_set hs with ⟨z, _⟩ | ⟨_, e2⟩
    · exact absurd z n
    · exact R.sl j s u e2 e
theorem Rep.setNew (R : Rep K B F H σ γ) (i : Nat) {a : Addr} {c : OC} (N : RNew K B F H σ γ a c) : Rep K B F H (σ.set i (some (.ref a))) (put γ i (.own none c)) := by
  have key : ∀ {j : Nat} {p : Option Nat} {c' : OC} {b : Addr}, (put γ i (.own none c))[j]? = some (.own p c') → (σ.set i (some (.ref a)))[j]? = some (some (.ref b)) → (j = i ∧ p = none ∧ b = a) ∨ (j ≠ i ∧ γ[j]? = some (.own p c') ∧ σ[j]? = some (some (.ref b))) := fun h h2 => by
    rcases get_put h with ⟨z, e⟩ | ⟨n, e⟩
    · rcases get_set h2 with ⟨_, e2⟩ | ⟨z2, _⟩
      · injection e with e1 _
        injection e2 with e2
        injection e2 with e2
        exact .inl ⟨z, e1, e2⟩
      · exact absurd z z2
    · rcases get_set h2 with ⟨z, _⟩ | ⟨_, e2⟩
      · exact absurd z n
      · exact .inr ⟨n, e, e2⟩
  refine ⟨R.fh, by rw [put_len, List.length_set]; exact R.len, fun j s u hs hg => ?_, fun i' j' b p c1 q c2 h1 h2 h3 h4 => ?_, R.b1, R.b2, R.b3, fun j b p c1 h1 h2 => ?_, fun j b p c1 h1 h2 => ?_, R.bN, R.bd⟩
  · rcases get_put hg with ⟨rfl, rfl⟩ | ⟨n, e⟩
    · rcases get_set hs with ⟨_, rfl⟩ | ⟨z, _⟩
      · exact ⟨a, rfl, N.fa, N.ok⟩
      · exact absurd rfl z
    · rcases get_set hs with ⟨z, _⟩ | ⟨_, e2⟩
      · exact absurd z n
      · exact R.sl j s u e2 e
  · rcases key h1 h3 with ⟨z1, _, z2⟩ | ⟨n1, y1, y2⟩
    · rcases key h2 h4 with ⟨z3, _, _⟩ | ⟨_, y3, y4⟩
      · rw [z1, z3]
      · rw [z2] at y4
        exact absurd y4 (N.na j' q c2 y3)
    · rcases key h2 h4 with ⟨_, _, z4⟩ | ⟨_, y3, y4⟩
      · rw [z4] at y2
        exact absurd y2 (N.na i' p c1 y1)
      · exact R.nd i' j' b p c1 q c2 y1 y3 y2 y4
  · rcases key h1 h2 with ⟨_, rfl, rfl⟩ | ⟨_, y1, y2⟩
    · exact ⟨fun k z => (by cases z), fun _ => N.bn⟩
    · exact R.b4 j b p c1 y1 y2
  · rcases key h1 h2 with ⟨_, _, rfl⟩ | ⟨_, y1, y2⟩
    · exact N.bm
    · exact R.b5 j b p c1 y1 y2
end

/-! ### blocks and small statements -/
def dNext (d : DEnds) (γ : Env) : Prop := d.nx γ
def dSeq (s t : DS) (d : DEnds) (γ : Env) : Prop := s { d with nx := t d } γ
def dDrop (de : DE) (d : DEnds) (γ : Env) : Prop := de γ fun _ γ1 => d.nx γ1
def dRet (de : DE) (d : DEnds) (γ : Env) : Prop := de γ d.rt
def dRetN (d : DEnds) (γ : Env) : Prop := d.rt (.val .non) γ
def dBreak (d : DEnds) (γ : Env) : Prop := d.bk γ
def dCont (d : DEnds) (γ : Env) : Prop := d.ct γ
def dIf (t : DT) (a b : DS) (d : DEnds) (γ : Env) : Prop := t γ fun c γ1 => (c = true → a d γ1) ∧ (c = false → b d γ1)
def dAsg (i : Nat) (de : DE) (d : DEnds) (γ : Env) : Prop := de γ fun s γ1 => match s with
  | .val x => d.nx (put γ1 i (.val x))
  | .new c => d.nx (put γ1 i (.own none c))
  | .own _ _ => False
/-- targets -/
abbrev DG := D → Env → (Env → Prop) → Prop
abbrev DGs := List D → Env → (Env → Prop) → Prop
/-- outside of ix the slots stay -/
def Off (ix : List Nat) (σ σ' : L2.St) : Prop := σ'.length = σ.length ∧ ∀ j, j ∉ ix → σ'[j]? = σ[j]?
def SG (K : PySem.W.Frag) (B : Bs) (g : TG) (dg : DG) (ix : List Nat) : Prop := ∀ (F H : Hp) (σ : L2.St) (γ : Env) (v : V) (x : D) (Q : L2.St → Hp → Prop) (q : Env → Prop), Rep K B F H σ γ → Rp (B.kz K) F v x → dg x γ q →
  (∀ σ' γ', Rep K B F H σ' γ' → Off ix σ σ' → q γ' → Q σ' H) → g v σ H Q
def SGs (K : PySem.W.Frag) (B : Bs) (g : TGs) (dg : DGs) (ix : List Nat) : Prop := ∀ (F H : Hp) (σ : L2.St) (γ : Env) (vs : List V) (xs : List D) (Q : L2.St → Hp → Prop) (q : Env → Prop), Rep K B F H σ γ → RpAll (B.kz K) F vs xs → dg xs γ q →
  (∀ σ' γ', Rep K B F H σ' γ' → Off ix σ σ' → q γ' → Q σ' H) → g vs σ H Q
structure XG (X : Cx) (B : Bs) (tg : Expr) (g : TG) (dg : DG) (ix : List Nat) : Prop where
  pg : PG X tg g
  sg : SG X.K B g dg ix
structure XGs (X : Cx) (B : Bs) (tg : List Expr) (g : TGs) (dg : DGs) (ix : List Nat) : Prop where
  pg : PGs X tg g
  sg : SGs X.K B g dg ix
def gN (i : Nat) (x : D) (γ : Env) (q : Env → Prop) : Prop := q (put γ i (.val x))
def gsNil (xs : List D) (γ : Env) (q : Env → Prop) : Prop := xs = [] ∧ q γ
def gsCons (g : DG) (r : DGs) (xs : List D) (γ : Env) (q : Env → Prop) : Prop := match xs with
  | x :: ys => g x γ fun γ1 => r ys γ1 q
  | [] => False
def gT (n : Nat) (gs : DGs) (x : D) (γ : Env) (q : Env → Prop) : Prop := match x with
  | .tup xs => xs.length = n ∧ gs xs γ q
  | _ => False
def dAsgG (de : DE) (g : DG) (d : DEnds) (γ : Env) : Prop := de γ fun s γ1 => match s with
  | .own _ _ => False
  | s => g s.data γ1 d.nx
section
variable {X : Cx} {B : Bs} {st : Stmt} {rest : List Stmt} {t u : TS} {ds du : DS} {e : Expr} {te : TE} {de : DE} {pos : Pos}
theorem ss_nil : XSs X B [] tNext dNext := ⟨pss_nil, fun F H σ γ E d R h k => k.nx F H σ γ R (Evl.Ex.refl F) h⟩
theorem ss_cons (h1 : XS X B st t ds) (h2 : XSs X B rest u du) : XSs X B (st :: rest) (tSeq t u) (dSeq ds du) := ⟨pss_cons h1.ps h2.ps, fun F H σ γ E d R h k =>
  h1.ss F H σ γ { E with nx := u E } { d with nx := du d } R h ⟨fun F1 H1 σ1 γ1 R1 e1 q => h2.ss F1 H1 σ1 γ1 E d R1 q (k.mono e1), k.rt, k.bk, k.ct⟩⟩
theorem ss_one (h1 : XS X B st t ds) : XSs X B [st] t ds := ⟨pss_one h1.ps, h1.ss⟩
theorem s_break : XS X B (.Break pos) tBreak dBreak := ⟨ps_break, fun F H σ γ E d R h k => k.bk F H σ γ R (Evl.Ex.refl F) h⟩
theorem s_cont : XS X B (.Continue pos) tCont dCont := ⟨ps_continue, fun F H σ γ E d R h k => k.ct F H σ γ R (Evl.Ex.refl F) h⟩
theorem s_pass : XS X B (.Pass pos) tNext dNext := ⟨ps_pass, fun F H σ γ E d R h k => k.nx F H σ γ R (Evl.Ex.refl F) h⟩
theorem s_expr (he : XE X B e te de) (hs : swapsWith e none pos.line X.env = pure false := by rfl) : XS X B (.Expr e pos) (tDrop te) (dDrop de) := ⟨ps_expr he.pe hs, fun F H σ γ E d R h k =>
  he.se F H σ γ _ _ R h fun v F1 H1 γ1 s R1 e1 _ q => k.nx F1 H1 σ γ1 R1 e1 q⟩
theorem s_ret (he : XE X B e te de) : XS X B (.Return (some e) pos) (tRet te) (dRet de) := ⟨ps_ret he.pe, fun F H σ γ E d R h k =>
  he.se F H σ γ _ _ R h fun v F1 H1 γ1 s R1 e1 o1 q => k.rt F1 H1 σ γ1 v s R1 e1 o1 q⟩
theorem s_retN : XS X B (.Return none pos) tRetN dRetN := ⟨ps_retN, fun F H σ γ E d R h k => k.rt F H σ γ _ (.val .non) R (Evl.Ex.refl F) .non h⟩
theorem s_if {c : Expr} {a b : List Stmt} {tc : TT} {dc : DT} (hc : XT X B c tc dc) (ha : XSs X B a t ds) (hb : XSs X B b u du) : XS X B (.If c a b pos) (tIfS tc t u) (dIf dc ds du) := ⟨ps_if hc.pt ha.ps hb.ps, fun F H σ γ E d R h k => by
  refine hc.st F H σ γ _ _ R h fun b F1 H1 γ1 R1 e1 q => ?_
  cases b with
  | true => exact ha.ss F1 H1 σ γ1 E d R1 (q.1 rfl) (k.mono e1)
  | false => exact hb.ss F1 H1 σ γ1 E d R1 (q.2 rfl) (k.mono e1)⟩
theorem sa_name {K : PySem.W.Frag} {B : Bs} {i : Nat} (h : SE K B te de) : SS K B (tAsg te (gName i)) (dAsg i de) := fun F H σ γ E d R hq k => by
  refine h F H σ γ _ _ R hq fun v F1 H1 γ1 s R1 e1 o1 q => ?_
  cases s with
  | val x => exact k.nx F1 H1 _ _ (R1.setVal i o1) e1 q
  | new c =>
    obtain ⟨a, rfl, N⟩ := o1
    exact k.nx F1 H1 _ _ (R1.setNew i N) e1 q
  | own j c => exact q.elim
theorem s_set (i : Nat) {x : Str} {pos' : Pos} (hN : X.N.Nodup) (he : XE X B e te de) (hi : X.N[i]? = some x := by rfl) (hx : Loc X.env.scope x := by first | exact Or.inl rfl | exact Or.inr rfl) (hs : swapsWith e (some (.Name x pos')) pos.line X.env = pure false := by rfl)
    (hf : X.fn x = true ∨ X.env.scope.names.lookup x = some .local := by first | exact .inl rfl | exact .inr rfl) : XS X B (.Assign [.Name x pos'] e pos) (tAsg te (gName i)) (dAsg i de) := ⟨ps_set hN hi hx he.pe hs hf, sa_name he.se⟩
theorem g_name (i : Nat) {x : Str} (hN : X.N.Nodup) (hi : X.N[i]? = some x := by rfl) (hx : Loc X.env.scope x := by first | exact Or.inl rfl | exact Or.inr rfl) (hf : X.fn x = true ∨ X.env.scope.names.lookup x = some .local := by first | exact .inl rfl | exact .inr rfl) : XG X B (.Name x pos) (gName i) (gN i) [i] :=
  ⟨pg_name hN hi hx hf, fun F H σ γ v x Q q R r h k => k _ _ (R.setVal i r) ⟨by rw [List.length_set], fun j hj => List.getElem?_set_ne fun e => hj (by rw [e]; exact List.mem_singleton.mpr rfl)⟩ h⟩
theorem gs_nil : XGs X B [] gNil gsNil [] := ⟨pgs_nil, fun F H σ γ vs xs Q q R r h k => by
  obtain ⟨rfl, h⟩ := h
  cases r
  exact ⟨rfl, k σ γ R ⟨rfl, fun _ _ => rfl⟩ h⟩⟩
theorem gs_cons {es : List Expr} {g : TG} {gs : TGs} {dg : DG} {dgs : DGs} {i1 i2 : List Nat} (h1 : XG X B e g dg i1) (h2 : XGs X B es gs dgs i2) (hs : (assignEach (e :: es) X.env).map (·.2) = assign e X.env :: (assignEach es X.env).map (·.2) := by rfl) : XGs X B (e :: es) (gCons g gs) (gsCons dg dgs) (i1 ++ i2) := ⟨pgs_cons h1.pg h2.pg hs, fun F H σ γ vs xs Q q R r h k => by
  cases r with
  | nil => exact h.elim
  | cons r t => exact ⟨_, _, rfl, h1.sg F H σ γ _ _ _ _ R r h fun σ' γ' R' o' h' => h2.sg F H σ' γ' _ _ Q q R' t h' fun σ2 γ2 R2 o2 h2 => k σ2 γ2 R2 ⟨o2.1.trans o'.1, fun j hj => (o2.2 j fun z => hj (List.mem_append_right _ z)).trans (o'.2 j fun z => hj (List.mem_append_left _ z))⟩ h2⟩⟩
theorem g_tup {es : List Expr} {k n : Nat} {gs : TGs} {dgs : DGs} {ix : List Nat} (hc : X.calm = true) (h : XGs X B es gs dgs ix) (hn : (assignEach es X.env).length = n := by rfl) (hst : (assignEach es X.env).findIdx? (·.1) = none := by rfl) : XG X B (.Tuple es k pos) (gTup X.K n gs) (gT n dgs) ix := ⟨pg_tup hc h.pg hn hst, fun F H σ γ v x Q q R r hq k => by
  cases r with
  | tup h1 h2 => exact ⟨_, _, rfl, ex_t R.fh h1, by rw [h2.length]; exact hq.1, h.sg F H σ γ _ _ Q q R h2 hq.2 k⟩
  | _ => exact hq.elim⟩
theorem s_asgG {tg : Expr} {g : TG} {dg : DG} {ix : List Nat} (he : XE X B e te de) (hg : XG X B tg g dg ix) (hs : swapsWithSole [tg] e pos.line X.env = pure false := by rfl) (hw : swappedStores [tg] e X.env = pure none := by rfl)
    (h1 : (assignEach [tg] X.env).map (·.2) = [assign tg X.env] := by rfl) : XS X B (.Assign [tg] e pos) (tAsg te g) (dAsgG de dg) := ⟨ps_asg he.pe hg.pg hs hw h1, fun F H σ γ E d R hq k => by
  refine he.se F H σ γ _ _ R hq fun v F1 H1 γ1 s R1 e1 o1 q => ?_
  obtain ⟨F2, R2, e2, o2⟩ := o1.fz R1
  cases s with
  | own j c => exact q.elim
  | val x => exact hg.sg F2 H1 σ γ1 v x _ d.nx R2 o2 q fun σ' γ' R' _ h' => k.nx F2 H1 σ' γ' R' (e1.trans e2) h'
  | new c => exact hg.sg F2 H1 σ γ1 v _ _ d.nx R2 o2 q fun σ' γ' R' _ h' => k.nx F2 H1 σ' γ' R' (e1.trans e2) h'⟩
/-- x op= e on numbers -/
def dAug (i : Nat) (f : Int → Int → Int) (de : DE) (d : DEnds) (γ : Env) : Prop := match look γ i with
  | .val (.int a) => de γ fun s γ1 => match s.data with
    | .int b => d.nx (put γ1 i (.val (.int (f a b))))
    | _ => False
  | _ => False
theorem s_aug (i : Nat) {x : Str} {op : Operator} {f : Int → Int → Int} {pos' : Pos} (hN : X.N.Nodup) (he : XE X B e te de) (ho : PIp X op (ipI f)) (hi : X.N[i]? = some x := by rfl) (hx : Loc X.env.scope x := by first | exact Or.inl rfl | exact Or.inr rfl)
    (hf : X.fn x = true ∨ X.env.scope.names.lookup x = some .local := by first | exact .inl rfl | exact .inr rfl) : XS X B (.AugAssign (.Name x pos') op e pos) (tAug i te (ipI f)) (dAug i f de) := ⟨ps_aug hN hi hx he.pe ho hf, fun F H σ γ E d R hq k => by
  unfold dAug at hq
  split at hq
  · rename_i a hl
    obtain ⟨v, hs, r⟩ := R.val hl
    cases r
    refine ⟨_, hs, he.se F H σ γ _ _ R hq fun v F1 H1 γ1 s R1 e1 o1 q => ?_⟩
    split at q
    · rename_i b es
      have r := o1.rs R1
      rw [es] at r
      exact ⟨_, _, rfl, r.int, k.nx F1 H1 _ _ (R1.setVal i (.int _)) e1 q⟩
    · exact q.elim
  · exact hq.elim⟩
end

/-! ### things that change -/
section
variable {K : PySem.W.Frag} {B : Bs} {F H : Hp} {σ : L2.St} {γ : Env}
/-- the list in slot j is written anew -/
theorem Rep.write (R : Rep K B F H σ γ) {j : Nat} {p : Option Nat} {ds ds' : List D} {a : Addr} {vs vs' : List V} (hl : look γ j = .own p (.lst ds)) (hs : σ[j]? = some (some (.ref a))) (ha : H a = some (.lst vs)) (r : RpAll (B.kz K) F vs' ds') :
    Rep K B F (upd H a (.lst vs')) σ (put γ j (.own p (.lst ds'))) := by
  obtain ⟨a', hs', hg, fa, ok⟩ := R.own hl
  obtain rfl : a = a' := by rw [hs] at hs'; cases hs'; rfl
  have ne_own : ∀ {b x : Addr}, H b = some (.own x) → b ≠ a := fun h e => by
    subst e
    rw [ha] at h; cases h
  have key : ∀ {i : Nat} {q : Option Nat} {c : OC}, (put γ j (.own p (.lst ds')))[i]? = some (.own q c) → ∃ c0, γ[i]? = some (.own q c0) ∧ ((i = j ∧ c = .lst ds') ∨ (i ≠ j ∧ c0 = c)) := fun h => by
    rcases get_put h with ⟨rfl, e⟩ | ⟨n, e⟩
    · injection e with e1 e2
      subst e1; subst e2
      exact ⟨_, hg, .inl ⟨rfl, rfl⟩⟩
    · exact ⟨_, e, .inr ⟨n, rfl⟩⟩
  refine ⟨fun b o e => ?_, by rw [put_len]; exact R.len, fun i s t h1 h2 => ?_, fun i i' b q c q' c' h1 h2 h3 h4 => ?_, fun b o e => ?_, R.b2, R.b3, fun i b q c h1 h2 => ?_, fun i b q c h1 h2 => ?_, fun b o e => ?_, fun b o e => ?_⟩
  · have n : b ≠ a := fun z => by subst z; rw [fa] at e; cases e
    rw [upd_ne n]; exact R.fh b o e
  · rcases get_put h2 with ⟨rfl, rfl⟩ | ⟨n, e⟩
    · rw [hs] at h1; cases h1
      exact ⟨a, rfl, fa, vs', upd_same, r⟩
    · have q := R.sl i s t h1 e
      cases t with
      | no => trivial
      | val d => exact q
      | own q' c =>
        obtain ⟨b, e', f, ok'⟩ := q
        subst e'
        have nb : b ≠ a := fun z => by subst z; exact n (R.nd i j b q' c p (.lst ds) e hg h1 hs)
        exact ⟨b, rfl, f, ok'.heap (upd_ne nb) fun dx hd => upd_ne (ne_own hd)⟩
  · obtain ⟨_, y1, _⟩ := key h1
    obtain ⟨_, y2, _⟩ := key h2
    exact R.nd i i' b q _ q' _ y1 y2 h3 h4
  · obtain ⟨x1, o', x2⟩ := R.b1 b o e
    by_cases hb : b = a
    · subst hb
      rw [upd_same]
      refine ⟨fun n => ?_, _, rfl⟩
      rcases R.b5 j b p _ hg hs with z | z
      · exact absurd z n
      · rw [e] at z; cases z
    · rw [upd_ne hb]; exact ⟨x1, o', x2⟩
  · obtain ⟨_, y1, _⟩ := key h1
    exact R.b4 i b q _ y1 h2
  · obtain ⟨_, y1, _⟩ := key h1
    exact R.b5 i b q _ y1 h2
  · obtain ⟨o', x2⟩ := R.bN b o e
    by_cases hb : b = a
    · subst hb; exact ⟨_, upd_same⟩
    · rw [upd_ne hb]; exact ⟨o', x2⟩
  · obtain ⟨o', x2, kn⟩ := R.bd b o e
    by_cases hb : b = a
    · subst hb
      rw [ha] at x2
      cases x2
      exact ⟨_, upd_same, kn.trans ⟨_, rfl⟩⟩
    · rw [upd_ne hb]; exact ⟨o', x2, kn⟩
/-- what a method does to the list in slot j: by its content and the arguments, the new content and the answer -/
def MutD (K : PySem.W.Frag) (r : V → List V → Hp → VK → Prop) (f : List D → List D → (List D → D → Prop) → Prop) : Prop := ∀ (z : Addr → Prop) (F H : Hp) (a : Addr) (vs : List V) (ds : List D) (xs : List V) (as : List D) (Q : VK) (q : List D → D → Prop), Ex F H → H a = some (.lst vs) → RpAll ⟨K, z⟩ F vs ds → RpAll ⟨K, z⟩ F xs as → f ds as q →
  (∀ v d vs' ds', RpAll ⟨K, z⟩ F vs' ds' → Rp ⟨K, z⟩ F v d → q ds' d → Q v (upd H a (.lst vs'))) → r (.ref a) xs H Q
def isL : Sx → Prop
  | .own _ (.lst _) => True
  | _ => False
def dMut (j : Nat) (f : List D → List D → (List D → D → Prop) → Prop) (da : DA) (γ : Env) (q : RS → Env → Prop) : Prop := isL (look γ j) ∧ da γ fun rs γ1 => allV rs ∧ match look γ1 j with
  | .own p (.lst ds) => f ds (rs.map RS.data) fun ds' d => q (.val d) (put γ1 j (.own p (.lst ds')))
  | _ => False
theorem se_mut {ta : TA} {da : DA} {r : V → List V → Hp → VK → Prop} {f : List D → List D → (List D → D → Prop) → Prop} {j : Nat} (hm : MutD K r f) (h : SA K B ta da) : SE K B (tBM K "list" r (tVar j) ta) (dMut j f da) := fun F H σ γ Q q R ⟨h0, hq⟩ k => by
  obtain ⟨p, ds, hl⟩ : ∃ p ds, look γ j = .own p (.lst ds) := by
    revert h0
    cases look γ j with
    | no => exact fun z => z.elim
    | val d => exact fun z => z.elim
    | own p c => cases c with
      | lst ds => exact fun _ => ⟨p, ds, rfl⟩
      | ins C fs => exact fun z => z.elim
      | dct kd => exact fun z => z.elim
  obtain ⟨a, hs, hg, fa, vs, ha, ra⟩ := R.own hl
  refine ⟨_, hs, Or.inl ⟨rfl, vs, Evl.sq_of ha⟩, h F H σ γ _ _ R hq fun xs F1 H1 γ1 rs R1 e1 o1 ⟨h1, h2⟩ => ?_⟩
  split at h2
  · rename_i p1 ds1 hl1
    obtain ⟨a1, hs1, hg1, fa1, vs1, ha1, ra1⟩ := R1.own hl1
    rw [hs] at hs1; cases hs1
    exact hm B.z F1 H1 a vs1 ds1 xs _ Q _ R1.fh ha1 ra1 (allV_rp o1 h1) h2 fun v d vs' ds' r1 r2 h3 => k v F1 _ _ (.val d) (R1.write hl1 hs ha1 r1) e1 r2 h3
  · exact h2.elim
theorem se_mut0 {r : V → List V → Hp → VK → Prop} {f : List D → List D → (List D → D → Prop) → Prop} {j : Nat} (hm : MutD K r f) : SE K B (tBM0 K "list" r (tVar j)) (dMut j f dNil) := fun F H σ γ Q q R ⟨h0, _, h2⟩ k => by
  split at h2
  · rename_i p ds hl
    obtain ⟨a, hs, hg, fa, vs, ha, ra⟩ := R.own hl
    exact ⟨_, hs, Or.inl ⟨rfl, vs, Evl.sq_of ha⟩, hm B.z F H a vs ds [] [] Q _ R.fh ha ra .nil h2 fun v d vs' ds' r1 r2 h3 => k v F _ _ (.val d) (R.write hl hs ha r1) (Evl.Ex.refl F) r2 h3⟩
  · exact h2.elim
def mApp (ds as : List D) (q : List D → D → Prop) : Prop := match as with
  | [x] => ds.length < 1000000 ∧ q (ds ++ [x]) .non
  | _ => False
theorem md_append : MutD K rAppend mApp := fun z F H a vs ds xs as Q q eFH ha ra rx hf k => by
  unfold mApp at hf
  split at hf
  · obtain ⟨x, rfl, r⟩ := one_rs rx.p
    exact ⟨a, vs, x, rfl, rfl, ha, Nat.lt_of_lt_of_le (by rw [ra.length]; exact hf.1) (by decide), k _ _ _ _ (RpAll.of (P_app ra.p (.cons r .nil))) .non hf.2⟩
  · exact hf.elim
def mPopAt (ds as : List D) (q : List D → D → Prop) : Prop := match as with
  | [.int i] => -1000000 ≤ i ∧ i ≤ 1000000 ∧ ∃ k d, seqIndex? i ds.length = some k ∧ ds[k]? = some d ∧ q (ds.eraseIdx k) d
  | _ => False
theorem md_popAt : MutD K rPopAt mPopAt := fun z F H a vs ds xs as Q q eFH ha ra rx hf k => by
  unfold mPopAt at hf
  split at hf
  · obtain ⟨x, rfl, r⟩ := one_rs rx.p
    cases r
    obtain ⟨i1, i2, j, d, h1, h2, h3⟩ := hf
    obtain ⟨v, hv, rv⟩ := P_get ra.p h2
    exact ⟨a, vs, _, j, v, rfl, rfl, ha, by omega, by omega, by rw [ra.length]; exact h1, hv, k _ _ _ _ (RpAll.of (P_erase j ra.p)) rv h3⟩
  · exact hf.elim
def mPop (ds as : List D) (q : List D → D → Prop) : Prop := match as with
  | [] => ∃ d, ds[ds.length - 1]? = some d ∧ q ds.dropLast d
  | _ => False
theorem md_pop : MutD K rPop mPop := fun z F H a vs ds xs as Q q eFH ha ra rx hf k => by
  unfold mPop at hf
  split at hf
  · cases rx
    obtain ⟨d, h2, h3⟩ := hf
    obtain ⟨v, hv, rv⟩ := P_get ra.p h2
    exact ⟨a, vs, v, rfl, rfl, ha, by rw [ra.length]; exact hv, k _ _ _ _ (RpAll.of (P_dropLast ra.p)) rv h3⟩
  · exact hf.elim
end
section
variable {X : Cx} {B : Bs} {e : Expr} {es : List Expr} {ta : TA} {da : DA} {cpos apos pos : Pos} {x : Str}
theorem x_mut {j : Nat} {r : V → List V → Hp → VK → Prop} {f : List D → List D → (List D → D → Prop) → Prop} {c : Expr} (pe : PA X es ta → PE X c (tBM X.K "list" r (tVar j) ta)) (hd : MutD X.K r f) (h : XA X B es ta da) : XE X B c (tBM X.K "list" r (tVar j) ta) (dMut j f da) := ⟨pe h.pa, se_mut hd h.sa⟩
theorem x_mut0 {j : Nat} {r : V → List V → Hp → VK → Prop} {f : List D → List D → (List D → D → Prop) → Prop} {c : Expr} (pe : PE X c (tBM0 X.K "list" r (tVar j))) (hd : MutD X.K r f) : XE X B c (tBM0 X.K "list" r (tVar j)) (dMut j f dNil) := ⟨pe, se_mut0 hd⟩
/-- xs[i] = e -/
def RS.kept : RS → Prop
  | .own _ _ => False
  | _ => True
def dSetI (j : Nat) (de di : DE) (d : DEnds) (γ : Env) : Prop := de γ fun s γ1 => s.kept ∧ isL (look γ1 j) ∧ di γ1 fun t γ2 => match look γ2 j, t.data with
  | .own p (.lst ds), .int i => ∃ k, ixN ds.length i = some k ∧ d.nx (put γ2 j (.own p (.lst (ds.set k s.data))))
  | _, _ => False
theorem ss_setI {K : PySem.W.Frag} {B : Bs} {te ti : TE} {de di : DE} {j : Nat} (he : SE K B te de) (hi : SE K B ti di) : SS K B (tAsg te (gSub (tVar j) ti rSetL)) (dSetI j de di) := fun F H σ γ E d R hq k => by
  refine he F H σ γ _ _ R hq fun v F1 H1 γ1 s R1 e1 o1 ⟨hk, h0, q⟩ => ?_
  obtain ⟨F2, R2, e2, o2⟩ := o1.fz R1
  have rv : Rp (B.kz K) F2 v s.data := by
    cases s with
    | val x => exact o2
    | new c => exact o2
    | own j c => exact hk.elim
  obtain ⟨p, ds, hl⟩ : ∃ p ds, look γ1 j = .own p (.lst ds) := by
    revert h0
    cases look γ1 j with
    | no => exact fun z => z.elim
    | val d => exact fun z => z.elim
    | own p c => cases c with
      | lst ds => exact fun _ => ⟨p, ds, rfl⟩
      | ins C fs => exact fun z => z.elim
      | dct kd => exact fun z => z.elim
  obtain ⟨a, hs, hg, fa, vs, ha, ra⟩ := R2.own hl
  refine ⟨_, hs, hi F2 H1 σ γ1 _ _ R2 q fun v3 F3 H3 γ3 t R3 e3 o3 q3 => ?_⟩
  split at q3
  · rename_i p1 ds1 i hl1 es
    obtain ⟨a1, hs1, hg1, fa1, vs1, ha1, ra1⟩ := R3.own hl1
    rw [hs] at hs1; cases hs1
    obtain ⟨m, hm, q4⟩ := q3
    have rt := o3.rs R3
    rw [es] at rt
    exact ⟨a, vs1, i, m, rfl, rt.int, ha1, by rw [ra1.length]; exact hm, k.nx F3 _ _ _ (R3.write hl1 hs ha1 (RpAll.of (P_set (Rp.mono e3 rv) m ra1.p))) ((e1.trans e2).trans e3) q4⟩
  · exact q3.elim
theorem s_setI (j : Nat) {ei : Expr} {te ti : TE} {de di : DE} {p3 : Pos} {o : Str} (he : XE X B e te de) (hi : XE X B ei ti di)
    (hN : X.N[j]? = some o := by rfl) (hv : Vis X.env.scope o := by first | exact Or.inl rfl | exact Or.inr (Or.inl rfl) | exact Or.inr (Or.inr rfl)) (hd : (o == ("__debug__" : Str)) = false := by decide) (hcd : (o == ("__classdict__" : Str)) = false := by decide)
    (ha : ∀ v, assign (.Subscript (.Name o apos) ei p3) X.env v = (do
      let ov ← holding [v] (eval (.Name o apos) X.env)
      let iv ← holding [v, ov] (eval ei X.env)
      standAt p3
      holding [v, ov, iv] (setItem ov iv v)
      release [v, ov, iv] []) := by intro _; rfl)
    (hs : swapsWithSole [.Subscript (.Name o apos) ei p3] e pos.line X.env = pure false := by rfl) (hw : swappedStores [.Subscript (.Name o apos) ei p3] e X.env = pure none := by rfl)
    (h1 : (assignEach [.Subscript (.Name o apos) ei p3] X.env).map (·.2) = [assign (.Subscript (.Name o apos) ei p3) X.env] := by rfl) :
    XS X B (.Assign [.Subscript (.Name o apos) ei p3] e pos) (tAsg te (gSub (tVar j) ti rSetL)) (dSetI j de di) :=
  ⟨ps_asg he.pe (pg_sub (pe_var hN hv hd hcd) hi.pe set_list ha) hs hw h1, ss_setI he.se hi.se⟩
end
end DL

set_option Elab.async false
set_option linter.all false
set_option maxRecDepth 100000
set_option maxHeartbeats 2000000
namespace DL
open PySem PySem.Spec PyProof.Rows L2
open Evl (Ex ex_l ex_t)

/-! ### while -/
def dWhile (dt : DT) (db : DS) (d : DEnds) (γ : Env) : Prop := ∃ I : Nat → Env → Prop, (∃ m, I m γ) ∧ ∀ m γ2, I m γ2 → dt γ2 fun b γ3 =>
  (b = true → db { nx := fun γ4 => ∃ m', m' < m ∧ I m' γ4, ct := fun γ4 => ∃ m', m' < m ∧ I m' γ4, bk := d.nx, rt := d.rt } γ3) ∧ (b = false → d.nx γ3)
theorem s_while {X : Cx} {B : Bs} {c : Expr} {body : List Stmt} {pos : Pos} {tc : TT} {dc : DT} {tb : TS} {db : DS} (hp : PassesOwn (model X.prog X.w) X.A X.env X.xe) (hc : XT X B c tc dc) (hb : XSs X B body tb db) : XS X B (.While c body [] pos) (tWhile tc tb) (dWhile dc db) := ⟨ps_while hp hc.pt hb.ps, fun F H σ γ E d R ⟨I, ⟨m0, i0⟩, hI⟩ k => by
  refine ⟨fun m σ' H' => ∃ F' γ', Rep X.K B F' H' σ' γ' ∧ Ex F F' ∧ I m γ', ⟨m0, F, γ, R, Evl.Ex.refl F, i0⟩, fun m σ' H' ⟨F1, γ1, R1, e1, i1⟩ => ?_⟩
  refine hc.st F1 H' σ' γ1 _ _ R1 (hI m γ1 i1) fun b F2 H2 γ2 R2 e2 q => ?_
  cases b with
  | true =>
    refine ⟨fun σ3 H3 => ∃ m', m' < m ∧ ∃ F' γ', Rep X.K B F' H3 σ3 γ' ∧ Ex F F' ∧ I m' γ', fun σ3 H3 h => h, ?_⟩
    refine hb.ss F2 H2 σ' γ2 _ _ R2 (q.1 rfl) ⟨fun F3 H3 σ3 γ3 R3 e3 ⟨m', hm, i3⟩ => ⟨m', hm, F3, γ3, R3, (e1.trans e2).trans e3, i3⟩, (k.mono (e1.trans e2)).rt, fun F3 H3 σ3 γ3 R3 e3 h => k.nx F3 H3 σ3 γ3 R3 ((e1.trans e2).trans e3) h,
      fun F3 H3 σ3 γ3 R3 e3 ⟨m', hm, i3⟩ => ⟨m', hm, F3, γ3, R3, (e1.trans e2).trans e3, i3⟩⟩
  | false => exact k.nx F2 H2 σ' γ2 R2 (e1.trans e2) (q.2 rfl)⟩

/-! ### what is walked -/
abbrev DI := Env → (Nat → (Nat → D → Prop) → Env → Prop) → Prop
theorem Rp.zz {K : PySem.W.Frag} {B : Bs} {z : Addr → Prop} {F : Hp} {v : V} {d : D} (hz : B.z = z) (h : Rp ⟨K, z⟩ F v d) : Rp (B.kz K) F v d := by
  unfold Bs.kz
  rw [hz]
  exact h
structure JOk (K : PySem.W.Frag) (z : Addr → Prop) (F0 : Hp) (J : It) (n : Nat) (y : Nat → D → Prop) : Prop where
  go : ∀ (B : Bs) (F H : Hp) (σ : L2.St) (γ : Env) (i : Nat), Rep K B F H σ γ → Ex F0 F → i < n → J.go i H
  yl : ∀ (B : Bs) (F H : Hp) (σ : L2.St) (γ : Env) (i : Nat) (x : V) (H' : Hp), Rep K B F H σ γ → Ex F0 F → i < n → J.yld i H x H' → B.z = z → ∃ F' d, Rep K B F' H' σ γ ∧ Ex F F' ∧ Rp (B.kz K) F' x d ∧ y i d
  st : ∀ (B : Bs) (F H : Hp) (σ : L2.St) (γ : Env) (i : Nat), Rep K B F H σ γ → Ex F0 F → n ≤ i → J.stop i H
def SI (K : PySem.W.Frag) (B : Bs) (wi : TI) (di : DI) : Prop := ∀ (F H : Hp) (σ : L2.St) (γ : Env) (R : It → Hp → Prop) (r : Nat → (Nat → D → Prop) → Env → Prop), Rep K B F H σ γ → di γ r →
  (∀ J F' H' γ' n y, Rep K B F' H' σ γ' → Ex F F' → JOk K B.z F' J n y → r n y γ' → R J H') → wi σ H R
structure XI (X : Cx) (B : Bs) (tg iter : Expr) (wi : TI) (di : DI) : Prop where
  pi : PI X tg iter wi
  si : SI X.K B wi di
/-- for: I, what holds between the turns -/
def dFor (di : DI) (dg : DG) (db : DS) (d : DEnds) (γ : Env) : Prop := di γ fun n y γ1 => ∃ I : Nat → Env → Prop, I 0 γ1 ∧
  (∀ i γ2, i < n → I i γ2 → ∀ x, y i x → dg x γ2 fun γ3 => db { nx := I (i + 1), ct := I (i + 1), bk := d.nx, rt := d.rt } γ3) ∧ ∀ γ2, I n γ2 → d.nx γ2
theorem s_for {X : Cx} {B : Bs} {tg iter : Expr} {body : List Stmt} {pos : Pos} {wi : TI} {di : DI} {g : TG} {dg : DG} {tb : TS} {db : DS} {ix : List Nat} (hp : PassesOwn (model X.prog X.w) X.A X.env X.xe) (hc : X.calm = true) (hi : XI X B tg iter wi di) (hg : XG X B tg g dg ix) (hb : XSs X B body tb db)
    (hs : ∀ x, foldedSetIterable iter X.env x = pure x := by intro _; rfl) : XS X B (.For tg iter body [] pos) (tFor wi g tb) (dFor di dg db) := ⟨ps_for hp hc hi.pi hg.pg hb.ps hs, fun F H σ γ E d R h k => by
  refine hi.si F H σ γ _ _ R h fun J F1 H1 γ1 n y R1 e1 jo ⟨I, i0, it, ie⟩ => ?_
  refine ⟨fun i m σ' H' => m = n - i ∧ i ≤ n ∧ ∃ F' γ', Rep X.K B F' H' σ' γ' ∧ Ex F1 F' ∧ I i γ', ⟨n, by omega, by omega, F1, γ1, R1, Evl.Ex.refl F1, i0⟩, fun i m σ' H' ⟨hm, hn, F2, γ2, R2, e2, i2⟩ => ?_⟩
  by_cases hlt : i < n
  · refine .inr ⟨jo.go B F2 H' σ' γ2 i R2 e2 hlt, fun σ3 H3 => ∃ F' γ', Rep X.K B F' H3 σ3 γ' ∧ Ex F1 F' ∧ I (i + 1) γ', fun σ3 H3 q => ⟨n - (i + 1), by omega, rfl, by omega, q⟩, fun x H3 hy => ?_⟩
    obtain ⟨F3, dd, R3, e3, rx, yx⟩ := jo.yl B F2 H' σ' γ2 i x H3 R2 e2 hlt hy rfl
    refine hg.sg F3 H3 σ' γ2 x dd _ _ R3 rx (it i γ2 hlt i2 dd yx) fun σ4 γ4 R4 _ h4 => ?_
    exact hb.ss F3 H3 σ4 γ4 _ _ R4 h4 ⟨fun F5 H5 σ5 γ5 R5 e5 i5 => ⟨F5, γ5, R5, (e2.trans e3).trans e5, i5⟩, (k.mono ((e1.trans e2).trans e3)).rt, fun F5 H5 σ5 γ5 R5 e5 q => k.nx F5 H5 σ5 γ5 R5 (((e1.trans e2).trans e3).trans e5) q,
      fun F5 H5 σ5 γ5 R5 e5 i5 => ⟨F5, γ5, R5, (e2.trans e3).trans e5, i5⟩⟩
  · obtain rfl : i = n := by omega
    exact .inl ⟨jo.st B F2 H' σ' γ2 i R2 e2 (Nat.le_refl _), k.nx F2 H' σ' γ2 R2 (e1.trans e2) (ie γ2 i2)⟩⟩

/-! ### lists, tuples, ranges, zip, enumerate, reversed -/
section
variable {K : PySem.W.Frag} {B : Bs}
theorem sq_inj_lst {F H : Hp} {a : Addr} {vs : List V} (e : Ex F H) (h : F a = some (.lst vs)) : SqL K H a vs := Evl.sq_of (e _ _ h)
def dIL (de : DE) (γ : Env) (r : Nat → (Nat → D → Prop) → Env → Prop) : Prop := de γ fun s γ1 => s.kept ∧ match s.data with
  | .lst ds => r ds.length (fun i d => ds[i]? = some d) γ1
  | .scr ns => r ns.length (fun i d => ∃ n, ns[i]? = some n ∧ d = .int n) γ1
  | _ => False
theorem RsOk.kp {B : Bs} {F H : Hp} {σ : L2.St} {γ : Env} {v : V} {s : RS} (h : RsOk K B F H σ γ v s.fz) (hk : s.kept) : Rp (B.kz K) F v s.data := by
  cases s with
  | val d => exact h
  | new c => exact h
  | own j c => exact hk.elim
theorem jo_list {F0 : Hp} {a : Addr} {vs : List V} {ds : List D} (h : SqL K F0 a vs) {z : Addr → Prop} (r : RpAll ⟨K, z⟩ F0 vs ds) : JOk K z F0 (Itl K a) ds.length (fun i d => ds[i]? = some d) where
  go := fun B F H σ γ i R e hi => by
    obtain ⟨x, hx⟩ : ∃ x, vs[i]? = some x := ⟨vs[i]'(by rw [r.length]; exact hi), List.getElem?_eq_getElem _⟩
    exact ⟨vs, x, ex_l (e.trans R.fh) h, hx⟩
  yl := fun B F H σ γ i x H' R e hi ⟨hH, hy⟩ hz => by
    subst hH
    have hv := hy vs (ex_l (e.trans R.fh) h)
    obtain ⟨d, hd, rd⟩ := P_getL r.p hv
    exact ⟨F, d, R, Evl.Ex.refl F, (rd.mono e).zz hz, hd⟩
  st := fun B F H σ γ i R e hi => ⟨vs, ex_l (e.trans R.fh) h, by rw [r.length]; exact hi⟩
theorem si_list {te : TE} {de : DE} (he : SE K B te de) : SI K B (iList K te) (dIL de) := fun F H σ γ W r R hq k => by
  refine he F H σ γ _ _ R hq fun x F1 H1 γ1 s R1 e1 o1 ⟨hk, h1⟩ => ?_
  obtain ⟨F2, R2, e2, o2⟩ := o1.fz R1
  have rp := o2.kp hk
  split at h1
  · rename_i ds es
    rw [es] at rp
    cases rp with
    | lst ha ra => exact ⟨_, rfl, ⟨_, Evl.sq_of (R2.fh _ _ ha)⟩, k _ F2 H1 γ1 _ _ R2 (e1.trans e2) (jo_list (Evl.sq_of ha) ra) h1⟩
  · rename_i ns es
    rw [es] at rp
    cases rp with
    | scr ha =>
      refine ⟨_, rfl, ⟨_, ex_l R2.fh ha⟩, k _ F2 H1 γ1 _ _ R2 (e1.trans e2) ?_ h1⟩
      have j := jo_list (z := B.z) ha (ints_rp ns)
      rw [List.length_map] at j
      refine ⟨j.go, fun B F H σ γ i x H' R e hi hy hz => ?_, j.st⟩
      obtain ⟨F', d, q1, q2, q3, q4⟩ := j.yl B F H σ γ i x H' R e hi hy hz
      rw [List.getElem?_map] at q4
      cases hn : ns[i]? with
      | none => rw [hn] at q4; cases q4
      | some n => rw [hn] at q4; exact ⟨F', d, q1, q2, q3, n, rfl, (Option.some.inj q4).symm⟩
  · exact h1.elim
def dIT (de : DE) (γ : Env) (r : Nat → (Nat → D → Prop) → Env → Prop) : Prop := de γ fun s γ1 => s.kept ∧ match s.data with
  | .tup ds => r ds.length (fun i d => ds[i]? = some d) γ1
  | _ => False
theorem jo_tup {F0 : Hp} {a : Addr} {vs : List V} {ds : List D} (h : SqT K F0 a vs) {z : Addr → Prop} (r : RpAll ⟨K, z⟩ F0 vs ds) : JOk K z F0 (Itt K a) ds.length (fun i d => ds[i]? = some d) where
  go := fun B F H σ γ i R e hi => by
    obtain ⟨x, hx⟩ : ∃ x, vs[i]? = some x := ⟨vs[i]'(by rw [r.length]; exact hi), List.getElem?_eq_getElem _⟩
    exact ⟨vs, x, ex_t (e.trans R.fh) h, hx⟩
  yl := fun B F H σ γ i x H' R e hi ⟨hH, hy⟩ hz => by
    subst hH
    have hv := hy vs (ex_t (e.trans R.fh) h)
    obtain ⟨d, hd, rd⟩ := P_getL r.p hv
    exact ⟨F, d, R, Evl.Ex.refl F, (rd.mono e).zz hz, hd⟩
  st := fun B F H σ γ i R e hi => ⟨vs, ex_t (e.trans R.fh) h, by rw [r.length]; exact hi⟩
theorem si_tup {te : TE} {de : DE} (he : SE K B te de) : SI K B (iTup K te) (dIT de) := fun F H σ γ W r R hq k => by
  refine he F H σ γ _ _ R hq fun x F1 H1 γ1 s R1 e1 o1 ⟨hk, h1⟩ => ?_
  obtain ⟨F2, R2, e2, o2⟩ := o1.fz R1
  have rp := o2.kp hk
  split at h1
  · rename_i ds es
    rw [es] at rp
    cases rp with
    | tup ha ra => exact ⟨_, rfl, ⟨_, ex_t R2.fh ha⟩, k _ F2 H1 γ1 _ _ R2 (e1.trans e2) (jo_tup ha ra) h1⟩
  · exact h1.elim
theorem jo_range {F0 : Hp} {lo : Int} {n : Nat} {z : Addr → Prop} : JOk K z F0 (Itr lo n) n (fun i d => d = .int (lo + i)) where
  go := fun B F H σ γ i R e hi => hi
  yl := fun B F H σ γ i x H' R e hi ⟨hH, hy⟩ hz => by
    subst hH; subst hy
    exact ⟨F, _, R, Evl.Ex.refl F, .int _, rfl⟩
  st := fun B F H σ γ i R e hi => hi
theorem ints1 {B : Bs} {F H : Hp} {σ : L2.St} {γ : Env} (R : Rep K B F H σ γ) {vs : List V} {rs : List RS} {a : Int} (o : Paired (RsOk K B F H σ γ) vs rs) (h : rs.map RS.data = [.int a]) : vs = [.int a] := by
  have q := rs_all R o
  rw [h] at q
  obtain ⟨x, rfl, r⟩ := one_rs q
  rw [r.int]
def dIR1 (da : DA) (γ : Env) (r : Nat → (Nat → D → Prop) → Env → Prop) : Prop := da γ fun rs γ1 => match rs.map RS.data with
  | [.int n] => -1000000000000 ≤ n ∧ n ≤ 1000000000000 ∧ r n.toNat (fun i d => d = .int i) γ1
  | _ => False
theorem si_range1 {ta : TA} {da : DA} (h : SA K B ta da) : SI K B (iRng1 ta) (dIR1 da) := fun F H σ γ W r R hq k => by
  refine h F H σ γ _ _ R hq fun vs F1 H1 γ1 rs R1 e1 o1 h1 => ?_
  split at h1
  · rename_i n es
    obtain ⟨h0, h2, h3⟩ := h1
    refine ⟨n, ints1 R1 o1 es, by omega, by omega, k _ F1 H1 γ1 _ _ R1 e1 ⟨(jo_range (z := B.z)).go, fun B F H σ γ i x H' R e hi hy hz => ?_, (jo_range (z := B.z)).st⟩ h3⟩
    obtain ⟨F', d, q1, q2, q3, q4⟩ := (jo_range (z := _)).yl B F H σ γ i x H' R e hi hy hz
    exact ⟨F', d, q1, q2, q3, by rw [q4, Int.zero_add]⟩
  · exact h1.elim
theorem ints2 {B : Bs} {F H : Hp} {σ : L2.St} {γ : Env} (R : Rep K B F H σ γ) {vs : List V} {rs : List RS} {a b : Int} (o : Paired (RsOk K B F H σ γ) vs rs) (h : rs.map RS.data = [.int a, .int b]) : vs = [.int a, .int b] := by
  have q := rs_all R o
  rw [h] at q
  obtain ⟨x, y, rfl, r, r'⟩ := two_rs q
  rw [r.int, r'.int]
def dIR2 (da : DA) (γ : Env) (r : Nat → (Nat → D → Prop) → Env → Prop) : Prop := da γ fun rs γ1 => match rs.map RS.data with
  | [.int m, .int n] => -1000000000000 ≤ m ∧ m ≤ 1000000000000 ∧ -1000000000000 ≤ n ∧ n ≤ 1000000000000 ∧ r (n - m).toNat (fun i d => d = .int (m + i)) γ1
  | _ => False
theorem si_range2 {ta : TA} {da : DA} (h : SA K B ta da) : SI K B (iRng2 ta) (dIR2 da) := fun F H σ γ W r R hq k => by
  refine h F H σ γ _ _ R hq fun vs F1 H1 γ1 rs R1 e1 o1 h1 => ?_
  split at h1
  · rename_i m n es
    obtain ⟨h0, h2, h3, h4, h5⟩ := h1
    exact ⟨m, n, ints2 R1 o1 es, ⟨by omega, by omega, by omega, by omega⟩, k _ F1 H1 γ1 _ _ R1 e1 jo_range h5⟩
  · exact h1.elim
/-- range(lo, hi, c), c a written step of 1 to 1000 -/
def dIR3 (da : DA) (γ : Env) (r : Nat → (Nat → D → Prop) → Env → Prop) : Prop := da γ fun rs γ1 => match rs.map RS.data with
  | [.int m, .int n, .int c] => -1000000000000 ≤ m ∧ m ≤ 1000000000000 ∧ -1000000000000 ≤ n ∧ n ≤ 1000000000000 ∧ ∃ t, RgC m n c t ∧ r t (fun i d => d = .int (m + i * c)) γ1
  | _ => False
theorem ints3 {B : Bs} {F H : Hp} {σ : L2.St} {γ : Env} (R : Rep K B F H σ γ) {vs : List V} {rs : List RS} {a b c : Int} (o : Paired (RsOk K B F H σ γ) vs rs) (h : rs.map RS.data = [.int a, .int b, .int c]) : vs = [.int a, .int b, .int c] := by
  have q := rs_all R o
  rw [h] at q
  cases q with
  | cons r t =>
    obtain ⟨x, y, rfl, r', r''⟩ := two_rs t
    rw [r.int, r'.int, r''.int]
theorem jo_rangeC {F0 : Hp} {lo c : Int} {n : Nat} {z : Addr → Prop} : JOk K z F0 (Itc lo c n) n (fun i d => d = .int (lo + i * c)) where
  go := fun B F H σ γ i R e hi => hi
  yl := fun B F H σ γ i x H' R e hi ⟨hH, hy⟩ hz => by
    subst hH; subst hy
    exact ⟨F, _, R, Evl.Ex.refl F, .int _, rfl⟩
  st := fun B F H σ γ i R e hi => hi
theorem si_range3 {ta : TA} {da : DA} (h : SA K B ta da) : SI K B (iRng3 ta) (dIR3 da) := fun F H σ γ W r R hq k => by
  refine h F H σ γ _ _ R hq fun vs F1 H1 γ1 rs R1 e1 o1 h1 => ?_
  split at h1
  · rename_i m n c es
    obtain ⟨_, _, _, _, t, h4, h5⟩ := h1
    exact ⟨m, n, c, t, ints3 R1 o1 es, h4, k _ F1 H1 γ1 _ _ R1 e1 jo_rangeC h5⟩
  · exact h1.elim
theorem lst_of {B : Bs} {F H : Hp} {σ : L2.St} {γ : Env} {v : V} {r : RS} (o : RsOk K B F H σ γ v r) (hv : allV [r]) {ds : List D} (h : r.data = .lst ds) : ∃ a vs, v = .ref a ∧ F a = some (.lst vs) ∧ RpAll (B.kz K) F vs ds := by
  cases r with
  | val d =>
    have o' : Rp (B.kz K) F v d := o
    have h' : d = .lst ds := h
    rw [h'] at o'
    cases o' with
    | lst ha ra => exact ⟨_, _, rfl, ha, ra⟩
  | own j c => exact hv.elim
  | new c => exact hv.elim
def dIZ (da : DA) (γ : Env) (r : Nat → (Nat → D → Prop) → Env → Prop) : Prop := da γ fun rs γ1 => allV rs ∧ match rs.map RS.data with
  | [.lst xs, .lst ys] => r (min xs.length ys.length) (fun i d => ∃ x y, xs[i]? = some x ∧ ys[i]? = some y ∧ d = .tup [x, y]) γ1
  | _ => False
theorem si_zip {ta : TA} {da : DA} (h : SA K B ta da) : SI K B (iZip K ta) (dIZ da) := fun F H σ γ W r R hq k => by
  refine h F H σ γ _ _ R hq fun vs F1 H1 γ1 rs R1 e1 o1 ⟨hv, h1⟩ => ?_
  split at h1
  · rename_i xs ys es
    have ra := allV_rp o1 hv
    rw [es] at ra
    cases ra with
    | cons r1 t => cases t with
      | cons r2 t => cases t with
        | nil =>
          cases r1 with
          | @lst a va _ ha ra => cases r2 with
            | @lst b vb _ hb rb =>
              refine ⟨_, _, _, _, rfl, Evl.sq_of (R1.fh _ _ ha), Evl.sq_of (R1.fh _ _ hb), k _ F1 H1 γ1 _ _ R1 e1 ⟨fun B F H σ γ i R e hi => ?_, fun B F H σ γ i x H' R e hi ⟨T, x1, x2, hx, hT, hH, f1, f2⟩ hz => ?_, fun B F H σ γ i R e hi => ?_⟩ h1⟩
              · have l1 : i < va.length := by rw [ra.length]; omega
                have l2 : i < vb.length := by rw [rb.length]; omega
                exact ⟨_, _, _, _, sq_inj_lst (e.trans R.fh) ha, sq_inj_lst (e.trans R.fh) hb, List.getElem?_eq_getElem l1, List.getElem?_eq_getElem l2⟩
              · subst hx; subst hH
                obtain ⟨d1, q1, s1⟩ := P_getL ra.p (f1 va (sq_inj_lst (e.trans R.fh) ha))
                obtain ⟨d2, q2, s2⟩ := P_getL rb.p (f2 vb (sq_inj_lst (e.trans R.fh) hb))
                obtain ⟨R', ex, rp⟩ := R.newT hT (.cons ((s1.mono e).zz hz) (.cons ((s2.mono e).zz hz) .nil))
                exact ⟨_, _, R', ex, rp, d1, d2, q1, q2, rfl⟩
              · refine ⟨_, _, sq_inj_lst (e.trans R.fh) ha, sq_inj_lst (e.trans R.fh) hb, ?_⟩
                rw [ra.length, rb.length]
                omega
  · exact h1.elim
def dIE (da : DA) (γ : Env) (r : Nat → (Nat → D → Prop) → Env → Prop) : Prop := da γ fun rs γ1 => allV rs ∧ match rs.map RS.data with
  | [.lst xs] => r xs.length (fun i d => ∃ x, xs[i]? = some x ∧ d = .tup [.int i, x]) γ1
  | _ => False
theorem si_enum {ta : TA} {da : DA} (h : SA K B ta da) : SI K B (iEnum K ta) (dIE da) := fun F H σ γ W r R hq k => by
  refine h F H σ γ _ _ R hq fun vs F1 H1 γ1 rs R1 e1 o1 ⟨hv, h1⟩ => ?_
  split at h1
  · rename_i xs es
    have ra := allV_rp o1 hv
    rw [es] at ra
    cases ra with
    | cons r1 t => cases t with
      | nil =>
        cases r1 with
        | @lst a va _ ha ra =>
          refine ⟨_, _, rfl, Evl.sq_of (R1.fh _ _ ha), k _ F1 H1 γ1 _ _ R1 e1 ⟨fun B F H σ γ i R e hi => ?_, fun B F H σ γ i x H' R e hi ⟨T, x1, hx, hT, hH, f1⟩ hz => ?_, fun B F H σ γ i R e hi => ?_⟩ h1⟩
          · have l1 : i < va.length := by rw [ra.length]; omega
            exact ⟨_, _, sq_inj_lst (e.trans R.fh) ha, List.getElem?_eq_getElem l1⟩
          · subst hx; subst hH
            obtain ⟨d1, q1, s1⟩ := P_getL ra.p (f1 va (sq_inj_lst (e.trans R.fh) ha))
            obtain ⟨R', ex, rp⟩ := R.newT hT (.cons (.int (i : Nat)) (.cons ((s1.mono e).zz hz) .nil))
            exact ⟨_, _, R', ex, rp, d1, q1, rfl⟩
          · exact ⟨_, sq_inj_lst (e.trans R.fh) ha, by rw [ra.length]; omega⟩
  · exact h1.elim
def dIV (da : DA) (γ : Env) (r : Nat → (Nat → D → Prop) → Env → Prop) : Prop := da γ fun rs γ1 => allV rs ∧ match rs.map RS.data with
  | [.lst xs] => r xs.length (fun i d => xs[xs.length - 1 - i]? = some d) γ1
  | _ => False
theorem si_rev {ta : TA} {da : DA} (h : SA K B ta da) : SI K B (iRev K ta) (dIV da) := fun F H σ γ W r R hq k => by
  refine h F H σ γ _ _ R hq fun vs F1 H1 γ1 rs R1 e1 o1 ⟨hv, h1⟩ => ?_
  split at h1
  · rename_i xs es
    have ra := allV_rp o1 hv
    rw [es] at ra
    cases ra with
    | cons r1 t => cases t with
      | nil =>
        cases r1 with
        | @lst a va _ ha ra =>
          have le := ra.length
          refine ⟨_, _, rfl, Evl.sq_of (R1.fh _ _ ha), k _ F1 H1 γ1 xs.length _ R1 e1 ⟨fun B F H σ γ i R e hi => ?_, fun B F H σ γ i x H' R e hi ⟨hH, f1⟩ hz => ?_, fun B F H σ γ i R e hi => ?_⟩ h1⟩
          · have l1 : va.length - 1 - i < va.length := by omega
            exact ⟨by omega, _, _, sq_inj_lst (e.trans R.fh) ha, List.getElem?_eq_getElem l1⟩
          · subst hH
            obtain ⟨d1, q1, s1⟩ := P_getL ra.p (f1 va (sq_inj_lst (e.trans R.fh) ha))
            rw [le] at q1
            exact ⟨F, d1, R, Evl.Ex.refl F, (s1.mono e).zz hz, q1⟩
          · show va.length ≤ i
            omega
  · exact h1.elim
end
section
variable {X : Cx} {B : Bs} {tg : Expr} {a b c e : Expr} {te : TE} {de : DE} {ta : TA} {da : DA} {p pos : Pos}
theorem i_list (h : XE X B e te de) : XI X B tg e (iList X.K te) (dIL de) := ⟨pi_list h.pe, si_list h.se⟩
theorem i_tup (h : XE X B e te de) : XI X B tg e (iTup X.K te) (dIT de) := ⟨pi_tup h.pe, si_tup h.se⟩
theorem i_r1 (hm : X.mg "range" = none) (h : XA X B [a] ta da) (hg : Gl X "range" := by rfl) (hs : starEach [a] X.env = [(false, eval a X.env)] := by rfl) : XI X B tg (.Call (.Name "range" p) [a] [] pos) (iRng1 ta) (dIR1 da) := ⟨pi_range1 hg hm h.pa hs, si_range1 h.sa⟩
theorem i_r2 (hm : X.mg "range" = none) (h : XA X B [a, b] ta da) (hg : Gl X "range" := by rfl) (hs : starEach [a, b] X.env = [(false, eval a X.env), (false, eval b X.env)] := by rfl) (hs2 : starEach [b] X.env = [(false, eval b X.env)] := by rfl) : XI X B tg (.Call (.Name "range" p) [a, b] [] pos) (iRng2 ta) (dIR2 da) := ⟨pi_range2 hg hm h.pa hs hs2, si_range2 h.sa⟩
theorem i_r3 (hm : X.mg "range" = none) (h : XA X B [a, b, c] ta da) (hg : Gl X "range" := by rfl) (hs : starEach [a, b, c] X.env = (false, eval a X.env) :: starEach [b, c] X.env := by rfl) (hpl : (backTo pos (starEach [b, c] X.env)).any (·.1) = false := by rfl) : XI X B tg (.Call (.Name "range" p) [a, b, c] [] pos) (iRng3 ta) (dIR3 da) := ⟨pi_range3 hg hm h.pa hs hpl, si_range3 h.sa⟩
theorem i_zip {elts : List Expr} {kk : Nat} {tpos : Pos} (hm : X.mg "zip" = none) (h : XA X B [a, b] ta da) (hg : Gl X "zip" := by rfl) (hs : starEach [a, b] X.env = (false, eval a X.env) :: starEach [b] X.env := by rfl) (hpl : (backTo pos (starEach [b] X.env)).any (·.1) = false := by rfl) : XI X B (.Tuple elts kk tpos) (.Call (.Name "zip" p) [a, b] [] pos) (iZip X.K ta) (dIZ da) := ⟨pi_zip hg hm h.pa hs hpl, si_zip h.sa⟩
theorem i_enum {elts : List Expr} {kk : Nat} {tpos : Pos} (hm : X.mg "enumerate" = none) (h : XA X B [a] ta da) (hg : Gl X "enumerate" := by rfl) (hs : starEach [a] X.env = [(false, eval a X.env)] := by rfl) : XI X B (.Tuple elts kk tpos) (.Call (.Name "enumerate" p) [a] [] pos) (iEnum X.K ta) (dIE da) := ⟨pi_enum hg hm h.pa hs, si_enum h.sa⟩
theorem i_rev (hm : X.mg "reversed" = none) (h : XA X B [a] ta da) (hg : Gl X "reversed" := by rfl) (hs : starEach [a] X.env = [(false, eval a X.env)] := by rfl) : XI X B tg (.Call (.Name "reversed" p) [a] [] pos) (iRev X.K ta) (dIV da) := ⟨pi_reversed hg hm h.pa hs, si_rev h.sa⟩
end
end DL

set_option Elab.async false
set_option linter.all false
set_option maxRecDepth 100000
set_option maxHeartbeats 2000000
namespace DL
open PySem PySem.Spec PyProof.Rows L2
open Evl (Ex ex_l ex_t)

/-! ### another base -/
def ownsOf (σ : L2.St) (γ : Env) (H : Hp) : List Addr := (List.range σ.length).flatMap fun (i : Nat) => match (σ[i]? : Option (Option V)), (γ[i]? : Option Sx) with
  | some (some (V.ref a)), some (Sx.own _ _) => a :: (match H a with | some (.ins _ dx _) => [dx] | _ => [])
  | _, _ => []
theorem mem_owns {σ : L2.St} {γ : Env} {H : Hp} {b : Addr} : b ∈ ownsOf σ γ H ↔ ∃ (i : Nat) (a : Addr) (p : Option Nat) (c : OC), σ[i]? = some (some (.ref a)) ∧ γ[i]? = some (.own p c) ∧ (b = a ∨ ∃ C fs, H a = some (.ins C b fs)) := by
  unfold ownsOf
  rw [List.mem_flatMap]
  constructor
  · rintro ⟨i, hi, h⟩
    split at h
    · rename_i a p c hs hg
      rcases List.mem_cons.mp h with e | h
      · exact ⟨i, a, p, c, hs, hg, .inl e⟩
      · split at h
        · rename_i C dx fs hh
          have e : b = dx := List.mem_singleton.mp h
          subst e
          exact ⟨i, a, p, c, hs, hg, .inr ⟨C, fs, hh⟩⟩
        · cases h
    · cases h
  · rintro ⟨i, a, p, c, hs, hg, h⟩
    refine ⟨i, List.mem_range.mpr (List.getElem?_eq_some_iff.mp hs).1, ?_⟩
    rw [hs, hg]
    rcases h with rfl | ⟨C, fs, hh⟩
    · exact List.mem_cons_self
    · refine List.mem_cons_of_mem _ ?_
      rw [hh]
      exact List.mem_singleton.mpr rfl
def Bs.re (B : Bs) (F H : Hp) (σ : L2.St) (γ : Env) : Bs := { B with F := F, H := H, m := ownsOf σ γ H }
section
variable {K : PySem.W.Frag} {B : Bs} {F F' H H' : Hp} {σ σ' : L2.St} {γ γ' : Env}
theorem Rep.re (R : Rep K B F H σ γ) : Rep K (B.re F H σ γ) F H σ γ := by
  refine ⟨R.fh, R.len, fun i s t hs hg => ?_, R.nd, fun b o e => ⟨fun _ => e, o, e⟩, Evl.Ex.refl F, fun b o _ _ => rfl, R.b4, fun i a p c hg hs => .inl ((mem_owns (σ := σ) (γ := γ) (H := H)).mpr ⟨i, a, p, c, hs, hg, .inl rfl⟩), R.bN, fun a o e => ⟨o, e, .refl o⟩⟩
  have q := R.sl i s t hs hg
  cases t with
  | no => trivial
  | val d => exact q
  | own p c =>
    obtain ⟨a, e, f, ok⟩ := q
    subst e
    refine ⟨a, rfl, f, ?_⟩
    cases c with
    | lst ds => exact ok
    | dct kd => exact ok
    | ins C fs =>
      obtain ⟨dx, fv, h1, h2, h3, h4, h5, h6⟩ := ok
      exact ⟨dx, fv, h1, h2, h3, h4, .inl (mem_owns.mpr ⟨i, a, p, _, hs, hg, .inr ⟨_, fv, h1⟩⟩), h6⟩
/-- what is owned may change, or is new -/
theorem Rep.owns (R : Rep K B F H σ γ) {b : Addr} (h : b ∈ ownsOf σ γ H) : b ∈ B.m ∨ B.H b = none := by
  obtain ⟨i, a, p, c, hs, hg, h⟩ := mem_owns.mp h
  rcases h with rfl | ⟨C, fs, hh⟩
  · exact R.b5 i b p c hg hs
  · obtain ⟨_, ok⟩ := R.ownObj hg hs
    cases c with
    | lst ds => obtain ⟨vs, h1, _⟩ := ok; rw [hh] at h1; cases h1
    | dct ds => obtain ⟨vs, h1, _⟩ := ok; rw [hh] at h1; cases h1
    | ins C fs =>
      obtain ⟨dx, fv, h1, h2, h3, h4, h5, h6⟩ := ok
      rw [hh] at h1
      injection h1 with h1
      injection h1 with _ e _
      rw [e]; exact h5
/-- from a base taken at (F, H): m1 what may have changed since, all of it changeable here or new -/
theorem Rep.comp (R : Rep K B F H σ γ) {B1 : Bs} (hF : B1.F = F) (hH : B1.H = H) (hN : B1.N = B.N) (hz : B1.z = B.z) (hm : ∀ b ∈ B1.m, b ∈ B.m ∨ B.H b = none) (R' : Rep K B1 F' H' σ' γ')
    (h4 : ∀ (i : Nat) a p c, γ'[i]? = some (.own p c) → σ'[i]? = some (some (.ref a)) → (∀ k, p = some k → B.pa k = some a) ∧ (p = none → B.N a = none)) : Rep K B F' H' σ' γ' := by
  have out : ∀ b o, B.H b = some o → b ∉ B.m → b ∉ B1.m := fun b o e n z => by
    rcases hm b z with q | q
    · exact n q
    · rw [e] at q; cases q
  have new : ∀ b, B1.H b = none → B.H b = none := fun b e => by
    cases q : B.H b with
    | none => rfl
    | some o => obtain ⟨_, o', e'⟩ := R.b1 b o q; rw [hH, e'] at e; cases e
  have up : ∀ b, b ∈ B1.m ∨ B1.H b = none → b ∈ B.m ∨ B.H b = none := fun b h => h.elim (hm b) fun e => .inr (new b e)
  refine ⟨R'.fh, R'.len, fun i s t hs hg => ?_, R'.nd, fun b o e => ?_, ?_, fun b o e n => ?_, h4, fun i a p c hg hs => up a (R'.b5 i a p c hg hs), fun b o e => R'.bN b o (by rw [hN]; exact e), fun a o e => let ⟨o1, h1, k1⟩ := R.bd a o e; let ⟨o2, h2, k2⟩ := R'.bd a o1 (by rw [hH]; exact h1); ⟨o2, h2, k1.trans k2⟩⟩
  · have q := R'.sl i s t hs hg
    cases t with
    | no => trivial
    | val d => obtain ⟨v, e, r⟩ := q; exact ⟨v, e, Rp.zz hz.symm r⟩
    | own p c => obtain ⟨a, e, f, ok⟩ := q; exact ⟨a, e, f, ok.base hN.symm hz.symm fun dx _ h => up dx h⟩
  · obtain ⟨x1, o1, x2⟩ := R.b1 b o e
    refine ⟨fun n => ?_, ?_⟩
    · exact (R'.b1 b o (by rw [hH]; exact x1 n)).1 (out b o e n)
    · exact (R'.b1 b o1 (by rw [hH]; exact x2)).2
  · exact R.b2.trans (by have := R'.b2; rw [hF] at this; exact this)
  · have x1 := (R.b1 b o e).1 n
    have x2 := R'.b3 b o (by rw [hH]; exact x1) (out b o e n)
    rw [x2, hF]
    exact R.b3 b o e n
theorem Rep.back (R : Rep K B F H σ γ) (R' : Rep K (B.re F H σ γ) F' H' σ' γ') : Rep K B F' H' σ' γ' := R.comp (B1 := B.re F H σ γ) rfl rfl rfl rfl (fun b h => R.owns h) R' R'.b4
/-- a list that nobody here owns is written -/
theorem Rep.poke (R : Rep K B F H σ γ) {a : Addr} {o o' : HO} (ha : H a = some o) (ho : ∀ x, o ≠ .own x) (fa : F a = none) (bm : a ∈ B.m ∨ B.H a = none) (na : ∀ (i : Nat) p c, γ[i]? = some (.own p c) → σ[i]? ≠ some (some (.ref a))) (hi : Kin o o') : Rep K B F (upd H a o') σ γ := by
  refine ⟨fun b x e => ?_, R.len, fun i s t hs hg => ?_, R.nd, fun b x e => ?_, R.b2, R.b3, R.b4, R.b5, fun b x e => ?_, fun b x e => ?_⟩
  · have n : b ≠ a := fun z => by subst z; rw [fa] at e; cases e
    rw [upd_ne n]; exact R.fh b x e
  · have q := R.sl i s t hs hg
    cases t with
    | no => trivial
    | val d => exact q
    | own q' c =>
      obtain ⟨b, e', f, ok'⟩ := q
      subst e'
      have nb : b ≠ a := fun z => by subst z; exact na i q' c hg hs
      exact ⟨b, rfl, f, ok'.heap (upd_ne nb) fun dx hd => upd_ne fun z => by subst z; rw [ha] at hd; exact ho b (Option.some.inj hd)⟩
  · obtain ⟨x1, o1, x2⟩ := R.b1 b x e
    by_cases hb : b = a
    · subst hb
      rw [upd_same]
      refine ⟨fun n => ?_, _, rfl⟩
      rcases bm with z | z
      · exact absurd z n
      · rw [e] at z; cases z
    · rw [upd_ne hb]; exact ⟨x1, o1, x2⟩
  · obtain ⟨o1, x2⟩ := R.bN b x e
    by_cases hb : b = a
    · subst hb; exact ⟨_, upd_same⟩
    · rw [upd_ne hb]; exact ⟨o1, x2⟩
  · obtain ⟨o1, x2, kn⟩ := R.bd b x e
    by_cases hb : b = a
    · subst hb
      rw [ha] at x2
      cases x2
      exact ⟨_, upd_same, kn.trans hi⟩
    · rw [upd_ne hb]; exact ⟨o1, x2, kn⟩
end

/-! ### comprehensions -/
def wipeG (γ : Env) : List Nat → Env
  | [] => γ
  | v :: vs => put (wipeG γ vs) v .no
def keepV : Sx → Sx
  | .val d => .val d
  | _ => .no
def restore (γ1 γ : Env) : List Nat → Env
  | [] => γ
  | v :: vs => put (restore γ1 γ vs) v (keepV (look γ1 v))
theorem wipe_get (σ : L2.St) (j : Nat) : ∀ vs : List Nat, (wipe σ vs)[j]? = if j ∈ vs ∧ j < σ.length then some none else σ[j]?
  | [] => by simp [wipe]
  | v :: vs => by
    unfold wipe
    by_cases e : v = j
    · subst e
      by_cases hl : v < σ.length
      · rw [List.getElem?_set_self (by rw [wipe_length]; exact hl), if_pos ⟨List.mem_cons_self, hl⟩]
      · rw [List.getElem?_eq_none (by rw [List.length_set, wipe_length]; omega), if_neg fun z => hl z.2, List.getElem?_eq_none (by omega)]
    · rw [List.getElem?_set_ne e, wipe_get σ j vs]
      have : (j ∈ v :: vs) ↔ j ∈ vs := by
        constructor
        · intro h
          rcases List.mem_cons.mp h with z | z
          · exact absurd z.symm e
          · exact z
        · exact List.mem_cons_of_mem _
      simp only [this]
theorem wipe_off {σ σ' : L2.St} {ix vs : List Nat} (h : Off ix (wipe σ vs) σ') (hs : ∀ i ∈ ix, i ∈ vs) : wipe σ' vs = wipe σ vs := by
  refine List.ext_getElem? fun j => ?_
  have hl : σ'.length = σ.length := h.1.trans (wipe_length σ vs)
  rw [wipe_get, wipe_get, hl]
  by_cases hj : j ∈ vs
  · by_cases h2 : j < σ.length
    · rw [if_pos ⟨hj, h2⟩, if_pos ⟨hj, h2⟩]
    · rw [if_neg fun z => h2 z.2, if_neg fun z => h2 z.2, List.getElem?_eq_none (by omega), List.getElem?_eq_none (by omega)]
  · rw [if_neg fun z => hj z.1, if_neg fun z => hj z.1, h.2 j fun z => hj (hs j z), wipe_get, if_neg fun z => hj z.1]
section
variable {K : PySem.W.Frag} {B : Bs} {F F1 H : Hp} {σ : L2.St} {γ γ1 : Env}
theorem Rep.wipe (R : Rep K B F H σ γ) : ∀ vs : List Nat, Rep K B F H (L2.wipe σ vs) (wipeG γ vs)
  | [] => R
  | v :: vs => by
    have R1 := R.wipe vs
    have R2 : Rep K B F H (L2.wipe σ vs) (put (wipeG γ vs) v .no) := R1.told (fun _ _ => trivial) (fun _ _ z => by cases z)
    have key : ∀ {j : Nat} {p : Option Nat} {c : OC} {s : Option V}, (put (wipeG γ vs) v .no)[j]? = some (.own p c) → ((L2.wipe σ vs).set v none)[j]? = some s → (L2.wipe σ vs)[j]? = some s := fun h1 h2 => by
      rcases get_put h1 with ⟨_, e⟩ | ⟨n, _⟩
      · cases e
      · rw [List.getElem?_set_ne (fun z => n z.symm)] at h2; exact h2
    unfold L2.wipe wipeG
    refine ⟨R2.fh, by rw [List.length_set]; exact R2.len, fun j s t hs hg => ?_, fun i j a p c q c' h1 h2 h3 h4 => R2.nd i j a p c q c' h1 h2 (key h1 h3) (key h2 h4), R2.b1, R2.b2, R2.b3, fun j a p c h1 h2 => R2.b4 j a p c h1 (key h1 h2), fun j a p c h1 h2 => R2.b5 j a p c h1 (key h1 h2), R2.bN, R2.bd⟩
    by_cases e : v = j
    · subst e
      rcases get_put hg with ⟨_, e⟩ | ⟨n, _⟩
      · rw [e]; trivial
      · exact absurd rfl n
    · rw [List.getElem?_set_ne e] at hs
      exact R2.sl j s t hs hg
theorem restore_get {γ1 γ : Env} {j : Nat} {s : Sx} : ∀ {vs : List Nat}, (restore γ1 γ vs)[j]? = some s → (j ∈ vs ∧ s = keepV (look γ1 j)) ∨ (j ∉ vs ∧ γ[j]? = some s)
  | [], h => .inr ⟨(fun z => by cases z), h⟩
  | v :: vs, h => by
    unfold restore at h
    rcases get_put h with ⟨rfl, e⟩ | ⟨n, e⟩
    · exact .inl ⟨List.mem_cons_self, e⟩
    · rcases restore_get e with ⟨a, b⟩ | ⟨a, b⟩
      · exact .inl ⟨List.mem_cons_of_mem _ a, b⟩
      · exact .inr ⟨fun z => (List.mem_cons.mp z).elim n a, b⟩
theorem restore_len {γ1 γ : Env} : ∀ vs : List Nat, (restore γ1 γ vs).length = γ.length
  | [] => rfl
  | v :: vs => by unfold restore; rw [put_len, restore_len vs]
theorem Rep.rest {H0 : Hp} {B0 : Bs} (R0 : Rep K B0 F1 H0 σ γ1) {vs : List Nat} (R : Rep K B F H (L2.wipe σ vs) γ) (e : Ex F1 F) (hz : B.z = B0.z) : Rep K B F H σ (restore γ1 γ vs) := by
  have key : ∀ {j : Nat} {p : Option Nat} {c : OC} {s : Option V}, (restore γ1 γ vs)[j]? = some (.own p c) → σ[j]? = some s → γ[j]? = some (.own p c) ∧ (L2.wipe σ vs)[j]? = some s := fun {j p c s} h1 h2 => by
    rcases restore_get h1 with ⟨_, z⟩ | ⟨n, z⟩
    · unfold keepV at z
      split at z <;> cases z
    · exact ⟨z, by rw [wipe_get, if_neg fun q => n q.1]; exact h2⟩
  refine ⟨R.fh, by rw [restore_len, ← R.len, wipe_length], fun j s t hs hg => ?_, fun i j a p c q c' h1 h2 h3 h4 => R.nd i j a p c q c' (key h1 h3).1 (key h2 h4).1 (key h1 h3).2 (key h2 h4).2, R.b1, R.b2, R.b3, fun j a p c h1 h2 => R.b4 j a p c (key h1 h2).1 (key h1 h2).2, fun j a p c h1 h2 => R.b5 j a p c (key h1 h2).1 (key h1 h2).2, R.bN, R.bd⟩
  rcases restore_get hg with ⟨_, z⟩ | ⟨n, z⟩
  · unfold keepV at z
    split at z
    · rename_i d hl
      subst z
      obtain ⟨v, h1, r⟩ := R0.val hl
      rw [hs] at h1
      cases h1
      exact ⟨v, rfl, (r.mono e).zz hz⟩
    · subst z; trivial
  · exact R.sl j s t (by rw [wipe_get, if_neg fun q => n q.1]; exact hs) z
end
/-- [elt for target in iter if ..]: I by the turn, what is made so far and the names -/
def dLc (di : DI) (dg : DG) (dt : DT) (de : DE) (vs : List Nat) (γ : Env) (q : RS → Env → Prop) : Prop := di γ fun n y γ1 => n ≤ 1000000 ∧ ∃ I : Nat → List D → Env → Prop, I 0 [] (wipeG γ1 vs) ∧
  (∀ i acc γ2, i < n → I i acc γ2 → ∀ x, y i x → dg x γ2 fun γ3 => dt γ3 fun b γ4 => (b = true → de γ4 fun s γ5 => s.kept ∧ I (i + 1) (acc ++ [s.data]) (wipeG γ5 vs)) ∧ (b = false → I (i + 1) acc (wipeG γ4 vs))) ∧
  ∀ acc γ2, I n acc γ2 → q (.new (.lst acc)) (restore γ1 γ2 vs)
theorem se_lc {K : PySem.W.Frag} {B : Bs} {wi : TI} {di : DI} {g : TG} {dg : DG} {tt : TT} {dt : DT} {te : TE} {de : DE} {vs ix : List Nat} (hi : SI K B wi di) (hg : ∀ B, SG K B g dg ix) (ht : ∀ B, ST K B tt dt) (he : ∀ B, SE K B te de) (hs : ∀ i ∈ ix, i ∈ vs) : SE K B (tLc wi g tt te vs) (dLc di dg dt de vs) := fun F H σ γ Q q R hq k => by
  refine hi F H σ γ _ _ R hq fun J F1 H1 γ1 n y R1 e1 jo ⟨hn, I, i0, it, ie⟩ => ?_
  intro L hL
  obtain ⟨f1, f2, f3, f4⟩ := R1.fresh hL
  -- the state between two turns
  refine ⟨fun i m H' => m = n - i ∧ i ≤ n ∧ ∃ F' γ' acc va, Rep K B F' H' (wipe σ vs) γ' ∧ Ex F1 F' ∧ H' L = some (.lst va) ∧ F' L = none ∧ RpAll (B.kz K) F' va acc ∧ acc.length ≤ i ∧ (∀ (j : Nat) p c, γ'[j]? = some (.own p c) → (wipe σ vs)[j]? ≠ some (some (.ref L))) ∧ I i acc γ',
    ⟨n, by omega, by omega, F1, _, [], [], (R1.alloc _ hL).wipe vs, Evl.Ex.refl F1, upd_same, f1, .nil, Nat.le_refl _, fun j p c hg hs => ?_, i0⟩, fun i m H' ⟨hm, hin, F2, γ2, acc, va, R2, e2, hL2, fL2, ra, la, na, i2⟩ => ?_⟩
  · obtain ⟨fa, ok⟩ := ((R1.alloc (.lst []) hL).wipe vs).ownObj hg hs
    have R1w := R1.wipe vs
    obtain ⟨_, ok'⟩ := R1w.ownObj hg hs
    obtain ⟨o, ho, _⟩ := ok'.obj
    rw [hL] at ho; cases ho
  · by_cases hlt : i < n
    · refine .inr ⟨jo.go B F2 H' _ γ2 i R2 e2 hlt, fun H3 => ∃ F' γ' acc va, Rep K B F' H3 (wipe σ vs) γ' ∧ Ex F1 F' ∧ H3 L = some (.lst va) ∧ F' L = none ∧ RpAll (B.kz K) F' va acc ∧ acc.length ≤ i + 1 ∧ (∀ (j : Nat) p c, γ'[j]? = some (.own p c) → (wipe σ vs)[j]? ≠ some (some (.ref L))) ∧ I (i + 1) acc γ',
        fun H3 h => ⟨n - (i + 1), by omega, rfl, by omega, h⟩, fun x H3 hy => ?_⟩
      -- the iterator's turn keeps L: it is taken over a base at this state
      have R2r := R2.re
      have nL : L ∉ ownsOf (wipe σ vs) γ2 H' := fun z => by
        obtain ⟨j, a, p, c, h1, h2, h3⟩ := mem_owns.mp z
        rcases h3 with rfl | ⟨C, fs, h3⟩
        · exact na j p c h2 h1
        · obtain ⟨_, ok⟩ := R2.ownObj h2 h1
          cases c with
          | lst ds => obtain ⟨_, q1, _⟩ := ok; rw [h3] at q1; cases q1
          | dct ds => obtain ⟨_, q1, _⟩ := ok; rw [h3] at q1; cases q1
          | ins C' fs' =>
            obtain ⟨dx, fv, q1, q2, _⟩ := ok
            rw [h3] at q1
            injection q1 with q1
            injection q1 with _ q1 _
            rw [← q1, hL2] at q2; cases q2
      have keepL : ∀ {F' H' σ' γ'}, Rep K (B.re F2 H' (wipe σ vs) γ2) F' H' σ' γ' → True := fun _ => trivial
      obtain ⟨F3, dd, R3, e3, rx, yx⟩ := jo.yl _ F2 H' _ γ2 i x H3 R2r e2 hlt hy rfl
      refine hg _ F3 H3 _ γ2 x dd _ _ R3 rx (it i acc γ2 hlt i2 dd yx) fun σ4 γ4 R4 o4 h4 => ?_
      have w4 : wipe σ4 vs = wipe σ vs := wipe_off o4 hs
      refine ⟨w4, ht _ F3 H3 σ4 γ4 _ _ R4 h4 fun b F5 H5 γ5 R5 e5 h5 => ?_⟩
      have atL : ∀ {F' H'' σ' γ'}, Rep K (B.re F2 H' (wipe σ vs) γ2) F' H'' σ' γ' → H'' L = some (.lst va) ∧ F' L = none ∧ ∀ (j : Nat) p c, γ'[j]? = some (.own p c) → σ'[j]? ≠ some (some (.ref L)) := fun R' => by
        refine ⟨(R'.b1 L _ hL2).1 nL, (R'.b3 L _ hL2 nL).trans fL2, fun j p c h1 h2 => ?_⟩
        rcases R'.b5 j L p c h1 h2 with z | z
        · exact nL z
        · have z' : H' L = none := z
          rw [hL2] at z'; cases z'
      have fin : ∀ {F' H'' γ' acc' va'}, Rep K B F' H'' σ4 γ' → Ex F1 F' → H'' L = some (.lst va') → F' L = none → RpAll (B.kz K) F' va' acc' → acc'.length ≤ i + 1 → (∀ (j : Nat) p c, γ'[j]? = some (.own p c) → σ4[j]? ≠ some (some (.ref L))) → I (i + 1) acc' (wipeG γ' vs) →
          ∃ F' γ' acc va, Rep K B F' H'' (wipe σ vs) γ' ∧ Ex F1 F' ∧ H'' L = some (.lst va) ∧ F' L = none ∧ RpAll (B.kz K) F' va acc ∧ acc.length ≤ i + 1 ∧ (∀ (j : Nat) p c, γ'[j]? = some (.own p c) → (wipe σ vs)[j]? ≠ some (some (.ref L))) ∧ I (i + 1) acc γ' := fun {F' H'' γ' acc' va'} a1 a2 a3 a4 a5 a6 a7 a8 => by
        refine ⟨F', wipeG γ' vs, acc', va', by rw [← w4]; exact a1.wipe vs, a2, a3, a4, a5, a6, fun j p c h1 h2 => ?_, a8⟩
        rw [← w4, wipe_get] at h2
        have h1' : γ'[j]? = some (.own p c) := by
          have go : ∀ vs : List Nat, (wipeG γ' vs)[j]? = some (.own p c) → γ'[j]? = some (.own p c) := fun vs => by
            induction vs with
            | nil => exact fun h => h
            | cons v vs ih =>
              intro h
              unfold wipeG at h
              rcases get_put h with ⟨_, e⟩ | ⟨_, e⟩
              · cases e
              · exact ih e
          exact go vs h1
        split at h2
        · cases h2
        · exact a7 j p c h1' h2
      cases b with
      | true =>
        show te σ4 H5 _
        refine he _ F5 H5 σ4 γ5 _ _ R5 (h5.1 rfl) fun v F6 H6 γ6 s R6 e6 o6 ⟨hk, h7⟩ => ?_
        obtain ⟨F7, R7, e7, o7⟩ := o6.fz R6
        have rv := o7.kp hk
        obtain ⟨g1, g2, g3⟩ := atL R7
        have ex : Ex F2 F7 := ((e3.trans e5).trans e6).trans e7
        refine ⟨va, g1, Nat.lt_of_lt_of_le (show va.length < 1000001 by rw [ra.length]; omega) (by decide), ?_⟩
        have R8 : Rep K B F7 H6 σ4 γ6 := R2.back R7
        exact fin (R8.poke (o' := .lst (va ++ [v])) g1 (fun x z => by cases z) g2 (.inr f2) g3 ⟨_, rfl⟩) (e2.trans ex) upd_same g2 (RpAll.of (P_app (ra.mono ex).p (.cons rv .nil))) (by rw [List.length_append, List.length_singleton]; omega) g3 h7
      | false =>
        obtain ⟨g1, g2, g3⟩ := atL R5
        have ex : Ex F2 F5 := e3.trans e5
        exact fin (R2.back R5) (e2.trans ex) g1 g2 (ra.mono ex) (by omega) g3 (h5.2 rfl)
    · obtain rfl : i = n := by omega
      refine .inl ⟨jo.st B F2 H' _ γ2 i R2 e2 (Nat.le_refl _), ?_⟩
      have R3 : Rep K B F2 H' σ (restore γ1 γ2 vs) := Rep.rest R1 R2 e2 rfl
      refine k _ F2 H' _ (.new (.lst acc)) R3 (e1.trans e2) ⟨L, rfl, fL2, ⟨va, hL2, ra⟩, f3, .inr f2, fun j p c h1 h2 => ?_⟩ (ie acc γ2 i2)
      rcases restore_get h1 with ⟨_, z⟩ | ⟨nj, z⟩
      · unfold keepV at z
        split at z <;> cases z
      · exact na j p c z (by rw [wipe_get, if_neg fun q => nj q.1]; exact h2)
structure XTs (X : Cx) (B : Bs) (ifs : List Expr) (tt : TT) (dt : DT) : Prop where
  pt : PTs X ifs tt
  st : ST X.K B tt dt
def dYes (γ : Env) (q : Bool → Env → Prop) : Prop := q true γ
theorem ts_nil {X : Cx} {B : Bs} : XTs X B [] tYes dYes := ⟨pts_nil, fun F H σ γ Q q R hq k => k true F H γ R (Evl.Ex.refl F) hq⟩
theorem ts_one {X : Cx} {B : Bs} {c : Expr} {tt : TT} {dt : DT} (h : XT X B c tt dt) : XTs X B [c] tt dt := ⟨pts_one h.pt, h.st⟩
section
variable {X : Cx} {B : Bs} {elt tg iter : Expr} {ifs : List Expr} {scope : Scope} {pos : Pos} {wi : TI} {di : DI} {g : TG} {dg : DG} {tt : TT} {dt : DT} {te : TE} {de : DE} {ix : List Nat}
theorem x_lc (own : List (Str × Nat)) (hc : X.calm = true) (hN : X.N.Nodup) (hi : XI X B tg iter wi di) (ok : BlkOk X.N X.env.scope scope own)
    (hg : ∀ (B : Bs) (s : Shared) (H : Hp) (C : Addr) (cl : List (Str × Addr)) (fp : List Addr), XG (X.blk s H scope (compEnvC scope cl C X.env) fp) B tg g dg ix) (ht : ∀ (B : Bs) (s : Shared) (H : Hp) (C : Addr) (cl : List (Str × Addr)) (fp : List Addr), XTs (X.blk s H scope (compEnvC scope cl C X.env) fp) B ifs tt dt)
    (he : ∀ (B : Bs) (s : Shared) (H : Hp) (C : Addr) (cl : List (Str × Addr)) (fp : List Addr), XE (X.blk s H scope (compEnvC scope cl C X.env) fp) B elt te de) (hix : ∀ i ∈ ix, i ∈ own.map (·.2)) (hs : ∀ x, foldedSetIterable iter X.env x = pure x := by intro _; rfl) :
    XE X B (.ListComp elt [⟨tg, iter, ifs, 0⟩] scope pos) (tLc wi g tt te (own.map (·.2))) (dLc di dg dt de (own.map (·.2))) :=
  ⟨pe_lc hc hN hi.pi ok (fun s H C cl fp => (hg B s H C cl fp).pg) (fun s H C cl fp => (ht B s H C cl fp).pt) (fun s H C cl fp => (he B s H C cl fp).pe) hs,
    se_lc hi.si (fun B => (hg B X.s_0 X.H_0 0 [] []).sg) (fun B => (ht B X.s_0 X.H_0 0 [] []).st) (fun B => (he B X.s_0 X.H_0 0 [] []).se) hix⟩
end
end DL

set_option Elab.async false
set_option linter.all false
set_option maxRecDepth 100000
set_option maxHeartbeats 2000000
namespace DL
open PySem PySem.Spec PyProof.Rows L2
open Evl (Ex ex_l ex_t)
section
variable {X : Cx} {B : Bs} {elt tg iter : Expr} {ifs : List Expr} {scope : Scope} {pos spos : Pos} {wi : TI} {di : DI} {g : TG} {dg : DG} {tt : TT} {dt : DT} {te : TE} {de : DE} {ix : List Nat}
/-- name = [..] on one line -/
theorem s_setLc (i : Nat) (own : List (Str × Nat)) {y : Str} {py : Pos} (hc : X.calm = true) (hN : X.N.Nodup) (hi : XI X B tg iter wi di) (ok : BlkOk X.N X.env.scope scope own)
    (hg : ∀ (B : Bs) (s : Shared) (H : Hp) (C : Addr) (cl : List (Str × Addr)) (fp : List Addr), XG (X.blk s H scope (compEnvC scope cl C X.env) fp) B tg g dg ix) (ht : ∀ (B : Bs) (s : Shared) (H : Hp) (C : Addr) (cl : List (Str × Addr)) (fp : List Addr), XTs (X.blk s H scope (compEnvC scope cl C X.env) fp) B ifs tt dt)
    (he : ∀ (B : Bs) (s : Shared) (H : Hp) (C : Addr) (cl : List (Str × Addr)) (fp : List Addr), XE (X.blk s H scope (compEnvC scope cl C X.env) fp) B elt te de) (hix : ∀ i ∈ ix, i ∈ own.map (·.2)) (hsw : swapsWith (.ListComp elt [⟨tg, iter, ifs, 0⟩] scope pos) (some (.Name y py)) spos.line X.env = pure true)
    (hy : X.N[i]? = some y := by rfl) (hyl : X.env.scope.names.lookup y = some .local := by rfl) (hs : ∀ x, foldedSetIterable iter X.env x = pure x := by intro _; rfl) :
    XS X B (.Assign [.Name y py] (.ListComp elt [⟨tg, iter, ifs, 0⟩] scope pos) spos) (tAsg (tLc wi g tt te (own.map (·.2))) (gName i)) (dAsg i (dLc di dg dt de (own.map (·.2)))) :=
  ⟨ps_setLc hc hN hy hyl hsw hi.pi ok (fun s H C cl fp => (hg B s H C cl fp).pg) (fun s H C cl fp => (ht B s H C cl fp).pt) (fun s H C cl fp => (he B s H C cl fp).pe) hs,
    sa_name (se_lc hi.si (fun B => (hg B X.s_0 X.H_0 0 [] []).sg) (fun B => (ht B X.s_0 X.H_0 0 [] []).st) (fun B => (he B X.s_0 X.H_0 0 [] []).se) hix)⟩
end

/-! ### promises in data -/
abbrev FS := List Sx → (RS → List Sx → Prop) → Prop
abbrev ZN (H : Hp) := {z : Addr → Prop // ∀ a, z a → ∃ o, H a = some o}
theorem Rep.znp {K : PySem.W.Frag} {B : Bs} {F H : Hp} {σ : L2.St} {γ : Env} (R : Rep K B F H σ γ) : ∀ a, B.z a → ∃ o, H a = some o := fun a h => let ⟨o, e⟩ := B.zn a h; R.bN a o e
abbrev Rep.zn {K : PySem.W.Frag} {B : Bs} {F H : Hp} {σ : L2.St} {γ : Env} (R : Rep K B F H σ γ) : ZN H := ⟨B.z, R.znp⟩
def entry (F H : Hp) (m : List Addr) (z : ZN H) (vs : List V) : Bs := ⟨H, fun k => match (vs[k]? : Option V) with | some (.ref a) => some a | _ => none, F, H, m, z.1, z.2⟩
def spOf (K : PySem.W.Frag) (n : Nat) (fs : FS) : Sp := fun vs H Q _ => vs.length = n ∧ ∃ F m, ∃ z : ZN H, ∃ as p, Rep K (entry F H m z vs) F H (vs.map some) as ∧ fs as p ∧
  ∀ r as' v F' H', p r as' → Rep K (entry F H m z vs) F' H' (vs.map some) as' → RsOk K (entry F H m z vs) F' H' (vs.map some) as' v r → r.kept → Q v H'
/-- what the parameters' things are at the end -/
def Outs : List Sx → Env → List Sx → Prop
  | [], _, zs => zs = []
  | .own p _ :: as, s :: γ, zs => ∃ c' r, s = .own p c' ∧ zs = .own p c' :: r ∧ Outs as γ r
  | t :: as, _ :: γ, zs => ∃ r, zs = t :: r ∧ Outs as γ r
  | _ :: _, [], _ => False
/-- the same, with what follows -/
def OutP : List Sx → Env → (List Sx → Prop) → Prop
  | [], _, k => k []
  | .own p _ :: as, .own p' c' :: γ, k => p' = p ∧ OutP as γ fun r => k (.own p c' :: r)
  | .val d :: as, _ :: γ, k => OutP as γ fun r => k (.val d :: r)
  | .no :: as, _ :: γ, k => OutP as γ fun r => k (.no :: r)
  | _, _, _ => False
theorem outP : ∀ {as : List Sx} {γ : Env} {k : List Sx → Prop}, OutP as γ k → ∃ as', Outs as γ as' ∧ k as'
  | [], _, _, h => ⟨[], rfl, h⟩
  | .own p _ :: as, .own p' c' :: γ, k, h => by
    obtain ⟨rfl, h⟩ := h
    obtain ⟨r, h1, h2⟩ := outP h
    exact ⟨_, ⟨c', r, rfl, rfl, h1⟩, h2⟩
  | .val d :: as, s :: γ, k, h => by
    obtain ⟨r, h1, h2⟩ := outP (as := as) (γ := γ) (k := fun r => k (.val d :: r)) (by unfold OutP at h; exact h)
    exact ⟨_, ⟨r, rfl, h1⟩, h2⟩
  | .no :: as, s :: γ, k, h => by
    obtain ⟨r, h1, h2⟩ := outP (as := as) (γ := γ) (k := fun r => k (.no :: r)) (by unfold OutP at h; exact h)
    exact ⟨_, ⟨r, rfl, h1⟩, h2⟩
def startG (n : Nat) (as : List Sx) : Env := as ++ List.replicate (n - as.length) .no
def endsOf (as : List Sx) (p : RS → List Sx → Prop) : DEnds := { nx := fun γ => OutP as γ fun zs => p (.val .non) zs, rt := fun r γ => r.kept ∧ OutP as γ fun zs => p r zs }
theorem endsOf_nx {as : List Sx} {p : RS → List Sx → Prop} {γ : Env} : (endsOf as p).nx γ = OutP as γ fun zs => p (.val .non) zs := rfl
theorem endsOf_rt {as : List Sx} {p : RS → List Sx → Prop} {r : RS} {γ : Env} : (endsOf as p).rt r γ = (r.kept ∧ OutP as γ fun zs => p r zs) := rfl
theorem endsOf_bk {as : List Sx} {p : RS → List Sx → Prop} {γ : Env} : (endsOf as p).bk γ = False := rfl
theorem outs_get : ∀ {as : List Sx} {γ : Env} {zs : List Sx}, Outs as γ zs → zs.length = as.length ∧ ∀ (i : Nat) z, zs[i]? = some z → (∃ p c c', as[i]? = some (.own p c) ∧ γ[i]? = some (.own p c') ∧ z = .own p c') ∨ (as[i]? = some z ∧ ∀ p c, z ≠ .own p c)
  | [], γ, zs, h => by
    have h' : zs = [] := h
    subst h'
    exact ⟨rfl, fun i z e => by simp at e⟩
  | .own p c :: as, s :: γ, zs, h => by
    obtain ⟨c', r, rfl, rfl, h⟩ := h
    obtain ⟨l, g⟩ := outs_get h
    refine ⟨by rw [List.length_cons, List.length_cons, l], fun i z e => ?_⟩
    cases i with
    | zero => simp at e; subst e; exact .inl ⟨p, c, c', rfl, rfl, rfl⟩
    | succ i => simpa using g i z (by simpa using e)
  | .val d :: as, s :: γ, zs, h => by
    obtain ⟨r, rfl, h⟩ := h
    obtain ⟨l, g⟩ := outs_get h
    refine ⟨by rw [List.length_cons, List.length_cons, l], fun i z e => ?_⟩
    cases i with
    | zero => simp at e; subst e; exact .inr ⟨rfl, fun p c z => by cases z⟩
    | succ i => simpa using g i z (by simpa using e)
  | .no :: as, s :: γ, zs, h => by
    obtain ⟨r, rfl, h⟩ := h
    obtain ⟨l, g⟩ := outs_get h
    refine ⟨by rw [List.length_cons, List.length_cons, l], fun i z e => ?_⟩
    cases i with
    | zero => simp at e; subst e; exact .inr ⟨rfl, fun p c z => by cases z⟩
    | succ i => simpa using g i z (by simpa using e)
section
variable {K : PySem.W.Frag} {B : Bs} {F F' H H' : Hp} {m : List Addr} {z : ZN H} {vs : List V} {as zs : List Sx} {σ' : L2.St} {γ' : Env}
theorem start_get {N : List Str} {i : Nat} {s : Option V} {t : Sx} {n : Nat} (h1 : (start N vs)[i]? = some s) (h2 : (startG n as)[i]? = some t) (hl : vs.length = as.length) : ((vs.map some)[i]? = some s ∧ as[i]? = some t) ∨ t = .no := by
  unfold L2.start at h1
  unfold startG at h2
  by_cases hi : i < as.length
  · rw [List.getElem?_append_left (by rw [List.length_map]; omega)] at h1
    rw [List.getElem?_append_left hi] at h2
    exact .inl ⟨h1, h2⟩
  · rw [List.getElem?_append_right (by omega)] at h2
    exact .inr (List.eq_of_mem_replicate (List.mem_of_getElem? h2))
/-- at a def's start -/
theorem Rep.start {B : Bs} {N : List Str} (R : Rep K B F H (vs.map some) as) (hN : vs.length ≤ N.length) : Rep K B F H (start N vs) (startG N.length as) := by
  have hl : vs.length = as.length := by have := R.len; rw [List.length_map] at this; exact this
  have key : ∀ {i : Nat} {p : Option Nat} {c : OC} {s : Option V}, (startG N.length as)[i]? = some (.own p c) → (L2.start N vs)[i]? = some s → as[i]? = some (.own p c) ∧ (vs.map some)[i]? = some s := fun h1 h2 => by
    rcases start_get h2 h1 hl with ⟨a, b⟩ | z
    · exact ⟨b, a⟩
    · cases z
  refine ⟨R.fh, ?_, fun i s t hs hg => ?_, fun i j a p c q c' h1 h2 h3 h4 => R.nd i j a p c q c' (key h1 h3).1 (key h2 h4).1 (key h1 h3).2 (key h2 h4).2, R.b1, R.b2, R.b3, fun j a p c h1 h2 => R.b4 j a p c (key h1 h2).1 (key h1 h2).2, fun j a p c h1 h2 => R.b5 j a p c (key h1 h2).1 (key h1 h2).2, R.bN, R.bd⟩
  · unfold L2.start startG
    rw [List.length_append, List.length_append, List.length_map, List.length_replicate, List.length_replicate, hl]
  · rcases start_get hs hg hl with ⟨a, b⟩ | z
    · exact R.sl i s t a b
    · subst z; trivial
/-- at its end -/
theorem Rep.outs (R0 : Rep K (entry F H m z vs) F H (vs.map some) as) (R : Rep K (entry F H m z vs) F' H' σ' γ') (h : Outs as γ' zs) : Rep K (entry F H m z vs) F' H' (vs.map some) zs := by
  obtain ⟨hl, hz⟩ := outs_get h
  have own : ∀ {i : Nat} {p : Option Nat} {c : OC} {a : Addr}, zs[i]? = some (.own p c) → (vs.map some)[i]? = some (some (.ref a)) → ∃ c0, as[i]? = some (.own p c0) ∧ γ'[i]? = some (.own p c) ∧ σ'[i]? = some (some (.ref a)) := fun {i p c a} h1 h2 => by
    rcases hz i _ h1 with ⟨p', c0, c', e1, e2, e3⟩ | ⟨_, n⟩
    · injection e3 with e3 e4
      subst e3; subst e4
      obtain ⟨b, e5, _⟩ : ∃ b, σ'[i]? = some (some (.ref b)) ∧ True := by
        obtain ⟨l1, _⟩ := List.getElem?_eq_some_iff.mp e2
        have l2 : i < σ'.length := by rw [R.len]; exact l1
        obtain ⟨b, e, _⟩ := R.sl i _ _ (List.getElem?_eq_getElem l2) e2
        exact ⟨b, by rw [List.getElem?_eq_getElem l2, e], trivial⟩
      obtain ⟨q1, q2⟩ := R.b4 i b p c e2 e5
      obtain ⟨q3, q4⟩ := R0.b4 i a p c0 e1 h2
      refine ⟨c0, e1, e2, ?_⟩
      cases p with
      | none =>
        obtain ⟨_, ok⟩ := R0.ownObj e1 h2
        obtain ⟨o, ho, _⟩ := ok.obj
        have z : H a = none := q4 rfl
        rw [z] at ho; cases ho
      | some k =>
        have z1 := q1 k rfl
        have z2 := q3 k rfl
        rw [z2] at z1
        cases z1
        exact e5
    · exact absurd rfl (n p c)
  refine ⟨R.fh, by rw [hl]; exact R0.len, fun i s t hs hg => ?_, fun i j a p c q c' h1 h2 h3 h4 => ?_, R.b1, R.b2, R.b3, fun i a p c h1 h2 => ?_, fun i a p c h1 h2 => ?_, R.bN, R.bd⟩
  · cases t with
    | no => trivial
    | val d =>
      rcases hz i _ hg with ⟨_, _, _, _, _, z⟩ | ⟨e, _⟩
      · cases z
      · obtain ⟨v, e1, r⟩ := R0.sl i s _ hs e
        exact ⟨v, e1, r.mono R.b2⟩
    | own p c =>
      obtain ⟨v, hv, e0⟩ : ∃ v, vs[i]? = some v ∧ s = some v := by
        rw [List.getElem?_map] at hs
        cases q : vs[i]? with
        | none => rw [q] at hs; cases hs
        | some v => rw [q] at hs; exact ⟨v, rfl, (Option.some.inj hs).symm⟩
      subst e0
      rcases hz i _ hg with ⟨p', c0, c', e1, e2, e3⟩ | ⟨_, n⟩
      · injection e3 with e3 e4
        subst e3; subst e4
        obtain ⟨a, ea, _⟩ := R0.sl i _ _ hs e1
        cases ea
        obtain ⟨_, _, q2, q3⟩ := own hg hs
        obtain ⟨a', ea', f, ok⟩ := R.sl i _ _ q3 q2
        cases ea'
        exact ⟨a, rfl, f, ok⟩
      · exact absurd rfl (n p c)
  · obtain ⟨_, q1, q2, q3⟩ := own h1 h3
    obtain ⟨_, q4, q5, q6⟩ := own h2 h4
    exact R0.nd i j a p _ q _ q1 q4 h3 h4
  · obtain ⟨_, q1, q2, q3⟩ := own h1 h2
    exact R.b4 i a p c q2 q3
  · obtain ⟨_, q1, q2, q3⟩ := own h1 h2
    exact R.b5 i a p c q2 q3
end
section
variable {P : Program} {w : World} {K : PySem.W.Frag} {B : Bs} {mg : Str → Option Value} {base : Heap}
/-- THE RULE for a def: its body as a term of rules, and what it does on data -/
theorem fn_ok {x qual : Str} {st : Stmt} {f : Addr} {fd : FuncData} {N ps : List Str} {k n : Nat} {fs : FS} {ds : DS} (F : Fun K x qual st f fd) (S : FnScope N ps (defScope st)) (hn : ps.length = n) (hN : n ≤ N.length)
    (body : ∀ (B : Bs) (cdv : Value) (A : Around) (outer : List PySem.Env) (s : Shared) (H : Hp) (E : XK), Room k (A.deeper (envOfC qual (defScope st) s.heap.objs.size f cdv)) → ∃ ts, XSs (cxOf CX0 P w K mg base N qual (defScope st) f cdv A outer s H E).nox B (defBody st) ts ds)
    (h : ∀ as p, as.length = n → fs as p → ds (endsOf as p) (startG N.length as)) : FnOk P w K mg base CX0 (k + 1) f fd ps (spOf K n fs) := by
  refine F.ok S (fun vs H Q E h => h.1.trans hn.symm) fun cdv A outer s H vs Q E hr hsp => ?_
  obtain ⟨hl, F0, m, z, as, p, R0, hf, hq⟩ := hsp
  obtain ⟨ts, b⟩ := body (entry F0 H m z vs) cdv A outer s H E hr
  refine ⟨ts, b.ps, ?_⟩
  have ha : as.length = n := by have := R0.len; rw [List.length_map] at this; omega
  refine b.ss F0 H _ _ _ (endsOf as p) (R0.start (by rw [hl]; exact hN)) (h as p ha hf) ⟨fun F' H' σ' γ' R' _ h1 => ?_, fun F' H' σ' γ' v r R' _ o ⟨hk, h1⟩ => ?_, fun _ _ _ _ _ _ z => z, fun _ _ _ _ _ _ z => z⟩
  · obtain ⟨zs, ho, hp⟩ := outP h1
    exact hq (.val .non) zs .non F' H' hp (R0.outs R' ho) .non trivial
  · obtain ⟨zs, ho, hp⟩ := outP h1
    have R2 := R0.outs R' ho
    refine hq r zs v F' H' hp R2 ?_ hk
    cases r with
    | val d => exact o
    | own j c => exact hk.elim
    | new c =>
      obtain ⟨a, rfl, N⟩ := o
      refine ⟨a, rfl, N.fa, N.ok, N.bn, N.bm, fun i p' c' h1 h2 => ?_⟩
      obtain ⟨_, ok⟩ := R2.ownObj h1 h2
      have e1 : H a = none := N.bn
      obtain ⟨_, h3⟩ := outs_get ho
      rcases h3 i _ h1 with ⟨p2, c0, c2, e2, _, _⟩ | ⟨_, n2⟩
      · obtain ⟨_, ok2⟩ := R0.ownObj e2 h2
        obtain ⟨o, ho, _⟩ := ok2.obj
        rw [e1] at ho; cases ho
      · exact n2 p' c' rfl
end

/-! ### calls -/
def noNew : List RS → Prop
  | [] => True
  | .new _ :: _ => False
  | _ :: r => noNew r
def ownIx : List RS → List Nat
  | [] => []
  | .own j _ :: r => j :: ownIx r
  | _ :: r => ownIx r
def argsOf : Nat → List RS → List Sx
  | _, [] => []
  | k, .val d :: r => .val d :: argsOf (k + 1) r
  | k, .own _ c :: r => .own (some k) c :: argsOf (k + 1) r
  | k, .new _ :: r => .no :: argsOf (k + 1) r
def putC (γ : Env) (j : Nat) (t : Sx) : Env := match look γ j, t with
  | .own p _, .own _ c => put γ j (.own p c)
  | _, _ => put γ j .no
def upds : Env → List RS → List Sx → Env
  | γ, .own j _ :: r, t :: as => upds (putC γ j t) r as
  | γ, .own j _ :: r, [] => upds (put γ j .no) r []
  | γ, _ :: r, _ :: as => upds γ r as
  | γ, _ :: r, [] => upds γ r []
  | γ, [], _ => γ
theorem putC_len {γ : Env} {j : Nat} {t : Sx} : (putC γ j t).length = γ.length := by
  unfold putC
  split <;> rw [put_len]
theorem put_ne {γ : Env} {i j : Nat} {t : Sx} (h : i ≠ j) : (put γ j t)[i]? = γ[i]? := by rw [put_set, List.getElem?_set_ne (Ne.symm h)]
theorem putC_ne {γ : Env} {i j : Nat} {t : Sx} (h : i ≠ j) : (putC γ j t)[i]? = γ[i]? := by
  unfold putC
  split <;> rw [put_ne h]
theorem upds_len : ∀ {rs : List RS} {as : List Sx} {γ : Env}, (upds γ rs as).length = γ.length
  | [], _, _ => rfl
  | .own j _ :: r, t :: as, γ => by unfold upds; rw [upds_len, putC_len]
  | .own j _ :: r, [], γ => by unfold upds; rw [upds_len, put_len]
  | .val d :: r, _ :: as, γ => by unfold upds; exact upds_len
  | .val d :: r, [], γ => by unfold upds; exact upds_len
  | .new d :: r, _ :: as, γ => by unfold upds; exact upds_len
  | .new d :: r, [], γ => by unfold upds; exact upds_len
theorem upds_off : ∀ {rs : List RS} {as : List Sx} {γ : Env} {i : Nat}, i ∉ ownIx rs → (upds γ rs as)[i]? = γ[i]?
  | [], _, _, _, _ => rfl
  | .own j _ :: r, t :: as, γ, i, h => by
    unfold upds
    rw [upds_off (fun z => h (List.mem_cons_of_mem _ z)), putC_ne fun z => h (by rw [z]; exact List.mem_cons_self)]
  | .own j _ :: r, [], γ, i, h => by
    unfold upds
    rw [upds_off (fun z => h (List.mem_cons_of_mem _ z)), put_ne fun z => h (by rw [z]; exact List.mem_cons_self)]
  | .val d :: r, _ :: as, γ, i, h => by unfold upds; exact upds_off h
  | .val d :: r, [], γ, i, h => by unfold upds; exact upds_off h
  | .new d :: r, _ :: as, γ, i, h => by unfold upds; exact upds_off h
  | .new d :: r, [], γ, i, h => by unfold upds; exact upds_off h
theorem mem_ownIx : ∀ {rs : List RS} {k : Nat} {j : Nat} {c : OC}, rs[k]? = some (.own j c) → j ∈ ownIx rs
  | [], _, _, _, h => by simp at h
  | .own j' _ :: r, 0, j, c, h => by simp at h; rw [h.1]; exact List.mem_cons_self
  | .own j' _ :: r, k + 1, j, c, h => List.mem_cons_of_mem _ (mem_ownIx (k := k) (by simpa using h))
  | .val d :: r, 0, j, c, h => by simp at h
  | .val d :: r, k + 1, j, c, h => by
    show j ∈ ownIx r
    exact mem_ownIx (k := k) (by simpa using h)
  | .new d :: r, 0, j, c, h => by simp at h
  | .new d :: r, k + 1, j, c, h => by
    show j ∈ ownIx r
    exact mem_ownIx (k := k) (by simpa using h)
theorem ownIx_mem : ∀ {rs : List RS} {j : Nat}, j ∈ ownIx rs → ∃ (k : Nat) (c : OC), rs[k]? = some (RS.own j c)
  | [], _, h => by cases h
  | .own j' c :: r, j, h => by
    rcases List.mem_cons.mp h with e | h
    · exact ⟨0, c, by rw [e]; rfl⟩
    · obtain ⟨k, c', e⟩ := ownIx_mem h
      exact ⟨k + 1, c', by simpa using e⟩
  | .val d :: r, j, h => by
    obtain ⟨k, c', e⟩ := ownIx_mem (rs := r) h
    exact ⟨k + 1, c', by simpa using e⟩
  | .new d :: r, j, h => by
    obtain ⟨k, c', e⟩ := ownIx_mem (rs := r) h
    exact ⟨k + 1, c', by simpa using e⟩
theorem upds_at : ∀ {rs : List RS} {as : List Sx} {γ : Env} {k j : Nat} {c0 c1 : OC} {p : Option Nat}, (ownIx rs).Nodup → rs[k]? = some (.own j c0) → γ[j]? = some (.own p c1) →
    (upds γ rs as)[j]? = some .no ∨ ∃ p' c, as[k]? = some (.own p' c) ∧ (upds γ rs as)[j]? = some (.own p c)
  | [], _, _, _, _, _, _, _, _, h, _ => by simp at h
  | .own j' c' :: r, t :: as, γ, 0, j, c0, c1, p, nd, h, hg => by
    obtain ⟨rfl, rfl⟩ : j' = j ∧ c' = c0 := by simpa using h
    have nj : j' ∉ ownIx r := (List.nodup_cons.mp nd).1
    have lt : j' < γ.length := (List.getElem?_eq_some_iff.mp hg).1
    unfold upds
    rw [upds_off nj]
    unfold putC
    rw [look_of hg]
    cases t with
    | own p' c => exact .inr ⟨p', c, rfl, (show (put γ j' (.own p c))[j']? = some (.own p c) by rw [put_set]; exact List.getElem?_set_self lt)⟩
    | no => exact .inl (show (put γ j' .no)[j']? = some .no by rw [put_set]; exact List.getElem?_set_self lt)
    | val d => exact .inl (show (put γ j' .no)[j']? = some .no by rw [put_set]; exact List.getElem?_set_self lt)
  | .own j' c' :: r, [], γ, 0, j, c0, c1, p, nd, h, hg => by
    obtain ⟨rfl, rfl⟩ : j' = j ∧ c' = c0 := by simpa using h
    have nj : j' ∉ ownIx r := (List.nodup_cons.mp nd).1
    have lt : j' < γ.length := (List.getElem?_eq_some_iff.mp hg).1
    unfold upds
    rw [upds_off nj]
    exact .inl (by rw [put_set]; exact List.getElem?_set_self lt)
  | .own j' c' :: r, t :: as, γ, k + 1, j, c0, c1, p, nd, h, hg => by
    have hr : r[k]? = some (.own j c0) := by simpa using h
    have ne : j ≠ j' := fun e => (List.nodup_cons.mp nd).1 (by rw [← e]; exact mem_ownIx hr)
    unfold upds
    simpa using upds_at (List.nodup_cons.mp nd).2 hr (by rw [putC_ne ne]; exact hg)
  | .own j' c' :: r, [], γ, k + 1, j, c0, c1, p, nd, h, hg => by
    have hr : r[k]? = some (.own j c0) := by simpa using h
    have ne : j ≠ j' := fun e => (List.nodup_cons.mp nd).1 (by rw [← e]; exact mem_ownIx hr)
    unfold upds
    simpa using upds_at (as := []) (List.nodup_cons.mp nd).2 hr (by rw [put_ne ne]; exact hg)
  | .val d :: r, _, _, 0, _, _, _, _, _, h, _ => by simp at h
  | .new d :: r, _, _, 0, _, _, _, _, _, h, _ => by simp at h
  | .val d :: r, t :: as, γ, k + 1, j, c0, c1, p, nd, h, hg => by
    have hr : r[k]? = some (.own j c0) := by simpa using h
    unfold upds; simpa using upds_at (rs := r) (as := as) (k := k) (show (ownIx r).Nodup from nd) hr hg
  | .val d :: r, [], γ, k + 1, j, c0, c1, p, nd, h, hg => by
    have hr : r[k]? = some (.own j c0) := by simpa using h
    unfold upds; simpa using upds_at (rs := r) (as := []) (k := k) (show (ownIx r).Nodup from nd) hr hg
  | .new d :: r, t :: as, γ, k + 1, j, c0, c1, p, nd, h, hg => by
    have hr : r[k]? = some (.own j c0) := by simpa using h
    unfold upds; simpa using upds_at (rs := r) (as := as) (k := k) (show (ownIx r).Nodup from nd) hr hg
  | .new d :: r, [], γ, k + 1, j, c0, c1, p, nd, h, hg => by
    have hr : r[k]? = some (.own j c0) := by simpa using h
    unfold upds; simpa using upds_at (rs := r) (as := []) (k := k) (show (ownIx r).Nodup from nd) hr hg
theorem args_get : ∀ {rs : List RS} {b i : Nat} {t : Sx}, (argsOf b rs)[i]? = some t → (∃ d, rs[i]? = some (.val d) ∧ t = .val d) ∨ (∃ j c, rs[i]? = some (.own j c) ∧ t = .own (some (b + i)) c) ∨ t = .no
  | [], _, _, _, h => by simp [argsOf] at h
  | .val d :: r, b, 0, t, h => by simp [argsOf] at h; exact .inl ⟨d, rfl, h.symm⟩
  | .own j c :: r, b, 0, t, h => by simp [argsOf] at h; exact .inr (.inl ⟨j, c, rfl, h.symm⟩)
  | .new c :: r, b, 0, t, h => by simp [argsOf] at h; exact .inr (.inr h.symm)
  | .val d :: r, b, i + 1, t, h => by
    have := args_get (rs := r) (b := b + 1) (i := i) (t := t) (by simpa [argsOf] using h)
    rw [show b + 1 + i = b + (i + 1) by omega] at this
    simpa using this
  | .own j c :: r, b, i + 1, t, h => by
    have := args_get (rs := r) (b := b + 1) (i := i) (t := t) (by simpa [argsOf] using h)
    rw [show b + 1 + i = b + (i + 1) by omega] at this
    simpa using this
  | .new c :: r, b, i + 1, t, h => by
    have := args_get (rs := r) (b := b + 1) (i := i) (t := t) (by simpa [argsOf] using h)
    rw [show b + 1 + i = b + (i + 1) by omega] at this
    simpa using this
theorem args_len : ∀ {rs : List RS} {b : Nat}, (argsOf b rs).length = rs.length
  | [], _ => rfl
  | .val d :: r, b => by simp [argsOf, args_len]
  | .own j c :: r, b => by simp [argsOf, args_len]
  | .new c :: r, b => by simp [argsOf, args_len]
end DL

set_option Elab.async false
set_option linter.all false
set_option maxRecDepth 100000
set_option maxHeartbeats 2000000
namespace DL
open PySem PySem.Spec PyProof.Rows L2
open Evl (Ex ex_l ex_t)
section
variable {K : PySem.W.Frag} {B : Bs} {F F' H H' : Hp} {σ : L2.St} {γ : Env}
/-- a callee's arguments, as its parameters find them -/
theorem Rep.args (R : Rep K B F H σ γ) {vs dvs : List V} {rs : List RS} {dds : List D} (o : Paired (RsOk K B F H σ γ) vs rs) (od : Paired (fun v d => ∀ z F, Rp ⟨K, z⟩ F v d) dvs dds) (nd : (ownIx rs).Nodup) :
    ∃ m, (∀ b, b ∈ m → ∃ (i : Nat) (j : Nat) (c : OC) (a : Addr), rs[i]? = some (.own j c) ∧ σ[j]? = some (some (.ref a)) ∧ (b = a ∨ ∃ C fs, H a = some (.ins C b fs))) ∧
      Rep K (entry F H m R.zn (vs ++ dvs)) F H ((vs ++ dvs).map some) (argsOf 0 rs ++ dds.map Sx.val) := by
  have hlen : ((vs ++ dvs).map some).length = (argsOf 0 rs ++ dds.map Sx.val).length := by
    rw [List.length_map, List.length_append, List.length_append, args_len, List.length_map, P_len o, P_len od]
  -- an owned argument
  have own : ∀ {i : Nat} {p : Option Nat} {c : OC} {a : Addr}, (argsOf 0 rs ++ dds.map Sx.val)[i]? = some (.own p c) → ((vs ++ dvs).map some)[i]? = some (some (.ref a)) → ∃ j, rs[i]? = some (.own j c) ∧ p = some i ∧ σ[j]? = some (some (.ref a)) ∧ (∃ q, γ[j]? = some (.own q c)) ∧ (vs ++ dvs)[i]? = some (.ref a) := fun {i p c a} h1 h2 => by
    by_cases hi : i < (argsOf 0 rs).length
    · rw [List.getElem?_append_left hi] at h1
      rcases args_get h1 with ⟨d, _, z⟩ | ⟨j, c', e, z⟩ | z
      · cases z
      · injection z with z1 z2
        subst z2
        rw [Nat.zero_add] at z1
        obtain ⟨v, hv, q1, q2⟩ := P_get o e
        have h3 : (vs ++ dvs)[i]? = some v := by rw [List.getElem?_append_left (List.getElem?_eq_some_iff.mp hv).1]; exact hv
        rw [List.getElem?_map, h3] at h2
        have e2 : v = .ref a := by simpa using h2
        subst e2
        exact ⟨j, e, z1, q1, q2, h3⟩
      · cases z
    · rw [List.getElem?_append_right (by omega), List.getElem?_map] at h1
      cases q : dds[i - (argsOf 0 rs).length]? with
      | none => rw [q] at h1; cases h1
      | some d => rw [q] at h1; cases h1
  refine ⟨ownsOf ((vs ++ dvs).map some) (argsOf 0 rs ++ dds.map Sx.val) H, fun b hb => ?_, R.fh, hlen, fun i s t hs hg => ?_, fun i j a p c q c' h1 h2 h3 h4 => ?_, fun b o e => ⟨fun _ => e, o, e⟩, Evl.Ex.refl F, fun b o _ _ => rfl, fun i a p c h1 h2 => ?_, fun i a p c h1 h2 => ?_, fun b o e => ⟨o, e⟩, fun a o e => ⟨o, e, .refl o⟩⟩
  · obtain ⟨i, a, p, c, h1, h2, h3⟩ := mem_owns.mp hb
    obtain ⟨j, e1, _, e3, _, _⟩ := own h2 h1
    exact ⟨i, j, c, a, e1, e3, h3⟩
  · cases t with
    | no => trivial
    | val d =>
      rw [List.getElem?_map] at hs
      by_cases hi : i < (argsOf 0 rs).length
      · rw [List.getElem?_append_left hi] at hg
        rcases args_get hg with ⟨d', e, z⟩ | ⟨j, c', e, z⟩ | z
        · cases z
          obtain ⟨v, hv, q1⟩ := P_get o e
          rw [List.getElem?_append_left (List.getElem?_eq_some_iff.mp hv).1, hv] at hs
          exact ⟨v, (Option.some.inj hs).symm, q1⟩
        · cases z
        · cases z
      · rw [List.getElem?_append_right (by omega), List.getElem?_map] at hg
        cases q : dds[i - (argsOf 0 rs).length]? with
        | none => rw [q] at hg; cases hg
        | some d' =>
          rw [q] at hg
          cases hg
          obtain ⟨v, hv, q1⟩ := P_get od q
          have e1 : i - (argsOf 0 rs).length = i - vs.length := by rw [args_len, P_len o]
          rw [List.getElem?_append_right (by rw [P_len o, ← args_len (rs := rs) (b := 0)]; omega), ← e1, hv] at hs
          exact ⟨v, (Option.some.inj hs).symm, q1 _ F⟩
    | own p c =>
      obtain ⟨v, e0⟩ : ∃ v, s = some v := by
        rw [List.getElem?_map] at hs
        cases q : (vs ++ dvs)[i]? with
        | none => rw [q] at hs; cases hs
        | some v => rw [q] at hs; exact ⟨v, (Option.some.inj hs).symm⟩
      subst e0
      by_cases hi : i < (argsOf 0 rs).length
      · have hg' := hg
        rw [List.getElem?_append_left hi] at hg
        rcases args_get hg with ⟨d, _, z⟩ | ⟨j, c', e, z⟩ | z
        · cases z
        · injection z with z1 z2
          subst z2
          obtain ⟨v', hv, q1, q, q2⟩ := P_get o e
          obtain ⟨a, e5, f, ok⟩ := R.sl j _ _ q1 q2
          cases e5
          rw [List.getElem?_map, List.getElem?_append_left (List.getElem?_eq_some_iff.mp hv).1, hv] at hs
          have e6 : v = .ref a := by simpa using hs.symm
          subst e6
          refine ⟨a, rfl, f, ?_⟩
          cases c with
          | lst ds => exact ok
          | dct kd => exact ok
          | ins C fs =>
            obtain ⟨dx, fv, h1, h2, h3, h4, h5, h6⟩ := ok
            refine ⟨dx, fv, h1, h2, h3, fun z => ?_, .inl (mem_owns.mpr ⟨i, a, p, _, ?_, hg', .inr ⟨_, fv, h1⟩⟩), h6⟩
            · have z' : H a = none := z
              rw [h1] at z'; cases z'
            · rw [List.getElem?_map, List.getElem?_append_left (List.getElem?_eq_some_iff.mp hv).1, hv]; rfl
        · cases z
      · rw [List.getElem?_append_right (by omega), List.getElem?_map] at hg
        cases q : dds[i - (argsOf 0 rs).length]? with
        | none => rw [q] at hg; cases hg
        | some d => rw [q] at hg; cases hg
  · obtain ⟨j1, e1, _, e2, ⟨q1, e3⟩, _⟩ := own h1 h3
    obtain ⟨j2, e4, _, e5, ⟨q2, e6⟩, _⟩ := own h2 h4
    have ej := R.nd j1 j2 a q1 c q2 c' e3 e6 e2 e5
    subst ej
    -- one index of rs for each slot
    have go : ∀ (rs : List RS) (i j : Nat) c c', (ownIx rs).Nodup → rs[i]? = some (.own j1 c) → rs[j]? = some (.own j1 c') → i = j := fun rs => by
      induction rs with
      | nil => intro i j c c' _ h; simp at h
      | cons r rs ih =>
        intro i j c c' hn h1 h2
        cases i with
        | zero =>
          cases j with
          | zero => rfl
          | succ j =>
            have e : r = .own j1 c := by simpa using h1
            subst e
            exact absurd (mem_ownIx (rs := rs) (k := j) (by simpa using h2)) (List.nodup_cons.mp hn).1
        | succ i =>
          cases j with
          | zero =>
            have e : r = .own j1 c' := by simpa using h2
            subst e
            exact absurd (mem_ownIx (rs := rs) (k := i) (by simpa using h1)) (List.nodup_cons.mp hn).1
          | succ j =>
            have hn' : (ownIx rs).Nodup := by
              cases r with
              | own j c => exact (List.nodup_cons.mp hn).2
              | val d => exact hn
              | new d => exact hn
            rw [ih i j c c' hn' (by simpa using h1) (by simpa using h2)]
    exact go rs i j c c' nd e1 e4
  · obtain ⟨j1, e1, e0, e2, _, e3⟩ := own h1 h2
    refine ⟨fun k z => ?_, fun z => ?_⟩
    · rw [e0] at z
      cases z
      show (match ((vs ++ dvs)[i]? : Option V) with | some (.ref a) => some a | _ => none) = some a
      rw [e3]
    · rw [e0] at z; cases z
  · exact .inl (mem_owns.mpr ⟨i, a, p, c, h2, h1, .inl rfl⟩)
/-- behind a call -/
theorem Rep.called (R : Rep K B F H σ γ) {vs : List V} {ws : List V} {rs : List RS} {as' : List Sx} {m : List Addr} (o : Paired (RsOk K B F H σ γ) vs rs) (nd : (ownIx rs).Nodup)
    (hw : ∀ (i : Nat) v, vs[i]? = some v → ws[i]? = some v)
    (hm : ∀ b, b ∈ m → ∃ (i : Nat) (j : Nat) (c : OC) (a : Addr), rs[i]? = some (.own j c) ∧ σ[j]? = some (some (.ref a)) ∧ (b = a ∨ ∃ C fs, H a = some (.ins C b fs))) (R' : Rep K (entry F H m R.zn ws) F' H' (ws.map some) as') :
    Rep K B F' H' σ (upds γ rs as') ∧ Ex F F' ∧ ∀ v r, r.kept → RsOk K (entry F H m R.zn ws) F' H' (ws.map some) as' v r → RsOk K B F' H' σ (upds γ rs as') v r := by
  have fF : Ex F F' := R'.b2
  -- what may have changed is owned here
  have mo : ∀ {b}, b ∈ m → b ∈ ownsOf σ γ H := fun {b} hb => by
    obtain ⟨i, j, c, a, h1, h2, h3⟩ := hm b hb
    obtain ⟨v, hv, q1, q, q2⟩ := P_get o h1
    exact mem_owns.mpr ⟨j, a, q, c, h2, q2, h3⟩
  have stay : ∀ {b o}, H b = some o → b ∉ m → H' b = some o ∧ F' b = F b := fun {b o} h n => ⟨(R'.b1 b o h).1 n, R'.b3 b o h n⟩
  -- an owned slot's address is in m only if it was handed over
  have apart : ∀ {i : Nat} {p : Option Nat} {c : OC} {a : Addr}, γ[i]? = some (.own p c) → σ[i]? = some (some (.ref a)) → i ∉ ownIx rs → a ∉ m ∧ ∀ dx, H dx = some (.own a) → dx ∉ m := fun {i p c a} hg hs hi => by
    obtain ⟨_, ok⟩ := R.ownObj hg hs
    obtain ⟨ob, hob, nob⟩ := ok.obj
    have h1 : a ∉ m := fun hb => by
      obtain ⟨k, j, c', a', e1, e2, e3⟩ := hm a hb
      obtain ⟨v, hv, q1, q, q2⟩ := P_get o e1
      rcases e3 with rfl | ⟨C, fs, e3⟩
      · exact hi (by rw [R.nd i j a p c q c' hg q2 hs e2]; exact mem_ownIx e1)
      · obtain ⟨_, ok'⟩ := R.ownObj q2 e2
        cases c' with
        | lst ds => obtain ⟨_, z, _⟩ := ok'; rw [e3] at z; cases z
        | dct ds => obtain ⟨_, z, _⟩ := ok'; rw [e3] at z; cases z
        | ins C' fs' =>
          obtain ⟨dx, fv, z1, z2, _⟩ := ok'
          rw [e3] at z1
          injection z1 with z1
          injection z1 with _ z1 _
          subst z1
          rw [hob] at z2
          exact nob a' (Option.some.inj z2)
    refine ⟨h1, fun dx hd hb => ?_⟩
    obtain ⟨k, j, c', a', e1, e2, e3⟩ := hm dx hb
    obtain ⟨v, hv, q1, q, q2⟩ := P_get o e1
    obtain ⟨_, ok'⟩ := R.ownObj q2 e2
    rcases e3 with rfl | ⟨C, fs, e3⟩
    · obtain ⟨o2, ho2, n2⟩ := ok'.obj
      rw [hd] at ho2
      exact n2 a (Option.some.inj ho2).symm
    · cases c' with
      | lst ds => obtain ⟨_, z, _⟩ := ok'; rw [e3] at z; cases z
      | dct ds => obtain ⟨_, z, _⟩ := ok'; rw [e3] at z; cases z
      | ins C' fs' =>
        obtain ⟨dx', fv, z1, z2, _⟩ := ok'
        rw [e3] at z1
        injection z1 with z1
        injection z1 with _ z1 _
        subst z1
        rw [hd] at z2
        injection z2 with z2
        injection z2 with z2
        subst z2
        exact hi (by rw [R.nd i j a p c q _ hg q2 hs e2]; exact mem_ownIx e1)
  -- an owned slot behind the call
  have slot : ∀ {i : Nat} {p : Option Nat} {c : OC}, (upds γ rs as')[i]? = some (.own p c) → (i ∉ ownIx rs ∧ γ[i]? = some (.own p c)) ∨ ∃ (k : Nat) (c0 c1 : OC) (p' : Option Nat), rs[k]? = some (.own i c0) ∧ γ[i]? = some (.own p c1) ∧ as'[k]? = some (.own p' c) := fun {i p c} h => by
    by_cases hi : i ∈ ownIx rs
    · obtain ⟨k, c0, e1⟩ := ownIx_mem hi
      obtain ⟨v, hv, q1, q, q2⟩ := P_get o e1
      rcases upds_at (as := as') nd e1 q2 with z | ⟨p', c2, z1, z2⟩
      · rw [z] at h; cases h
      · rw [z2] at h
        cases h
        exact .inr ⟨k, c0, c0, p', e1, q2, z1⟩
    · exact .inl ⟨hi, by rw [← upds_off (as := as') hi]; exact h⟩
  have was : ∀ {i : Nat} {p : Option Nat} {c : OC}, (upds γ rs as')[i]? = some (.own p c) → ∃ c1, γ[i]? = some (.own p c1) := fun h => by
    rcases slot h with ⟨_, z⟩ | ⟨_, _, c1, _, _, z, _⟩
    · exact ⟨_, z⟩
    · exact ⟨c1, z⟩
  have R2 : Rep K B F' H' σ (upds γ rs as') := by
    refine ⟨R'.fh, by rw [upds_len]; exact R.len, fun i s t hs hg => ?_, fun i j a p c q c' h1 h2 h3 h4 => ?_, fun b ob e => ?_, R.b2.trans fF, fun b ob e n => ?_, fun i a p c h1 h2 => ?_, fun i a p c h1 h2 => ?_, fun b ob e => ?_, fun a ob e => ?_⟩
    · cases t with
      | no => trivial
      | val d =>
        have hi : i ∉ ownIx rs := fun hi => by
          obtain ⟨k, c0, e1⟩ := ownIx_mem hi
          obtain ⟨v, hv, q1, q, q2⟩ := P_get o e1
          rcases upds_at (as := as') nd e1 q2 with z | ⟨p', c2, z1, z2⟩
          · rw [z] at hg; cases hg
          · rw [z2] at hg; cases hg
        rw [upds_off hi] at hg
        obtain ⟨v, e, r⟩ := R.sl i s _ hs hg
        exact ⟨v, e, r.mono fF⟩
      | own p c =>
        rcases slot hg with ⟨hi, hg0⟩ | ⟨k, c0, c1, p', e1, e2, e3⟩
        · obtain ⟨a, e, f, ok⟩ := R.sl i s _ hs hg0
          subst e
          obtain ⟨n1, n2⟩ := apart hg0 hs hi
          obtain ⟨ob, hob, _⟩ := ok.obj
          obtain ⟨x1, x2⟩ := stay hob n1
          refine ⟨a, rfl, x2.trans f, (ok.mono fF fun dx hd fd => (stay hd (n2 dx hd)).2.trans fd).heap (x1.trans hob.symm) fun dx hd => ((stay hd (n2 dx hd)).1).trans hd.symm⟩
        · obtain ⟨v, hv, q1, q, q2⟩ := P_get o e1
          rw [hs] at q1
          have es : s = some v := Option.some.inj q1
          subst es
          obtain ⟨a, e4, f0, ok0⟩ := R.sl i _ _ hs e2
          cases e4
          have hk := hw k _ hv
          obtain ⟨a2, e5, f, ok⟩ := R'.sl k (some (.ref a)) _ (by rw [List.getElem?_map, hk]; rfl) e3
          cases e5
          refine ⟨a, rfl, f, ?_⟩
          cases c with
          | lst ds => exact ok
          | dct kd => exact ok
          | ins C fs =>
            obtain ⟨dx, fv, h1, h2, h3, h4, h5, h6⟩ := ok
            cases c1 with
            | lst ds =>
              obtain ⟨vs0, z1, _⟩ := ok0
              obtain ⟨o', hb, kn⟩ := R'.bd a _ z1
              obtain ⟨xs, rfl⟩ := kn
              rw [hb] at h1; cases h1
            | dct kd =>
              obtain ⟨vs0, z1, _⟩ := ok0
              obtain ⟨o', hb, kn⟩ := R'.bd a _ z1
              obtain ⟨xs, rfl⟩ := kn
              rw [hb] at h1; cases h1
            | ins C0 fs0 =>
              obtain ⟨dx0, fv0, z1, z2, z3, z4, z5, z6⟩ := ok0
              obtain ⟨o', hb, kn⟩ := R'.bd a _ z1
              obtain ⟨fs', rfl⟩ := kn
              rw [hb] at h1
              injection h1 with h1
              injection h1 with e6 e7 e8
              subst e7
              exact ⟨dx0, fv, by rw [hb, e6, e8], h2, h3, z4, z5, h6⟩
    · obtain ⟨_, y1⟩ := was h1
      obtain ⟨_, y2⟩ := was h2
      exact R.nd i j a p _ q _ y1 y2 h3 h4
    · obtain ⟨x1, o1, x2⟩ := R.b1 b ob e
      refine ⟨fun n => (stay (x1 n) fun hb => ?_).1, (R'.b1 b o1 x2).2⟩
      rcases R.owns (mo hb) with z | z
      · exact n z
      · rw [e] at z; cases z
    · have x1 := (R.b1 b ob e).1 n
      rw [(stay x1 fun hb => by
        rcases R.owns (mo hb) with z | z
        · exact n z
        · rw [e] at z; cases z).2]
      exact R.b3 b ob e n
    · obtain ⟨_, y1⟩ := was h1
      exact R.b4 i a p _ y1 h2
    · obtain ⟨_, y1⟩ := was h1
      exact R.b5 i a p _ y1 h2
    · obtain ⟨o1, x2⟩ := R.bN b ob e
      exact R'.bN b o1 x2
    · obtain ⟨o1, x2, k1⟩ := R.bd a ob e
      obtain ⟨o2, x3, k2⟩ := R'.bd a o1 x2
      exact ⟨o2, x3, k1.trans k2⟩
  refine ⟨R2, fF, fun v r hk ok => ?_⟩
  cases r with
  | val d => exact ok
  | own j c => exact hk.elim
  | new c =>
    obtain ⟨a, rfl, N⟩ := ok
    have e1 : H a = none := N.bn
    obtain ⟨_, f2, f3, f4⟩ := R.fresh e1
    refine ⟨a, rfl, N.fa, ?_, f3, .inr f2, fun i p c' h1 h2 => ?_⟩
    · have ok := N.ok
      cases c with
      | lst ds => exact ok
      | dct kd => exact ok
      | ins C fs =>
        obtain ⟨dx, fv, h1, h2, h3, h4, h5, h6⟩ := ok
        obtain ⟨_, g2, g3, _⟩ := R.fresh (h4 e1)
        exact ⟨dx, fv, h1, h2, h3, fun _ => g3, .inr g2, h6⟩
    · obtain ⟨_, y1⟩ := was h1
      exact f4 i p _ y1 h2
end
end DL

set_option Elab.async false
set_option linter.all false
set_option maxRecDepth 100000
set_option maxHeartbeats 2000000
namespace DL
open PySem PySem.Spec PyProof.Rows L2
open Evl (Ex ex_l ex_t)
/-- f(..): what is owned and handed over may change -/
def dCall (n : Nat) (fs : FS) (dds : List D) (da : DA) (γ : Env) (q : RS → Env → Prop) : Prop := da γ fun rs γ1 => (ownIx rs).Nodup ∧ rs.length + dds.length = n ∧ fs (argsOf 0 rs ++ dds.map Sx.val) fun r as' => q r (upds γ1 rs as')
/-- f(..): what is owned is lent; the answer is flat -/
def flatD : D → Prop
  | .int _ => True | .bl _ => True | .str _ => True | .non => True
  | _ => False
def flatR : RS → Prop
  | .val d => flatD d
  | _ => False
def dCallB (n : Nat) (fs : FS) (dds : List D) (da : DA) (γ : Env) (q : RS → Env → Prop) : Prop := da γ fun rs γ1 => noNew rs ∧ rs.length + dds.length = n ∧ fs (rs.map (fun r => Sx.val r.data) ++ dds.map Sx.val) fun r _ => flatR r ∧ q r γ1
section
variable {K : PySem.W.Frag} {B : Bs}
theorem se_call {n : Nat} {fs : FS} {dvs : List V} {dds : List D} {E : XK} {ta : TA} {da : DA} (h : SA K B ta da) (od : Paired (fun v d => ∀ z F, Rp ⟨K, z⟩ F v d) dvs dds) : SE K B (tCall (spOf K n fs) dvs E ta) (dCall n fs dds da) := fun F H σ γ Q q R hq k => by
  refine h F H σ γ _ _ R hq fun vs F1 H1 γ1 rs R1 e1 o1 ⟨h1, h2, h3⟩ => ?_
  obtain ⟨m, hm, RE⟩ := R1.args o1 od h1
  refine ⟨by rw [List.length_append, P_len o1, P_len od]; exact h2, F1, m, _, _, _, RE, h3, fun r as' v F2 H2 hp R2 ok hk => ?_⟩
  obtain ⟨R3, e3, ok3⟩ := R1.called o1 h1 (fun i v hv => by rw [List.getElem?_append_left (List.getElem?_eq_some_iff.mp hv).1]; exact hv) hm R2
  exact k v F2 H2 _ r R3 (e1.trans e3) (ok3 v r hk ok) hp
/-- the heap grows, nothing else -/
theorem Rep.grow {B : Bs} {F H H' : Hp} {σ : L2.St} {γ : Env} (R : Rep K B F H σ γ) (e : Ex H H') : Rep K B F H' σ γ := by
  refine ⟨R.fh.trans e, R.len, fun i s t hs hg => ?_, R.nd, fun b o h => ?_, R.b2, R.b3, R.b4, R.b5, fun b o h => ?_, fun a o h => ?_⟩
  · have q := R.sl i s t hs hg
    cases t with
    | no => trivial
    | val d => exact q
    | own p c =>
      obtain ⟨a, e', f, ok⟩ := q
      obtain ⟨o, ho, _⟩ := ok.obj
      exact ⟨a, e', f, ok.heap ((e _ _ ho).trans ho.symm) fun dx hd => (e _ _ hd).trans hd.symm⟩
  · obtain ⟨x1, o1, x2⟩ := R.b1 b o h
    exact ⟨fun n => e _ _ (x1 n), o1, e _ _ x2⟩
  · obtain ⟨o1, x2⟩ := R.bN b o h
    exact ⟨o1, e _ _ x2⟩
  · obtain ⟨o1, x2, x3⟩ := R.bd a o h
    exact ⟨o1, e _ _ x2, x3⟩
/-- for a while all that was handed over is frozen -/
theorem Rep.lend {B : Bs} {H : Hp} {σ : L2.St} : ∀ {vs : List V} {rs : List RS} {F : Hp} {γ : Env}, Rep K B F H σ γ → Paired (fun v r => (∃ d, r = .val d ∧ Rp (B.kz K) F v d) ∨ ∃ j c, r = .own j c ∧ σ[j]? = some (some v) ∧ (∃ p, look γ j = .own p c) ∨ r = .own j c ∧ Rp (B.kz K) F v c.data) vs rs →
    ∃ F', Ex F F' ∧ Ex F' H ∧ RpAll (B.kz K) F' vs (rs.map RS.data)
  | _, _, F, γ, R, .nil => ⟨F, Evl.Ex.refl F, R.fh, .nil⟩
  | _, _, F, γ, R, @Paired.cons _ _ _ v r vs rs h t => by
    have step : ∃ F1 γ1, Rep K B F1 H σ γ1 ∧ Ex F F1 ∧ Rp (B.kz K) F1 v r.data ∧ ∀ j p c, look γ j = .own p c → look γ1 j = .own p c ∨ ∃ a, σ[j]? = some (some (.ref a)) ∧ Rp (B.kz K) F1 (.ref a) c.data := by
      rcases h with ⟨d, rfl, h⟩ | ⟨j, c, ⟨rfl, hs, p, hp⟩ | ⟨rfl, h⟩⟩
      · exact ⟨F, γ, R, Evl.Ex.refl F, h, fun j p c h => .inl h⟩
      · obtain ⟨a, F1, hs', R1, e1, r1⟩ := R.freezeVar hp
        rw [hs] at hs'
        cases hs'
        refine ⟨F1, _, R1, e1, r1, fun i p' c' hl => ?_⟩
        by_cases e : i = j
        · subst e
          rw [hp] at hl
          cases hl
          exact .inr ⟨a, hs, r1⟩
        · refine .inl (look_of ?_)
          have := of_look hl (by intro z; cases z)
          rw [put_set, List.getElem?_set_ne (Ne.symm e)]
          exact this
      · exact ⟨F, γ, R, Evl.Ex.refl F, h, fun j p c h => .inl h⟩
    obtain ⟨F1, γ1, R1, e1, r1, hk⟩ := step
    obtain ⟨F2, e2, e3, r2⟩ := Rep.lend (vs := vs) (rs := rs) R1 (P_mono (fun v r h => by
      rcases h with ⟨d, rfl, h⟩ | ⟨j, c, ⟨rfl, hs, p, hp⟩ | ⟨rfl, h⟩⟩
      · exact .inl ⟨d, rfl, h.mono e1⟩
      · rcases hk j p c hp with z | ⟨a, z1, z2⟩
        · exact .inr ⟨j, c, .inl ⟨rfl, hs, p, z⟩⟩
        · rw [hs] at z1
          cases z1
          exact .inr ⟨j, c, .inr ⟨rfl, z2⟩⟩
      · exact .inr ⟨j, c, .inr ⟨rfl, h.mono e1⟩⟩) t)
    exact ⟨F2, e1.trans e2, e3, .cons (r1.mono e2) r2⟩
theorem lent {B : Bs} {F H : Hp} {σ : L2.St} {γ : Env} : ∀ {vs : List V} {rs : List RS}, Paired (RsOk K B F H σ γ) vs rs → noNew rs → Paired (fun v r => (∃ d, r = .val d ∧ Rp (B.kz K) F v d) ∨ ∃ j c, r = .own j c ∧ σ[j]? = some (some v) ∧ (∃ p, look γ j = .own p c) ∨ r = .own j c ∧ Rp (B.kz K) F v c.data) vs rs
  | _, _, .nil, _ => .nil
  | _, .val d :: _, .cons h t, n => .cons (.inl ⟨d, rfl, h⟩) (lent t n)
  | _, .own j c :: _, .cons ⟨hs, p, hg⟩ t, n => .cons (.inr ⟨j, c, .inl ⟨rfl, hs, p, look_of hg⟩⟩) (lent t n)
theorem se_callB {n : Nat} {fs : FS} {dvs : List V} {dds : List D} {E : XK} {ta : TA} {da : DA} (h : SA K B ta da) (od : Paired (fun v d => ∀ z F, Rp ⟨K, z⟩ F v d) dvs dds) : SE K B (tCall (spOf K n fs) dvs E ta) (dCallB n fs dds da) := fun F H σ γ Q q R hq k => by
  refine h F H σ γ _ _ R hq fun vs F1 H1 γ1 rs R1 e1 o1 ⟨h0, h2, h3⟩ => ?_
  have pr := lent o1 h0
  obtain ⟨F2, e2, e3, ra⟩ := R1.lend pr
  have rd : RpAll (B.kz K) F2 dvs dds := RpAll.of (P_mono (fun _ _ h => h B.z F2) od)
  have RE : Rep K (entry F2 H1 [] R1.zn (vs ++ dvs)) F2 H1 ((vs ++ dvs).map some) (rs.map (fun r => Sx.val r.data) ++ dds.map Sx.val) := by
    have all : Paired (Rp (B.kz K) F2) (vs ++ dvs) (rs.map RS.data ++ dds) := P_app ra.p rd.p
    have e0 : rs.map (fun r => Sx.val r.data) ++ dds.map Sx.val = (rs.map RS.data ++ dds).map Sx.val := by rw [List.map_append, List.map_map]; rfl
    rw [e0]
    have none : ∀ {i : Nat} {p : Option Nat} {c : OC}, ((rs.map RS.data ++ dds).map Sx.val)[i]? ≠ some (.own p c) := fun {i p c} h => by
      rw [List.getElem?_map] at h
      cases q : (rs.map RS.data ++ dds)[i]? with
      | none => rw [q] at h; cases h
      | some d => rw [q] at h; cases h
    refine ⟨e3, by rw [List.length_map, List.length_map, P_len all], fun i s t hs hg => ?_, fun i j a p c q c' h1 => absurd h1 none, fun b o e => ⟨fun _ => e, o, e⟩, Evl.Ex.refl F2, fun b o _ _ => rfl, fun i a p c h1 => absurd h1 none, fun i a p c h1 => absurd h1 none, fun b o e => ⟨o, e⟩, fun a o e => ⟨o, e, .refl o⟩⟩
    rw [List.getElem?_map] at hs hg
    cases q : (rs.map RS.data ++ dds)[i]? with
    | none => rw [q] at hg; cases hg
    | some d =>
      rw [q] at hg
      cases hg
      obtain ⟨v, hv, r⟩ := P_get all q
      rw [hv] at hs
      exact ⟨v, (Option.some.inj hs).symm, r⟩
  refine ⟨by rw [List.length_append, P_len o1, P_len od]; exact h2, F2, [], _, _, _, RE, h3, fun r as' v F3 H3 ⟨hf, hp⟩ R3 ok hk => ?_⟩
  have eH : Ex H1 H3 := fun b o e => (R3.b1 b o e).1 (by simp [entry])
  refine k v F1 H3 γ1 r (R1.grow eH) e1 ?_ hp
  cases r with
  | val d =>
    have ok' : Rp (B.kz K) F3 v d := ok
    show Rp (B.kz K) F1 v d
    cases ok' with
    | non => exact .non
    | bl b => exact .bl b
    | int i => exact .int i
    | str x => exact .str x
    | _ => exact hf.elim
  | own j c => exact hf.elim
  | new c => exact hf.elim
end
section
variable {X : Cx} {B : Bs} {a : Expr} {es : List Expr} {ta : TA} {da : DA} {CX : CXT} {k n : Nat} {f : Addr} {fd : FuncData} {ps : List Str} {fs : FS} {dvs : List V} {ds : List Value} {dds : List D} {E : XK} {x : Str} {p pos : Pos}
theorem x_callD (G : FnOk X.prog X.w X.K X.mg X.base CX k f fd ps (spOf X.K n fs)) (hr : Room k X.A) (hm : X.mg x = some (.ref f)) (hk : PySem.W.keepIn X.K (.ref f) = true) (hb : Binds X.K fd ps ds) (hd : Vals dvs ds) (od : Paired (fun v d => ∀ z F, Rp ⟨X.K, z⟩ F v d) dvs dds) (hx : Passes CX X E) (h : XA X B (a :: es) ta da)
    (hg : Gl X x := by rfl) (hdb : (x == ("__debug__" : Str)) = false := by decide) (he : starEach (a :: es) X.env = (false, eval a X.env) :: starEach es X.env := by rfl) (hpl : (backTo pos (starEach es X.env)).any (·.1) = false := by rfl) :
    XE X B (.Call (.Name x p) (a :: es) [] pos) (tCall (spOf X.K n fs) dvs E ta) (dCall n fs dds da) := ⟨pe_call G hr hg hm hk hb hd hx h.pa hdb he hpl, se_call h.sa od⟩
theorem x_call (G : FnOk X.prog X.w X.K X.mg X.base CX0 k f fd ps (spOf X.K n fs)) (hr : Room k X.A) (hm : X.mg x = some (.ref f)) (hk : PySem.W.keepIn X.K (.ref f) = true) (hb : Binds X.K fd ps []) (h : XA X B (a :: es) ta da)
    (hg : Gl X x := by rfl) (hdb : (x == ("__debug__" : Str)) = false := by decide) (he : starEach (a :: es) X.env = (false, eval a X.env) :: starEach es X.env := by rfl) (hpl : (backTo pos (starEach es X.env)).any (·.1) = false := by rfl) :
    XE X B (.Call (.Name x p) (a :: es) [] pos) (tCall (spOf X.K n fs) [] E0 ta) (dCall n fs [] da) := x_callD G hr hm hk hb .nil .nil pass0 h hg hdb he hpl
theorem x_call0 (G : FnOk X.prog X.w X.K X.mg X.base CX0 k f fd ps (spOf X.K n fs)) (hr : Room k X.A) (hm : X.mg x = some (.ref f)) (hk : PySem.W.keepIn X.K (.ref f) = true) (hb : Binds X.K fd ps []) (hg : Gl X x := by rfl) (hdb : (x == ("__debug__" : Str)) = false := by decide) :
    XE X B (.Call (.Name x p) [] [] pos) (tCall (spOf X.K n fs) [] E0 tNil) (dCall n fs [] dNil) := ⟨pe_call0 G hr hg hm hk hb .nil pass0 hdb, se_call sa_nil .nil⟩
/-- arguments lent -/
theorem x_callB (G : FnOk X.prog X.w X.K X.mg X.base CX0 k f fd ps (spOf X.K n fs)) (hr : Room k X.A) (hm : X.mg x = some (.ref f)) (hk : PySem.W.keepIn X.K (.ref f) = true) (hb : Binds X.K fd ps []) (h : XA X B (a :: es) ta da)
    (hg : Gl X x := by rfl) (hdb : (x == ("__debug__" : Str)) = false := by decide) (he : starEach (a :: es) X.env = (false, eval a X.env) :: starEach es X.env := by rfl) (hpl : (backTo pos (starEach es X.env)).any (·.1) = false := by rfl) :
    XE X B (.Call (.Name x p) (a :: es) [] pos) (tCall (spOf X.K n fs) [] E0 ta) (dCallB n fs [] da) := ⟨pe_call G hr hg hm hk hb .nil pass0 h.pa hdb he hpl, se_callB h.sa .nil⟩
end
/-! ### the law's own promise -/
def fsLaw : FS := fun as p => ∃ ns : List Int, as = [.val (.scr ns)] ∧ ns.length ≤ 63 ∧ ∀ as', p (.val (.bl true)) as'
theorem law_sp {K : PySem.W.Frag} {H : Hp} {a : Addr} {ns : List Int} (hl : ns.length ≤ 63) (hS : SqL K H a (ns.map V.int)) : spOf K 1 fsLaw [.ref a] H (fun v _ => v = .bl true) fun _ _ _ => False := by
  have one : ∀ {i : Nat} {p : Option Nat} {c : OC}, ([Sx.val (.scr ns)] : List Sx)[i]? ≠ some (.own p c) := fun {i p c} h => by
    cases i with
    | zero => simp at h
    | succ i => simp at h
  refine ⟨rfl, H, [], ⟨fun _ => False, fun _ h => h.elim⟩, [.val (.scr ns)], fun r _ => r = .val (.bl true), ?_, ⟨ns, rfl, hl, fun _ => rfl⟩, fun r as' v F' H' hp R ok _ => ?_⟩
  · refine ⟨Evl.Ex.refl H, rfl, fun i s t hs hg => ?_, fun i j a p c q c' h1 => absurd h1 one, fun b o e => ⟨fun _ => e, o, e⟩, Evl.Ex.refl H, fun b o _ _ => rfl, fun i a p c h1 => absurd h1 one, fun i a p c h1 => absurd h1 one, fun b o e => ⟨o, e⟩, fun a o e => ⟨o, e, .refl o⟩⟩
    cases i with
    | zero =>
      simp at hs hg
      subst hg; subst hs
      exact ⟨_, rfl, .scr hS⟩
    | succ i => simp at hg
  · subst hp
    have ok' : Rp ⟨K, fun _ => False⟩ F' v (.bl true) := ok
    cases ok' with
    | bl b => rfl
end DL

set_option Elab.async false
set_option linter.all false
set_option maxRecDepth 100000
set_option maxHeartbeats 2000000
namespace DL
open PySem PySem.Spec PyProof.Rows L2
open Evl (Ex ex_l ex_t)
section
variable {X : Cx} {B : Bs} {x : Str} {pos : Pos}
/-- a built-in class as a value -/
theorem x_bty {n : String} (hm : X.mg x = none) (hg : Gl X x := by rfl) (hv : bootBuiltins x = some (.type n) := by decide +kernel) (hn : x ≠ "__name__" := by decide) (hd : (x == ("__debug__" : Str)) = false := by decide) : XE X B (.Name x pos) (tC (.ty n)) (dC (.ty n)) :=
  ⟨pe_bltn hg hm hv rfl hn hd, se_c fun _ _ => .ty n⟩
/-! list(range(..)) -/
def rgD (a b : Int) : List D := (List.range (b - a).toNat).map fun i => D.int (a + (i : Nat))
theorem rg_rp {K : KZ} {F : Hp} (a b : Int) : RpAll K F (rgV a b) (rgD a b) := by
  unfold rgV rgD
  generalize List.range (b - a).toNat = l
  induction l with
  | nil => exact .nil
  | cons i l ih => exact .cons (.int _) ih
def dLRg1 (da : DE) (γ : Env) (q : RS → Env → Prop) : Prop := da γ fun s γ1 => match s.data with
  | .int n => -1000000 ≤ n ∧ n ≤ 1000000 ∧ q (.new (.lst (rgD 0 n))) γ1
  | _ => False
def dLRg2 (da db : DE) (γ : Env) (q : RS → Env → Prop) : Prop := da γ fun s γ1 => db γ1 fun t γ2 => s.ok γ2 ∧ match s.data, t.data with
  | .int m, .int n => -1000000 ≤ m ∧ m ≤ 1000000 ∧ -1000000 ≤ n ∧ n ≤ 1000000 ∧ q (.new (.lst (rgD m n))) γ2
  | _, _ => False
theorem x_listRg1 {a : Expr} {ta : TE} {da : DE} {p p2 pos2 : Pos} (hc : X.calm = true) (hm : X.mg "list" = none) (hm2 : X.mg "range" = none) (h : XE X B a ta da) (hg : Gl X "list" := by rfl) (hg2 : Gl X "range" := by rfl) (na : starEach [a] X.env = (false, eval a X.env) :: starEach [] X.env := by rfl)
    (nb : starEach [.Call (.Name "range" p2) [a] [] pos2] X.env = (false, eval (.Call (.Name "range" p2) [a] [] pos2) X.env) :: starEach [] X.env := by rfl) : XE X B (.Call (.Name "list" p) [.Call (.Name "range" p2) [a] [] pos2] [] pos) (tLstRg (tRg1 ta)) (dLRg1 da) := ⟨pe_listRg hc hg hm (prg_1 hg2 hm2 h.pe na) nb, fun F H σ γ Q q R hq k => by
  refine h.se F H σ γ _ _ R hq fun v F1 H1 γ1 s R1 e1 o1 h1 => ?_
  split at h1
  · rename_i n es
    have r := o1.rs R1
    rw [es] at r
    obtain ⟨h2, h3, h4⟩ := h1
    refine ⟨n, r.int, ⟨by omega, by omega, by omega, by omega, by omega⟩, fun p hp => ?_⟩
    obtain ⟨R', ok⟩ := R1.newL hp (rg_rp 0 n)
    exact k _ F1 _ γ1 _ R' e1 ok h4
  · exact h1.elim⟩
theorem x_listRg2 {a b : Expr} {ta tb : TE} {da db : DE} {p p2 pos2 : Pos} (hc : X.calm = true) (hm : X.mg "list" = none) (hm2 : X.mg "range" = none) (h : XE X B a ta da) (h' : XE X B b tb db) (hg : Gl X "list" := by rfl) (hg2 : Gl X "range" := by rfl) (na : starEach [a, b] X.env = (false, eval a X.env) :: starEach [b] X.env := by rfl)
    (na2 : starEach [b] X.env = (false, eval b X.env) :: starEach [] X.env := by rfl) (hp : (backTo pos2 (starEach [b] X.env)).any (·.1) = false := by rfl)
    (nb : starEach [.Call (.Name "range" p2) [a, b] [] pos2] X.env = (false, eval (.Call (.Name "range" p2) [a, b] [] pos2) X.env) :: starEach [] X.env := by rfl) : XE X B (.Call (.Name "list" p) [.Call (.Name "range" p2) [a, b] [] pos2] [] pos) (tLstRg (tRg2 ta tb)) (dLRg2 da db) := ⟨pe_listRg hc hg hm (prg_2 hg2 hm2 h.pe h'.pe na na2 hp) nb, fun F H σ γ Q q R hq k => by
  refine h.se F H σ γ _ _ R hq fun v F1 H1 γ1 s R1 e1 o1 h1 => ?_
  obtain ⟨F2, R2, e2, o2⟩ := o1.fz R1
  refine h'.se F2 H1 σ γ1 _ _ R2 h1 fun w F3 H3 γ3 t R3 e3 o3 ⟨h3, h4⟩ => ?_
  split at h4
  · rename_i m n es et
    have rv := (o2.later e3 R3 (fz_ok s γ3 h3) (fz_idem s)).rs R3
    have rw' := o3.rs R3
    rw [RS.fz_data, es] at rv
    rw [et] at rw'
    obtain ⟨h5, h6, h7, h8, h9⟩ := h4
    refine ⟨m, n, rv.int, rw'.int, ⟨by omega, by omega, by omega, by omega, by omega⟩, fun p hp => ?_⟩
    obtain ⟨R', ok⟩ := R3.newL hp (rg_rp m n)
    exact k _ F3 _ γ3 _ R' ((e1.trans e2).trans e3) ok h9
  · exact h4.elim⟩
end

/-! ### the order of keys: numbers, texts, pairs of these -/
def ltV : V → V → Bool
  | .int i, .int j => decide (i < j)
  | .str i, .str j => decide (i.cps.toList < j.cps.toList)
  | _, _ => false
def likeV : V → V → Bool
  | .int _, .int _ => true
  | .str _, .str _ => true
  | _, _ => false
def eqW : V → V → Bool
  | .int i, .int j => decide (i = j)
  | .str i, .str j => decide (i = j)
  | _, _ => false
inductive LtV (K : PySem.W.Frag) (H : Hp) : V → V → Bool → Prop
  | flat {x y : V} : likeV x y = true → LtV K H x y (ltV x y)
  | pair {a b : Addr} {x1 x2 y1 y2 : V} : SqT K H a [x1, x2] → SqT K H b [y1, y2] → likeV x1 y1 = true → likeV x2 y2 = true → LtV K H (.ref a) (.ref b) (if eqW x1 y1 = true then ltV x2 y2 else ltV x1 y1)
def rLtK (K : PySem.W.Frag) : R2 := fun x y H Q => ∃ b, LtV K H x y b ∧ Q (.bl b) H
theorem rc_flat {A : Around} {s : Shared} {x y : V} {u v : Value} (rx : RelV x u) (ry : RelV y v) (h : likeV x y = true) : Ob.RcOp .Lt A s u v (ltV x y) := fun prog w E Q hq => by
  cases x with
  | int i =>
    cases y with
    | int j =>
      obtain ⟨t, rfl⟩ := rx
      obtain ⟨t', rfl⟩ := ry
      exact PyProof.Rows.lt_int hq
    | _ => cases h
  | str i =>
    cases y with
    | str j =>
      obtain ⟨t, rfl⟩ := rx
      obtain ⟨t', rfl⟩ := ry
      exact PyProof.Rows.lt_str (by
        have e : ltV (.str i) (.str j) = decide (i.cps.toList < j.cps.toList) := rfl
        rw [e] at hq
        exact hq)
    | _ => cases h
  | _ => cases h
theorem eq_flat {A : Around} {s : Shared} {x y : V} {u v : Value} (rx : RelV x u) (ry : RelV y v) (h : likeV x y = true) : SeqAt.EqAt A s u v (eqW x y) := by
  cases x with
  | int i =>
    cases y with
    | int j =>
      have q := eqAt_V (A := A) (s := s) rx ry rfl rfl
      have e : eqV (.int i) (.int j) = eqW (.int i) (.int j) := Bool.beq_eq_decide_eq i j
      rw [e] at q
      exact q
    | _ => cases h
  | str i =>
    cases y with
    | str j =>
      have q := eqAt_V (A := A) (s := s) rx ry rfl rfl
      have e : eqV (.str i) (.str j) = eqW (.str i) (.str j) := by
        show (i == j) = decide (i = j)
        by_cases z : i = j
        · subst z; simp
        · rw [decide_eq_false z]; exact beq_eq_false_iff_ne.mpr z
      rw [e] at q
      exact q
    | _ => cases h
  | _ => cases h
theorem op_ltK {X : Cx} (hu : X.A.units < cLine) : OpR X (compareOp .Lt) (rLtK X.K) := by
  intro pins s σ H x y v u Q I rx ry h
  obtain ⟨b, hb, q⟩ := h
  cases hb with
  | flat hl => exact rc_flat rx ry hl X.prog X.w X.xe (EP X pins σ Q) ⟨.bl _, H, I, rfl, q⟩
  | @pair a b x1 x2 y1 y2 ha hb h1 h2 =>
    cases rx
    cases ry
    obtain ⟨its, r1, p1, _⟩ := I.tuple ha
    obtain ⟨its2, r2, p2, _⟩ := I.tuple hb
    cases r1 with
    | cons ra1 ra => cases ra with
      | cons ra2 ra => cases ra with
        | nil => cases r2 with
          | cons rb1 rb => cases rb with
            | cons rb2 rb => cases rb with
              | nil =>
                have R := Ob.RcOp.tuples_lt (A := X.A) (s := s) (e := fun j => if j = 0 then eqW x1 y1 else eqW x2 y2) (r := fun j => if j = 0 then ltV x1 y1 else ltV x2 y2) p1 p2 hu (fun j l1 l2 => by
                  match j, l1, l2 with
                  | 0, _, _ => exact eq_flat ra1 rb1 h1
                  | 1, _, _ => exact eq_flat ra2 rb2 h2
                  | j + 2, l1, _ => exact absurd l1 (by simp)) (fun j l1 l2 _ => by
                  match j, l1, l2 with
                  | 0, _, _ => exact rc_flat ra1 rb1 h1
                  | 1, _, _ => exact rc_flat ra2 rb2 h2
                  | j + 2, l1, _ => exact absurd l1 (by simp))
                refine R X.prog X.w X.xe (EP X pins σ Q) ⟨.bl _, H, I, ?_, q⟩
                have irr : ∀ {x y : V}, eqW x y = true → ltV x y = false := fun {x y} h => by
                  cases x with
                  | int i => cases y with
                    | int j =>
                      have e : i = j := of_decide_eq_true h
                      subst e
                      exact decide_eq_false (Int.lt_irrefl i)
                    | _ => cases h
                  | str i => cases y with
                    | str j =>
                      have e : i = j := of_decide_eq_true h
                      subst e
                      exact decide_eq_false (List.lt_irrefl _)
                    | _ => cases h
                  | _ => cases h
                show Value.bool _ = Value.bool _
                congr 1
                show Ob.lexAt (fun j => if j = 0 then eqW x1 y1 else eqW x2 y2) (fun j => if j = 0 then ltV x1 y1 else ltV x2 y2) (decide (2 < 2)) 0 2 = _
                unfold Ob.lexAt
                by_cases c : eqW x1 y1 = true
                · rw [if_pos (by simpa using c), if_pos c]
                  unfold Ob.lexAt
                  by_cases c2 : eqW x2 y2 = true
                  · rw [if_pos (by simpa using c2), irr c2]
                    rfl
                  · rw [if_neg (by simpa using c2)]
                    rfl
                · rw [if_neg (by simpa using c), if_neg c]
                  rfl
def ltD : D → D → Bool
  | .int i, .int j => decide (i < j)
  | .str i, .str j => decide (i.cps.toList < j.cps.toList)
  | _, _ => false
def likeD : D → D → Bool
  | .int _, .int _ => true
  | .str _, .str _ => true
  | _, _ => false
def eqW' : D → D → Bool
  | .int i, .int j => decide (i = j)
  | .str i, .str j => decide (i = j)
  | _, _ => false
def fLtK : D → D → (RS → Prop) → Prop
  | .int i, .int j, q => q (.val (.bl (decide (i < j))))
  | .str i, .str j, q => q (.val (.bl (decide (i.cps.toList < j.cps.toList))))
  | .tup [a1, a2], .tup [b1, b2], q => likeD a1 b1 = true ∧ likeD a2 b2 = true ∧ q (.val (.bl (if eqW' a1 b1 = true then ltD a2 b2 else ltD a1 b1)))
  | _, _, _ => False
theorem like_rp {K : KZ} {F : Hp} {x y : V} {a b : D} (rx : Rp K F x a) (ry : Rp K F y b) (h : likeD a b = true) : likeV x y = true ∧ ltV x y = ltD a b ∧ eqW x y = eqW' a b := by
  cases rx <;> first | (cases ry <;> first | exact ⟨rfl, rfl, rfl⟩ | cases h) | cases h
theorem od_ltK {K : PySem.W.Frag} : OpD K (rLtK K) fLtK := fun B F H σ γ x y d e Q q R rx ry hf k => by
  unfold fLtK at hf
  split at hf
  · rw [rx.int, ry.int]
    exact ⟨_, .flat rfl, vk R k (.bl _) hf⟩
  · rw [rx.str, ry.str]
    exact ⟨_, .flat rfl, vk R k (.bl _) hf⟩
  · obtain ⟨a, vs, rfl, h1, r1⟩ := rx.tup R.fh
    obtain ⟨b, ws, rfl, h2, r2⟩ := ry.tup R.fh
    cases r1 with
    | cons ra1 r1 => cases r1 with
      | cons ra2 r1 => cases r1 with
        | nil => cases r2 with
          | cons rb1 r2 => cases r2 with
            | cons rb2 r2 => cases r2 with
              | nil =>
                obtain ⟨l1, l2, hq⟩ := hf
                obtain ⟨c1, c2, c3⟩ := like_rp ra1 rb1 l1
                obtain ⟨d1, d2, d3⟩ := like_rp ra2 rb2 l2
                refine ⟨_, .pair h1 h2 c1 d1, ?_⟩
                rw [c3, d2, c2]
                exact vk R k (.bl _) hq
  · exact hf.elim

/-! ### steps -/
/-- what comes later is not looked into -/
def Later (t : DS) (d : DEnds) (γ : Env) : Prop := t d γ
theorem q_seq {s t : DS} {d : DEnds} {γ : Env} (h : s { nx := fun γ1 => Later t d γ1, rt := d.rt, bk := d.bk, ct := d.ct } γ) : dSeq s t d γ := h
theorem q_later {t : DS} {d : DEnds} {γ : Env} (h : t d γ) : Later t d γ := h
abbrev fAdd : D → D → (RS → Prop) → Prop := fI0 fun i j => .int (i + j)
abbrev fSub : D → D → (RS → Prop) → Prop := fI0 fun i j => .int (i - j)
abbrev fMul : D → D → (RS → Prop) → Prop := fI CMul fun i j => .int (i * j)
abbrev fDiv : D → D → (RS → Prop) → Prop := fI CDiv fun i j => .int (i / j)
abbrev fMod : D → D → (RS → Prop) → Prop := fI (fun _ j => 0 < j) fun i j => .int (i % j)
abbrev fMulW : D → D → (RS → Prop) → Prop := fI CMulW fun i j => .int (i * j)
abbrev fDivW : D → D → (RS → Prop) → Prop := fI CDivW fun i j => .int (i / j)
abbrev fPow : D → D → (RS → Prop) → Prop := fI CPow fun i j => .int (i ^ j.toNat)
abbrev fShl : D → D → (RS → Prop) → Prop := fI CPow fun i j => .int (i * 2 ^ j.toNat)
abbrev fShr : D → D → (RS → Prop) → Prop := fI (fun _ j => 0 ≤ j) fun i j => .int (i / 2 ^ j.toNat)
abbrev fLt : D → D → (RS → Prop) → Prop := fI0 fun i j => .bl (decide (i < j))
abbrev fLe : D → D → (RS → Prop) → Prop := fI0 fun i j => .bl (decide (i ≤ j))
abbrev fGt : D → D → (RS → Prop) → Prop := fI0 fun i j => .bl (decide (j < i))
abbrev fGe : D → D → (RS → Prop) → Prop := fI0 fun i j => .bl (decide (j ≤ i))
abbrev fAnd : D → D → (RS → Prop) → Prop := fI0 fun i j => .int (Builtin.bitAnd i j)
abbrev fOr : D → D → (RS → Prop) → Prop := fI0 fun i j => .int (Builtin.bitOr i j)
abbrev fXor : D → D → (RS → Prop) → Prop := fI0 fun i j => .int (Builtin.bitXor i j)
abbrev fNeg : D → (RS → Prop) → Prop := fU fun i => .int (-i)
abbrev fMax2 : List D → (RS → Prop) → Prop := fI2 fun i j => if j > i then j else i
abbrev fMin2 : List D → (RS → Prop) → Prop := fI2 fun i j => if j < i then j else i
end DL

set_option Elab.async false
set_option linter.all false
set_option maxRecDepth 100000
set_option maxHeartbeats 2000000
namespace DL
open PySem PySem.Spec PyProof.Rows L2
/-! ### == of the data that laws hold against one another -/
/-- data of depth n at most -/
def dOkN (n : Nat) (d : D) : Bool := d.pure && d.py.canLay0 && decide (d.py.depth ≤ n)
theorem dOk_of {n : Nat} {d : D} (h : dOkN n d = true) (hn : n ≤ 64) : dOk d = true := by
  unfold dOkN at h
  simp only [Bool.and_eq_true, decide_eq_true_eq] at h
  unfold dOk SeqAt.shaped
  simp only [Bool.and_eq_true, decide_eq_true_eq]
  exact ⟨h.1.1, h.1.2, Nat.le_trans h.2 hn⟩
theorem all_ok {α : Type} {f : α → D} {n : Nat} : ∀ {xs : List α}, (∀ x ∈ xs, dOkN n (f x) = true) → pureAll (xs.map f) = true ∧ PyData.canLayAll0 (pyAll (xs.map f)) = true ∧ PyData.depthAll (pyAll (xs.map f)) ≤ n
  | [], _ => ⟨rfl, rfl, Nat.zero_le _⟩
  | x :: xs, h => by
    have h1 := h x List.mem_cons_self
    obtain ⟨a, b, c⟩ := all_ok (xs := xs) fun y hy => h y (List.mem_cons_of_mem _ hy)
    unfold dOkN at h1
    simp only [Bool.and_eq_true, decide_eq_true_eq] at h1
    refine ⟨?_, ?_, ?_⟩
    · rw [List.map_cons, pureAll, h1.1.1, a]; rfl
    · rw [List.map_cons, pyAll, PyData.canLayAll0, h1.1.2, b]; rfl
    · rw [List.map_cons, pyAll, PyData.depthAll]
      exact Nat.max_le.mpr ⟨h1.2, c⟩
theorem ok_lst {α : Type} {f : α → D} {n : Nat} {xs : List α} (h : ∀ x ∈ xs, dOkN n (f x) = true) : dOkN (n + 1) (.lst (xs.map f)) = true := by
  obtain ⟨a, b, c⟩ := all_ok h
  unfold dOkN
  simp only [D.pure, D.py, PyData.canLay0, PyData.depth, a, b, Bool.true_and, decide_eq_true_eq]
  omega
theorem ok_tup {α : Type} {f : α → D} {n : Nat} {xs : List α} (h : ∀ x ∈ xs, dOkN n (f x) = true) : dOkN (n + 1) (.tup (xs.map f)) = true := by
  obtain ⟨a, b, c⟩ := all_ok h
  unfold dOkN
  simp only [D.pure, D.py, PyData.canLay0, PyData.depth, a, b, Bool.true_and, decide_eq_true_eq]
  omega
theorem ok_int (i : Int) : dOkN 0 (.int i) = true := by
  unfold dOkN
  simp only [D.pure, D.py, PyData.canLay0, PyData.depth, Bool.true_and, decide_eq_true_eq]
  omega
theorem ok_mono {n m : Nat} {d : D} (h : dOkN n d = true) (l : n ≤ m) : dOkN m d = true := by
  unfold dOkN at h ⊢
  simp only [Bool.and_eq_true, decide_eq_true_eq] at h ⊢
  exact ⟨h.1, Nat.le_trans h.2 l⟩
theorem dOk_ints (ns : List Int) : dOk (.lst (ns.map D.int)) = true := dOk_of (ok_lst fun x _ => ok_int x) (by decide)
theorem dOk_nil : dOk (.lst []) = true := dOk_ints []
theorem dOk_int (i : Int) : dOk (.int i) = true := dOk_of (ok_int i) (by decide)
/-- == decides what f tells apart -/
def EqF {α : Type} [DecidableEq α] (f : α → D) (S : α → Prop) : Prop := ∀ x y, S x → S y → deq (f x) (f y) = decide (x = y)
theorem eqv_all {α : Type} [DecidableEq α] {f : α → D} {S : α → Prop} (h : EqF f S) : ∀ {xs ys : List α}, (∀ x ∈ xs, S x) → (∀ y ∈ ys, S y) → PyData.eqvAll (pyAll (xs.map f)) (pyAll (ys.map f)) = decide (xs = ys)
  | [], [], _, _ => by simp [pyAll, PyData.eqvAll]
  | [], _ :: _, _, _ => by simp [pyAll, PyData.eqvAll]
  | _ :: _, [], _, _ => by simp [pyAll, PyData.eqvAll]
  | x :: xs, y :: ys, hx, hy => by
    have h1 : PyData.eqv (f x).py (f y).py = decide (x = y) := h x y (hx x List.mem_cons_self) (hy y List.mem_cons_self)
    have h2 := eqv_all h (xs := xs) (ys := ys) (fun z hz => hx z (List.mem_cons_of_mem _ hz)) fun z hz => hy z (List.mem_cons_of_mem _ hz)
    rw [List.map_cons, List.map_cons, pyAll, pyAll, PyData.eqvAll, h1, h2]
    by_cases c : x = y
    · by_cases c2 : xs = ys
      · simp [c, c2]
      · simp [c, c2]
    · simp [c]
theorem deq_lst {α : Type} [DecidableEq α] {f : α → D} {S : α → Prop} (h : EqF f S) {xs ys : List α} (hx : ∀ x ∈ xs, S x) (hy : ∀ y ∈ ys, S y) : deq (.lst (xs.map f)) (.lst (ys.map f)) = decide (xs = ys) := by
  unfold deq
  simp only [D.py, PyData.eqv]
  exact eqv_all h hx hy
theorem deq_tup {α : Type} [DecidableEq α] {f : α → D} {S : α → Prop} (h : EqF f S) {xs ys : List α} (hx : ∀ x ∈ xs, S x) (hy : ∀ y ∈ ys, S y) : deq (.tup (xs.map f)) (.tup (ys.map f)) = decide (xs = ys) := by
  unfold deq
  simp only [D.py, PyData.eqv]
  exact eqv_all h hx hy
theorem eqF_int : EqF D.int (fun _ => True) := fun x y _ _ => by
  unfold deq
  simp only [D.py, PyData.eqv]
  exact Bool.beq_eq_decide_eq x y
theorem deq_ints (ns ms : List Int) : deq (.lst (ns.map D.int)) (.lst (ms.map D.int)) = decide (ns = ms) := deq_lst eqF_int (fun _ _ => trivial) fun _ _ => trivial
theorem deq_ints_nil (ns : List Int) : deq (.lst (ns.map D.int)) (.lst []) = decide (ns = []) := deq_ints ns []
theorem deq_refl_of {α : Type} [DecidableEq α] {f : α → D} {S : α → Prop} (h : EqF f S) {x : α} (hx : S x) : deq (f x) (f x) = true := by rw [h x x hx hx]; simp
/-! ### small facts -/
theorem atI_nil {α : Type} {i : Int} : atI ([] : List α) i = none := by
  unfold atI ixN
  simp
theorem atI_ofNat {α : Type} {xs : List α} {i : Nat} (h : i < xs.length) : atI xs (i : Int) = some xs[i] := atI_nat (List.getElem?_eq_getElem h)
theorem atI_zero {α : Type} {x : α} {xs : List α} : atI (x :: xs) 0 = some x := atI_nat (j := 0) rfl
theorem ixN_of {n j : Nat} (h : j < n) : ixN n (j : Int) = some j := by
  unfold ixN
  rw [if_pos (by omega), if_pos (by omega)]
  simp
theorem ixN_zero {n : Nat} (h : 0 < n) : ixN n 0 = some 0 := ixN_of h
theorem seqIx_zero {n : Nat} (h : 0 < n) : seqIndex? 0 n = some 0 := by
  unfold seqIndex?
  simp
  omega
theorem own_ex {p : Option Nat} {c : OC} : (∃ q, Sx.own p c = Sx.own q c) = True := eq_true ⟨p, rfl⟩
end DL

set_option Elab.async false
set_option linter.all false
set_option maxRecDepth 100000
set_option maxHeartbeats 2000000
namespace DL
open PySem PySem.Spec PyProof.Rows L2
open Evl (Ex ex_l ex_t)
/-! ### newer than a line -/
/-- a new thing is told to be new -/
def dFr (de : DE) (γ : Env) (q : RS → Env → Prop) : Prop := de γ fun s γ1 => match s with
  | .new c => q (.val (.fr c.data)) γ1
  | _ => False
/-- and that is forgotten -/
def dSt (de : DE) (γ : Env) (q : RS → Env → Prop) : Prop := de γ fun s γ1 => match s with
  | .val (.fr d) => q (.val d) γ1
  | .val d => q (.val d) γ1
  | .new c => q (.new c) γ1
  | .own _ _ => False
theorem se_fr {K : PySem.W.Frag} {B : Bs} {te : TE} {de : DE} (h : SE K B te de) : SE K B te (dFr de) := fun F H σ γ Q q R hq k => by
  refine h F H σ γ _ _ R hq fun v F1 H1 γ1 s R1 e1 o1 h1 => ?_
  cases s with
  | val d => exact h1.elim
  | own j c => exact h1.elim
  | new c =>
    obtain ⟨F2, R2, e2, o2⟩ := o1.fz R1
    obtain ⟨a, rfl, N⟩ := o1
    have nz : ¬ B.z a := fun z => by
      obtain ⟨o, e⟩ := B.zn a z
      rw [N.bn] at e
      cases e
    exact k _ F2 H1 γ1 (.val (.fr c.data)) R2 (e1.trans e2) (Rp.fr nz o2) h1
theorem se_st {K : PySem.W.Frag} {B : Bs} {te : TE} {de : DE} (h : SE K B te de) : SE K B te (dSt de) := fun F H σ γ Q q R hq k => by
  refine h F H σ γ _ _ R hq fun v F1 H1 γ1 s R1 e1 o1 h1 => ?_
  cases s with
  | val d =>
    cases d with
    | fr d =>
      have o1' : Rp (B.kz K) F1 v (.fr d) := o1
      cases o1' with
      | fr n r => exact k _ F1 H1 γ1 (.val d) R1 e1 r h1
    | _ => exact k _ F1 H1 γ1 _ R1 e1 o1 h1
  | own j c => exact h1.elim
  | new c => exact k _ F1 H1 γ1 _ R1 e1 o1 h1
theorem x_fr {X : Cx} {B : Bs} {e : Expr} {te : TE} {de : DE} (h : XE X B e te de) : XE X B e te (dFr de) := ⟨h.pe, se_fr h.se⟩
theorem x_st {X : Cx} {B : Bs} {e : Expr} {te : TE} {de : DE} (h : XE X B e te de) : XE X B e te (dSt de) := ⟨h.pe, se_st h.se⟩
/-- a tuple target in a comprehension -/
theorem g_tupC {X : Cx} {B : Bs} {es : List Expr} {k n : Nat} {pos : Pos} {gs : TGs} {dgs : DGs} {ix : List Nat} (K : PySem.W.Frag) (hK : X.K = K) (hc : X.calm = true) (h : XGs X B es gs dgs ix) (hn : (assignEach es X.env).length = n := by rfl) (hst : (assignEach es X.env).findIdx? (·.1) = none := by rfl) : XG X B (.Tuple es k pos) (gTup K n gs) (gT n dgs) ix := by
  have g := g_tup hc h hn hst (k := k) (pos := pos)
  rw [hK] at g
  exact g
/-- a call in a comprehension -/
theorem x_callC {X : Cx} {B : Bs} {a : Expr} {es : List Expr} {ta : TA} {da : DA} {k n : Nat} {f : Addr} {fd : FuncData} {ps : List Str} {fs : FS} {x : Str} {p pos : Pos} (K : PySem.W.Frag) (hK : X.K = K) (G : FnOk X.prog X.w X.K X.mg X.base CX0 k f fd ps (spOf X.K n fs)) (hr : Room k X.A) (hm : X.mg x = some (.ref f)) (hk : PySem.W.keepIn X.K (.ref f) = true) (hb : Binds X.K fd ps []) (h : XA X B (a :: es) ta da)
    (hg : Gl X x := by rfl) (hdb : (x == ("__debug__" : Str)) = false := by decide) (he : starEach (a :: es) X.env = (false, eval a X.env) :: starEach es X.env := by rfl) (hpl : (backTo pos (starEach es X.env)).any (·.1) = false := by rfl) :
    XE X B (.Call (.Name x p) (a :: es) [] pos) (tCall (spOf K n fs) [] E0 ta) (dCall n fs [] da) := by
  have g := x_call (p := p) (pos := pos) G hr hm hk hb h hg hdb he hpl
  rw [hK] at g
  exact g
mutual
/-- no mark of newness in it -/
def D.nofr : D → Bool
  | .fr _ => false
  | .lst xs => nofrAll xs | .tup xs => nofrAll xs | .obj _ fs => nofrF fs | .dct ks => nofrK ks
  | _ => true
def nofrAll : List D → Bool
  | [] => true
  | x :: xs => x.nofr && nofrAll xs
def nofrF : List (Str × D) → Bool
  | [] => true
  | (_, x) :: xs => x.nofr && nofrF xs
def nofrK : List (Key × D) → Bool
  | [] => true
  | (_, x) :: xs => x.nofr && nofrK xs
end
section
variable {K : PySem.W.Frag} {B : Bs} {z z' : Addr → Prop} {F : Hp}
mutual
theorem Rp.line : ∀ {v : V} {d : D}, Rp ⟨K, z⟩ F v d → d.nofr = true → Rp ⟨K, z'⟩ F v d
  | _, _, .non, _ => .non
  | _, _, .bl b, _ => .bl b
  | _, _, .int b, _ => .int b
  | _, _, .str b, _ => .str b
  | _, _, .ref b, _ => .ref b
  | _, _, .ty b, _ => .ty b
  | _, _, .kls b, _ => .kls b
  | _, _, .lst h a, n => .lst h (RpAll.line a n)
  | _, _, .scr h, _ => .scr h
  | _, _, .tup h a, n => .tup h (RpAll.line a n)
  | _, _, .obj h1 h2 a, n => .obj h1 h2 (RpFs.line a n)
  | _, _, .dct h1 a, n => .dct h1 (RpKs.line a n)
theorem RpAll.line : ∀ {v : List V} {d : List D}, RpAll ⟨K, z⟩ F v d → nofrAll d = true → RpAll ⟨K, z'⟩ F v d
  | _, _, .nil, _ => .nil
  | _, _, .cons h t, n => .cons (Rp.line h (Bool.and_eq_true_iff.mp n).1) (RpAll.line t (Bool.and_eq_true_iff.mp n).2)
theorem RpFs.line : ∀ {v : List (Str × V)} {d : List (Str × D)}, RpFs ⟨K, z⟩ F v d → nofrF d = true → RpFs ⟨K, z'⟩ F v d
  | _, _, .nil, _ => .nil
  | _, _, .cons h t, n => .cons (Rp.line h (Bool.and_eq_true_iff.mp n).1) (RpFs.line t (Bool.and_eq_true_iff.mp n).2)
theorem RpKs.line : ∀ {v : List (Key × V)} {d : List (Key × D)}, RpKs ⟨K, z⟩ F v d → nofrK d = true → RpKs ⟨K, z'⟩ F v d
  | _, _, .nil, _ => .nil
  | _, _, .cons h t, n => .cons (Rp.line h (Bool.and_eq_true_iff.mp n).1) (RpKs.line t (Bool.and_eq_true_iff.mp n).2)
end
end
def flatAll : List D → Prop
  | [] => True
  | x :: xs => flatD x ∧ flatAll xs
theorem flat_rp {K K' : KZ} {F F' : Hp} : ∀ {vs : List V} {ds : List D}, RpAll K F vs ds → flatAll ds → RpAll K' F' vs ds
  | _, _, .nil, _ => .nil
  | _, _, .cons h t, ⟨a, b⟩ => .cons (by
    cases h with
    | non => exact .non
    | bl b => exact .bl b
    | int i => exact .int i
    | str x => exact .str x
    | _ => exact a.elim) (flat_rp t b)
theorem flat_ints : ∀ ns : List Int, flatAll (ns.map D.int)
  | [] => trivial
  | _ :: ns => ⟨trivial, flat_ints ns⟩
/-- f(..) behind a line: a list of flat things that is newer is the caller's -/
def meltR : RS → (List D → Prop) → Prop
  | .val (.fr (.lst ds)), q => q ds
  | .new (.lst ds), q => q ds
  | _, _ => False
def dCallZ (n : Nat) (fs : FS) (da : DA) (γ : Env) (q : RS → Env → Prop) : Prop := da γ fun rs γ1 => allV rs ∧ rs.length = n ∧ nofrAll (rs.map RS.data) = true ∧ fs ((rs.map RS.data).map Sx.val) fun r _ => meltR r fun ds => flatAll ds ∧ q (.new (.lst ds)) γ1
theorem se_callZ {K : PySem.W.Frag} {B : Bs} {n : Nat} {fs : FS} {E : XK} {ta : TA} {da : DA} (h : SA K B ta da) : SE K B (tCall (spOf K n fs) [] E ta) (dCallZ n fs da) := fun F H σ γ Q q R hq k => by
  refine h F H σ γ _ _ R hq fun vs F1 H1 γ1 rs R1 e1 o1 ⟨h0, h2, hn, h3⟩ => ?_
  have ra := allV_rp o1 h0
  let Z : ZN H1 := ⟨fun a => ∃ o, H1 a = some o, fun _ h => h⟩
  have ra' : RpAll ⟨K, Z.1⟩ F1 vs (rs.map RS.data) := ra.line hn
  have RE : Rep K (entry F1 H1 [] Z (vs ++ [])) F1 H1 ((vs ++ []).map some) ((rs.map RS.data).map Sx.val) := by
    have none : ∀ {i : Nat} {p : Option Nat} {c : OC}, ((rs.map RS.data).map Sx.val)[i]? ≠ some (.own p c) := fun {i p c} h => by
      rw [List.getElem?_map] at h
      cases q : (rs.map RS.data)[i]? with
      | none => rw [q] at h; cases h
      | some d => rw [q] at h; cases h
    rw [List.append_nil]
    refine ⟨R1.fh, by rw [List.length_map, List.length_map, P_len ra'.p], fun i s t hs hg => ?_, fun i j a p c q c' h1 => absurd h1 none, fun b o e => ⟨fun _ => e, o, e⟩, Evl.Ex.refl F1, fun b o _ _ => rfl, fun i a p c h1 => absurd h1 none, fun i a p c h1 => absurd h1 none, fun b o e => ⟨o, e⟩, fun a o e => ⟨o, e, .refl o⟩⟩
    rw [List.getElem?_map] at hs hg
    cases q : (rs.map RS.data)[i]? with
    | none => rw [q] at hg; cases hg
    | some d =>
      rw [q] at hg
      cases hg
      obtain ⟨v, hv, r⟩ := P_get ra'.p q
      rw [hv] at hs
      exact ⟨v, (Option.some.inj hs).symm, r⟩
  refine ⟨by rw [List.append_nil, P_len o1]; exact h2, F1, [], Z, _, _, RE, h3, fun r as' v F3 H3 hp R3 ok hk => ?_⟩
  have eH : Ex H1 H3 := fun b o e => (R3.b1 b o e).1 (by simp [entry])
  have fin : ∀ {a : Addr} {ws : List V} {ds : List D} {K' : KZ} {F' : Hp}, H1 a = none → H3 a = some (.lst ws) → RpAll K' F' ws ds → flatAll ds → v = .ref a → q (.new (.lst ds)) γ1 → Q v H3 := fun {a ws ds K' F'} ha hl hr hf hv hq => by
    obtain ⟨f1, f2, f3, f4⟩ := R1.fresh ha
    exact k v F1 H3 γ1 (.new (.lst ds)) (R1.grow eH) e1 ⟨a, hv, f1, ⟨ws, hl, flat_rp hr hf⟩, f3, .inr f2, f4⟩ hq
  have nz : ∀ {a : Addr}, ¬ Z.1 a → H1 a = none := fun {a} h => by
    cases e : H1 a with
    | none => rfl
    | some o => exact absurd ⟨o, e⟩ h
  unfold meltR at hp
  split at hp
  · rename_i ds
    have ok' : Rp ⟨K, Z.1⟩ F3 v (.fr (.lst ds)) := ok
    cases ok' with
    | fr nzr r => cases r with
      | lst hl hr => exact fin (nz nzr) (R3.fh _ _ hl) hr hp.1 rfl hp.2
  · rename_i ds
    obtain ⟨a, ea, N⟩ := ok
    obtain ⟨ws, hl, hr⟩ := N.ok
    exact fin N.bn hl hr hp.1 ea hp.2
  · exact hp.elim
section
variable {X : Cx} {B : Bs} {a : Expr} {es : List Expr} {ta : TA} {da : DA} {k n : Nat} {f : Addr} {fd : FuncData} {ps : List Str} {fs : FS} {x : Str} {p pos : Pos}
theorem x_callZ (G : FnOk X.prog X.w X.K X.mg X.base CX0 k f fd ps (spOf X.K n fs)) (hr : Room k X.A) (hm : X.mg x = some (.ref f)) (hk : PySem.W.keepIn X.K (.ref f) = true) (hb : Binds X.K fd ps []) (h : XA X B (a :: es) ta da)
    (hg : Gl X x := by rfl) (hdb : (x == ("__debug__" : Str)) = false := by decide) (he : starEach (a :: es) X.env = (false, eval a X.env) :: starEach es X.env := by rfl) (hpl : (backTo pos (starEach es X.env)).any (·.1) = false := by rfl) :
    XE X B (.Call (.Name x p) (a :: es) [] pos) (tCall (spOf X.K n fs) [] E0 ta) (dCallZ n fs da) := ⟨pe_call G hr hg hm hk hb .nil pass0 h.pa hdb he hpl, se_callZ h.sa⟩
end
/-! ### small facts for simp -/
theorem ixN_s0 {n : Nat} : ixN (n + 1) 0 = some 0 := ixN_zero (Nat.succ_pos n)
theorem seqIx_s0 {n : Nat} : seqIndex? 0 (n + 1) = some 0 := seqIx_zero (Nat.succ_pos n)
theorem divW {i j : Int} (h : 0 < j) (h2 : j < 2 ^ 40) : CDivW i j := by
  refine ⟨h, Nat.lt_trans ((Nat.log2_lt (by omega)).mpr (show j.natAbs < 2 ^ 40 by omega)) (by decide)⟩
/-! ### loops, their bodies unread -/
def LcOk (n : Nat) (y : Nat → D → Prop) (γ1 : Env) (dg : DG) (dt : DT) (de : DE) (vs : List Nat) (q : RS → Env → Prop) : Prop := n ≤ 1000000 ∧ ∃ I : Nat → List D → Env → Prop, I 0 [] (wipeG γ1 vs) ∧
  (∀ i acc γ2, i < n → I i acc γ2 → ∀ x, y i x → dg x γ2 fun γ3 => dt γ3 fun b γ4 => (b = true → de γ4 fun s γ5 => s.kept ∧ I (i + 1) (acc ++ [s.data]) (wipeG γ5 vs)) ∧ (b = false → I (i + 1) acc (wipeG γ4 vs))) ∧
  ∀ acc γ2, I n acc γ2 → q (.new (.lst acc)) (restore γ1 γ2 vs)
theorem dLc_eq {di : DI} {dg : DG} {dt : DT} {de : DE} {vs : List Nat} {γ : Env} {q : RS → Env → Prop} : dLc di dg dt de vs γ q = di γ fun n y γ1 => LcOk n y γ1 dg dt de vs q := rfl
theorem lc_ok {n : Nat} {y : Nat → D → Prop} {γ1 : Env} {dg : DG} {dt : DT} {de : DE} {vs : List Nat} {q : RS → Env → Prop} (hn : n ≤ 1000000) (I : Nat → List D → Env → Prop) (h0 : I 0 [] (wipeG γ1 vs))
    (hs : ∀ i acc γ2, i < n → I i acc γ2 → ∀ x, y i x → dg x γ2 fun γ3 => dt γ3 fun b γ4 => (b = true → de γ4 fun s γ5 => s.kept ∧ I (i + 1) (acc ++ [s.data]) (wipeG γ5 vs)) ∧ (b = false → I (i + 1) acc (wipeG γ4 vs)))
    (hf : ∀ acc γ2, I n acc γ2 → q (.new (.lst acc)) (restore γ1 γ2 vs)) : LcOk n y γ1 dg dt de vs q := ⟨hn, I, h0, hs, hf⟩
/-- every turn tells f i -/
theorem lc_map {n : Nat} {y : Nat → D → Prop} {γ1 : Env} {dg : DG} {dt : DT} {de : DE} {vs : List Nat} {q : RS → Env → Prop} (hn : n ≤ 1000000) (f : Nat → D) (G : Env)
    (h0 : wipeG γ1 vs = G) (hs : ∀ i x, i < n → y i x → dg x G fun γ3 => dt γ3 fun b γ4 => b = true ∧ de γ4 fun s γ5 => s.kept ∧ s.data = f i ∧ wipeG γ5 vs = G) (mg : ∀ {x γ a b}, (∀ γ3, a γ3 → b γ3) → dg x γ a → dg x γ b) (mt : ∀ {γ} {a b : Bool → Env → Prop}, (∀ u v, a u v → b u v) → dt γ a → dt γ b) (me : ∀ {γ} {a b : RS → Env → Prop}, (∀ u v, a u v → b u v) → de γ a → de γ b)
    (hf : q (.new (.lst ((List.range n).map f))) (restore γ1 G vs)) : LcOk n y γ1 dg dt de vs q :=
  lc_ok hn (fun i acc γ => acc = (List.range i).map f ∧ γ = G) ⟨rfl, h0⟩ (fun i acc γ hi ⟨e1, e2⟩ x hx => by
    subst e1; subst e2
    refine mg (fun γ3 => mt fun b γ4 ⟨hb, h⟩ => ⟨fun _ => me (fun s γ5 ⟨k1, k2, k3⟩ => ⟨k1, ?_, k3⟩) h, fun z => by rw [hb] at z; cases z⟩) (hs i x hi hx)
    rw [List.range_succ, List.map_append, k2]
    rfl) fun acc γ ⟨e1, e2⟩ => by subst e1; subst e2; exact hf
def ForOk (n : Nat) (y : Nat → D → Prop) (γ1 : Env) (dg : DG) (db : DS) (d : DEnds) : Prop := ∃ I : Nat → Env → Prop, I 0 γ1 ∧
  (∀ i γ2, i < n → I i γ2 → ∀ x, y i x → dg x γ2 fun γ3 => db { nx := I (i + 1), ct := I (i + 1), bk := d.nx, rt := d.rt } γ3) ∧ ∀ γ2, I n γ2 → d.nx γ2
theorem dFor_eq {di : DI} {dg : DG} {db : DS} {d : DEnds} {γ : Env} : dFor di dg db d γ = di γ fun n y γ1 => ForOk n y γ1 dg db d := rfl
theorem for_ok {n : Nat} {y : Nat → D → Prop} {γ1 : Env} {dg : DG} {db : DS} {d : DEnds} (I : Nat → Env → Prop) (h0 : I 0 γ1)
    (hs : ∀ i γ2, i < n → I i γ2 → ∀ x, y i x → dg x γ2 fun γ3 => db { nx := I (i + 1), ct := I (i + 1), bk := d.nx, rt := d.rt } γ3) (hf : ∀ γ2, I n γ2 → d.nx γ2) : ForOk n y γ1 dg db d := ⟨I, h0, hs, hf⟩
def WhileOk (γ : Env) (dt : DT) (db : DS) (d : DEnds) : Prop := ∃ I : Nat → Env → Prop, (∃ m, I m γ) ∧ ∀ m γ2, I m γ2 → dt γ2 fun b γ3 =>
  (b = true → db { nx := fun γ4 => ∃ m', m' < m ∧ I m' γ4, ct := fun γ4 => ∃ m', m' < m ∧ I m' γ4, bk := d.nx, rt := d.rt } γ3) ∧ (b = false → d.nx γ3)
theorem dWhile_eq {dt : DT} {db : DS} {d : DEnds} {γ : Env} : dWhile dt db d γ = WhileOk γ dt db d := rfl
theorem while_ok {dt : DT} {db : DS} {d : DEnds} {γ : Env} (I : Nat → Env → Prop) (m : Nat) (h0 : I m γ) (hs : ∀ m γ2, I m γ2 → dt γ2 fun b γ3 =>
    (b = true → db { nx := fun γ4 => ∃ m', m' < m ∧ I m' γ4, ct := fun γ4 => ∃ m', m' < m ∧ I m' γ4, bk := d.nx, rt := d.rt } γ3) ∧ (b = false → d.nx γ3)) : WhileOk γ dt db d := ⟨I, ⟨m, h0⟩, hs⟩
theorem rg_snoc {α : Type} {f : Nat → α} {i : Nat} {x : α} : (List.range i).map f ++ [x] = (List.range (i + 1)).map f ↔ x = f i := by
  rw [List.range_succ, List.map_append]
  simp
theorem cut_to {α : Type} {xs : List α} {k : Int} (h : 0 ≤ k) : cut xs none (some k) = xs.take k.toNat := by
  unfold cut
  rw [HT.sIx_none, show k = ((k.toNat : Nat) : Int) by omega, HT.sIx_nat, List.drop_zero, Nat.sub_zero, Int.toNat_natCast, List.take_eq_take_iff]
  omega
theorem cut_from {α : Type} {xs : List α} {k : Int} (h : 0 ≤ k) : cut xs (some k) none = xs.drop k.toNat := by
  unfold cut
  rw [HT.sIx_none, show k = ((k.toNat : Nat) : Int) by omega, HT.sIx_nat, Int.toNat_natCast]
  by_cases c : k.toNat ≤ xs.length
  · rw [Nat.min_eq_left c, List.take_of_length_le (by rw [List.length_drop]; omega)]
  · rw [Nat.min_eq_right (by omega), List.drop_of_length_le (Nat.le_refl _), List.drop_of_length_le (by omega), List.take_nil]
theorem map_snoc {α β : Type} {f : α → β} {xs : List α} {x : α} : xs.map f ++ [f x] = (xs ++ [x]).map f := by simp
end DL

set_option Elab.async false
set_option linter.all false
set_option maxRecDepth 100000
set_option maxHeartbeats 2000000
namespace DL
open PySem PySem.Spec PyProof.Rows L2
open Evl (Ex ex_l ex_t)
/-! ### what is raised: the class by its name, the fields -/
abbrev Xf := Option (List (Str × D))
abbrev DX := Nat → Xf → Env → Prop
abbrev FSX := List Sx → (RS → List Sx → Prop) → (Nat → Xf → List Sx → Prop) → Prop
def XdOk (K : PySem.W.Frag) (B : Bs) (F : Hp) : Option Addr → Xf → Prop
  | none, none => True
  | some d, some l => ∃ fv, F d = some (.xd fv) ∧ RpFs (B.kz K) F fv l
  | _, _ => False
theorem XdOk.mono {K : PySem.W.Frag} {B : Bs} {F F' : Hp} {dd : Option Addr} {fs : Xf} (h : XdOk K B F dd fs) (e : Ex F F') : XdOk K B F' dd fs := by
  unfold XdOk at h ⊢
  split at h
  · trivial
  · obtain ⟨fv, h1, h2⟩ := h
    exact ⟨fv, e _ _ h1, h2.mono e⟩
  · exact h.elim
def XOk (K : PySem.W.Frag) (ct : Nat → Addr) (B : Bs) (W : WX) (xc : DX) : Prop := ∀ F' H' σ' γ' nm dd fs, Rep K B F' H' σ' γ' → XdOk K B F' dd fs → xc nm fs γ' → W (.ref (ct nm)) dd σ' H'
def spOfX (K : PySem.W.Frag) (ct : Nat → Addr) (n : Nat) (fs : FSX) : Sp := fun vs H Q E => vs.length = n ∧ ∃ F m, ∃ z : ZN H, ∃ as p x, Rep K (entry F H m z vs) F H (vs.map some) as ∧ fs as p x ∧
  (∀ r as' v F' H', p r as' → Rep K (entry F H m z vs) F' H' (vs.map some) as' → RsOk K (entry F H m z vs) F' H' (vs.map some) as' v r → r.kept → Q v H') ∧
  ∀ nm xs dd as' F' H', x nm xs as' → Rep K (entry F H m z vs) F' H' (vs.map some) as' → XdOk K (entry F H m z vs) F' dd xs → E (.ref (ct nm)) dd H'
def xcOf (as : List Sx) (x : Nat → Xf → List Sx → Prop) : DX := fun nm xs γ => OutP as γ fun zs => x nm xs zs
section
variable {P : Program} {w : World} {K : PySem.W.Frag} {mg : Str → Option Value} {base : Heap} {ct : Nat → Addr}
theorem fn_cx {x qual : Str} {st : Stmt} {f : Addr} {fd : FuncData} {N ps : List Str} {k : Nat} {sp : Sp} (F : Fun K x qual st f fd) (S : FnScope N ps (defScope st)) (len : ∀ vs H Q E, sp vs H Q E → vs.length = ps.length)
    (body : ∀ (cd : Value) (A : Around) (o : List PySem.Env) (s : Shared) (H : Hp) (vs : List V) (Q : VK) (E : XK), Room k (A.deeper (envOfC qual (defScope st) s.heap.objs.size f cd)) → sp vs H Q E →
      ∃ t, PSs (cxOf (L2N.CX P w) P w K mg base N qual (defScope st) f cd A o s H E) (defBody st) t ∧ t { nx := fun _ H' => Q .non H', rt := Q } (L2.start N vs) H) : FnOk P w K mg base (L2N.CX P w) (k + 1) f fd ps sp := by
  obtain ⟨_, _, _, _, _, _, cd, _, _, e, lk, hc⟩ := F.ex
  subst e
  exact fn_of lk hc S len fun A o s H vs Q E r h => body cd A o s H vs Q E r h
/-- a def that may raise -/
theorem fn_okX {x qual : Str} {st : Stmt} {f : Addr} {fd : FuncData} {N ps : List Str} {k n : Nat} {fs : FSX} {ds : DX → DS} (F : Fun K x qual st f fd) (S : FnScope N ps (defScope st)) (hn : ps.length = n) (hN : n ≤ N.length)
    (body : ∀ (B : Bs) (W : WX) (xc : DX) (cdv : Value) (A : Around) (outer : List PySem.Env) (s : Shared) (H : Hp) (E : XK), Room k (A.deeper (envOfC qual (defScope st) s.heap.objs.size f cdv)) → XOk K ct B W xc →
      L2N.Takes (cxOf (L2N.CX P w) P w K mg base N qual (defScope st) f cdv A outer s H E) W → ∃ ts, XSs (cxOf (L2N.CX P w) P w K mg base N qual (defScope st) f cdv A outer s H E) B (defBody st) ts (ds xc))
    (h : ∀ as p x, as.length = n → fs as p x → ds (xcOf as x) (endsOf as p) (startG N.length as)) : FnOk P w K mg base (L2N.CX P w) (k + 1) f fd ps (spOfX K ct n fs) := by
  refine fn_cx F S (fun vs H Q E h => h.1.trans hn.symm) fun cdv A outer s H vs Q E hr hsp => ?_
  obtain ⟨hl, F0, m, z, as, p, x, R0, hf, hq, he⟩ := hsp
  have ha : as.length = n := by have := R0.len; rw [List.length_map] at this; omega
  have xo : XOk K ct (entry F0 H m z vs) (fun cls d _ H => E cls d H) (xcOf as x) := fun F' H' σ' γ' nm dd xs R' xd h1 => by
    obtain ⟨zs, ho, hp⟩ := outP h1
    exact he nm xs dd zs F' H' hp (R0.outs R' ho) xd
  obtain ⟨ts, b⟩ := body (entry F0 H m z vs) _ _ cdv A outer s H E hr xo (L2N.takes_of rfl rfl rfl rfl)
  refine ⟨ts, b.ps, ?_⟩
  refine b.ss F0 H _ _ _ (endsOf as p) (R0.start (by rw [hl]; exact hN)) (h as p x ha hf) ⟨fun F' H' σ' γ' R' _ h1 => ?_, fun F' H' σ' γ' v r R' _ o ⟨hk, h1⟩ => ?_, fun _ _ _ _ _ _ z => z, fun _ _ _ _ _ _ z => z⟩
  · obtain ⟨zs, ho, hp⟩ := outP h1
    exact hq (.val .non) zs .non F' H' hp (R0.outs R' ho) .non trivial
  · obtain ⟨zs, ho, hp⟩ := outP h1
    have R2 := R0.outs R' ho
    refine hq r zs v F' H' hp R2 ?_ hk
    cases r with
    | val d => exact o
    | own j c => exact hk.elim
    | new c =>
      obtain ⟨a, rfl, N⟩ := o
      refine ⟨a, rfl, N.fa, N.ok, N.bn, N.bm, fun i p' c' h1 h2 => ?_⟩
      obtain ⟨_, ok⟩ := R2.ownObj h1 h2
      have e1 : H a = none := N.bn
      obtain ⟨_, h3⟩ := outs_get ho
      rcases h3 i _ h1 with ⟨p2, c0, c2, e2, _, _⟩ | ⟨_, n2⟩
      · obtain ⟨_, ok2⟩ := R0.ownObj e2 h2
        obtain ⟨o, ho, _⟩ := ok2.obj
        rw [e1] at ho; cases ho
      · exact n2 p' c' rfl
end

theorem takesN {X : Cx} : L2N.Takes X (fun _ _ _ _ => False) := fun _ _ ⟨_, _, _, _, _, _, _, _, _, _, _, _, _, _, _, _, h⟩ => h.elim
theorem passN {X : Cx} : Passes (L2N.CX X.prog X.w) X E0 := fun _ _ _ _ _ _ _ ⟨_, _, _, _, _, _, _, _, _, _, _, _, h⟩ => h.elim
/-! ### calls that may raise -/
def dCallX (xc : DX) (n : Nat) (fs : FSX) (dds : List D) (da : DA) (γ : Env) (q : RS → Env → Prop) : Prop := da γ fun rs γ1 => (ownIx rs).Nodup ∧ rs.length + dds.length = n ∧
  fs (argsOf 0 rs ++ dds.map Sx.val) (fun r as' => q r (upds γ1 rs as')) fun nm xs as' => xc nm xs (upds γ1 rs as')
section
variable {K : PySem.W.Frag} {B : Bs} {ct : Nat → Addr}
theorem call_core {n : Nat} {fs : FSX} {dvs : List V} {dds : List D} {W : XK} {xc : DX} {F H : Hp} {σ : L2.St} {γ : Env} {vs : List V} {rs : List RS} {Q : VK} {q : RS → Env → Prop} (od : Paired (fun v d => ∀ z F, Rp ⟨K, z⟩ F v d) dvs dds) (R1 : Rep K B F H σ γ) (o1 : Paired (RsOk K B F H σ γ) vs rs)
    (xo : ∀ F' H' γ' nm dd fs, Rep K B F' H' σ γ' → XdOk K B F' dd fs → xc nm fs γ' → W (.ref (ct nm)) dd H') (h1 : (ownIx rs).Nodup) (h2 : rs.length + dds.length = n)
    (h3 : fs (argsOf 0 rs ++ dds.map Sx.val) (fun r as' => q r (upds γ rs as')) fun nm xs as' => xc nm xs (upds γ rs as')) (k : ∀ v F' H' γ' s, Rep K B F' H' σ γ' → Ex F F' → RsOk K B F' H' σ γ' v s → q s γ' → Q v H') : spOfX K ct n fs (vs ++ dvs) H Q W := by
  obtain ⟨m, hm, RE⟩ := R1.args o1 od h1
  have hw : ∀ (i : Nat) v, vs[i]? = some v → (vs ++ dvs)[i]? = some v := fun i v hv => by rw [List.getElem?_append_left (List.getElem?_eq_some_iff.mp hv).1]; exact hv
  refine ⟨by rw [List.length_append, P_len o1, P_len od]; exact h2, F, m, _, _, _, _, RE, h3, fun r as' v F2 H2 hp R2 ok hk => ?_, fun nm xs dd as' F2 H2 hx R2 xd => ?_⟩
  · obtain ⟨R3, e3, ok3⟩ := R1.called o1 h1 hw hm R2
    exact k v F2 H2 _ r R3 e3 (ok3 v r hk ok) hp
  · obtain ⟨R3, e3, ok3⟩ := R1.called o1 h1 hw hm R2
    exact xo F2 H2 _ nm dd xs R3 xd hx
theorem se_callX {n : Nat} {fs : FSX} {dvs : List V} {dds : List D} {W : WX} {xc : DX} {ta : TA} {da : DA} (h : SA K B ta da) (od : Paired (fun v d => ∀ z F, Rp ⟨K, z⟩ F v d) dvs dds) (xo : XOk K ct B W xc) : SE K B (tCallSD (spOfX K ct n fs) dvs (WE W) ta) (dCallX xc n fs dds da) := fun F H σ γ Q q R hq k => by
  refine h F H σ γ _ _ R hq fun vs F1 H1 γ1 rs R1 e1 o1 ⟨h1, h2, h3⟩ => ?_
  exact call_core (W := WE W σ) od R1 o1 (fun F' H' γ' nm dd fs R' xd hx => xo F' H' σ γ' nm dd fs R' xd hx) h1 h2 h3 fun v F' H' γ' s R' e' o' hq => k v F' H' γ' s R' (e1.trans e') o' hq
/-- where nothing is raised -/
theorem se_callN {n : Nat} {fs : FSX} {dvs : List V} {dds : List D} {ta : TA} {da : DA} (h : SA K B ta da) (od : Paired (fun v d => ∀ z F, Rp ⟨K, z⟩ F v d) dvs dds) : SE K B (tCall (spOfX K ct n fs) dvs E0 ta) (dCallX (fun _ _ _ => False) n fs dds da) := fun F H σ γ Q q R hq k => by
  refine h F H σ γ _ _ R hq fun vs F1 H1 γ1 rs R1 e1 o1 ⟨h1, h2, h3⟩ => ?_
  exact call_core (W := E0) od R1 o1 (fun F' H' γ' nm dd fs R' xd hx => hx) h1 h2 h3 fun v F' H' γ' s R' e' o' hq => k v F' H' γ' s R' (e1.trans e') o' hq
end
section
variable {X : Cx} {B : Bs} {ct : Nat → Addr} {a : Expr} {es : List Expr} {ta : TA} {da : DA} {k n : Nat} {f : Addr} {fd : FuncData} {ps : List Str} {fs : FSX} {x : Str} {p pos : Pos} {W : WX} {xc : DX}
theorem x_callX (xo : XOk X.K ct B W xc) (tk : L2N.Takes X W) (G : FnOk X.prog X.w X.K X.mg X.base (L2N.CX X.prog X.w) k f fd ps (spOfX X.K ct n fs)) (hr : Room k X.A) (hm : X.mg x = some (.ref f)) (hk : PySem.W.keepIn X.K (.ref f) = true) (hb : Binds X.K fd ps []) (h : XA X B (a :: es) ta da)
    (hg : Gl X x := by rfl) (hdb : (x == ("__debug__" : Str)) = false := by decide) (he : starEach (a :: es) X.env = (false, eval a X.env) :: starEach es X.env := by rfl) (hpl : (backTo pos (starEach es X.env)).any (·.1) = false := by rfl) :
    XE X B (.Call (.Name x p) (a :: es) [] pos) (tCallSD (spOfX X.K ct n fs) [] (WE W) ta) (dCallX xc n fs [] da) := ⟨pe_callSD G hr hg hm hk hb .nil (fun σ => L2N.passAt tk σ) h.pa hdb he hpl, se_callX h.sa .nil xo⟩
theorem x_callN (G : FnOk X.prog X.w X.K X.mg X.base (L2N.CX X.prog X.w) k f fd ps (spOfX X.K ct n fs)) (hr : Room k X.A) (hm : X.mg x = some (.ref f)) (hk : PySem.W.keepIn X.K (.ref f) = true) (hb : Binds X.K fd ps []) (h : XA X B (a :: es) ta da)
    (hg : Gl X x := by rfl) (hdb : (x == ("__debug__" : Str)) = false := by decide) (he : starEach (a :: es) X.env = (false, eval a X.env) :: starEach es X.env := by rfl) (hpl : (backTo pos (starEach es X.env)).any (·.1) = false := by rfl) :
    XE X B (.Call (.Name x p) (a :: es) [] pos) (tCall (spOfX X.K ct n fs) [] E0 ta) (dCallX (fun _ _ _ => False) n fs [] da) := ⟨pe_call G hr hg hm hk hb .nil passN h.pa hdb he hpl, se_callN h.sa .nil⟩
end
section
variable {X : Cx} {B : Bs} {ct : Nat → Addr} {a : Expr} {es : List Expr} {ta : TA} {da : DA} {k n : Nat} {f : Addr} {fd : FuncData} {ps : List Str} {fs : FSX} {x : Str} {p pos : Pos} {W : WX} {xc : DX}
theorem x_callXC (K : PySem.W.Frag) (hK : X.K = K) (xo : XOk X.K ct B W xc) (tk : L2N.Takes X W) (G : FnOk X.prog X.w X.K X.mg X.base (L2N.CX X.prog X.w) k f fd ps (spOfX X.K ct n fs)) (hr : Room k X.A) (hm : X.mg x = some (.ref f)) (hk : PySem.W.keepIn X.K (.ref f) = true) (hb : Binds X.K fd ps []) (h : XA X B (a :: es) ta da)
    (hg : Gl X x := by rfl) (hdb : (x == ("__debug__" : Str)) = false := by decide) (he : starEach (a :: es) X.env = (false, eval a X.env) :: starEach es X.env := by rfl) (hpl : (backTo pos (starEach es X.env)).any (·.1) = false := by rfl) :
    XE X B (.Call (.Name x p) (a :: es) [] pos) (tCallSD (spOfX K ct n fs) [] (WE W) ta) (dCallX xc n fs [] da) := by
  have g := x_callX (p := p) (pos := pos) xo tk G hr hm hk hb h hg hdb he hpl
  rw [hK] at g
  exact g
theorem x_callNC (K : PySem.W.Frag) (hK : X.K = K) (G : FnOk X.prog X.w X.K X.mg X.base (L2N.CX X.prog X.w) k f fd ps (spOfX X.K ct n fs)) (hr : Room k X.A) (hm : X.mg x = some (.ref f)) (hk : PySem.W.keepIn X.K (.ref f) = true) (hb : Binds X.K fd ps []) (h : XA X B (a :: es) ta da)
    (hg : Gl X x := by rfl) (hdb : (x == ("__debug__" : Str)) = false := by decide) (he : starEach (a :: es) X.env = (false, eval a X.env) :: starEach es X.env := by rfl) (hpl : (backTo pos (starEach es X.env)).any (·.1) = false := by rfl) :
    XE X B (.Call (.Name x p) (a :: es) [] pos) (tCall (spOfX K ct n fs) [] E0 ta) (dCallX (fun _ _ _ => False) n fs [] da) := by
  have g := x_callN (p := p) (pos := pos) G hr hm hk hb h hg hdb he hpl
  rw [hK] at g
  exact g
end
end DL

set_option Elab.async false
set_option linter.all false
set_option maxRecDepth 100000
set_option maxHeartbeats 2000000
namespace DL
open PySem PySem.Spec PyProof.Rows L2
open Evl (Ex ex_l ex_t)
/-! ### raise C(..), C's __init__ keeping one or two fields -/
def spI1 (K : PySem.W.Frag) (f : Str) : Sp := fun vs H Q _ => ∃ (a C : Addr) (y : V), vs = [.ref a, y] ∧ OexC K C ∧ PySem.W.findIn K (.ref C) f = some none ∧ H a = some (exo a C none) ∧
  ∀ dx, H dx = none → dx ≠ a → Q .non (upd (upd H dx (exd dx [(f, y)])) a (exo a C (some dx)))
def spI2 (K : PySem.W.Frag) (f g : Str) : Sp := fun vs H Q _ => ∃ (a C : Addr) (y z : V), vs = [.ref a, y, z] ∧ OexC K C ∧ PySem.W.findIn K (.ref C) f = some none ∧ PySem.W.findIn K (.ref C) g = some none ∧ H a = some (exo a C none) ∧
  ∀ dx, H dx = none → dx ≠ a → Q .non (upd (upd (upd H dx (exd dx [(f, y)])) a (exo a C (some dx))) dx (exd dx [(g, z), (f, y)]))
/-- C(e, ..) outside a suite: an error whose context is None -/
theorem mk_err {X : Cx} {e : Expr} {es : List Expr} {ta : TA} {p pos : Pos} {CX : CXT} {x : Str} {C fI : Addr} {k : Nat} {fd : FuncData} {ps : List Str} {sp : Sp} {ds : List Value} {dvs : List V} (T : OexC X.K C) (iC : PySem.W.findIn X.K (.ref C) "__init__" = some (some (.ref fI))) (tI : PySem.W.typeIn X.K (.ref fI) = some (.type "function"))
    (G : FnOk X.prog X.w X.K X.mg X.base CX k fI fd ps sp) (hr : Room (k + 1) X.A) (hb : Binds X.K fd ps ds) (hd : Vals dvs ds) (hx : Passes CX X (fun _ _ _ => False)) (hg : Gl X x) (hm : X.mg x = some (.ref C)) (ha : PA X (e :: es) ta)
    (hdb : (x == ("__debug__" : Str)) = false := by decide) (he : starEach (e :: es) X.env = (false, eval e X.env) :: starEach es X.env := by rfl) (hpl : (backTo pos (starEach es X.env)).any (·.1) = false := by rfl) : L2N.PMk X (.Call (.Name x p) (e :: es) [] pos) (tMkO C sp dvs ta) := fun pins s σ H Q I h => by
  obtain ⟨_, _, _, _, bm, _, _, _, _, _, _, _, _, _, _, lC, tail⟩ := T.cls
  refine wpAny_Call_Name_kw (ld_glob I hg hm ?_ hdb)
  refine PySem.W.callWith_K (h₀ := X.base) I.ok.mod.kin T.kC (thn (ha.run pos pins s σ H _ I h) fun us s1 ⟨vs, H1, J, rv, hz, q⟩ => ⟨J.kIn, ?_⟩) he hpl
  show wpAny _ _ (call (.ref C) us) _ _ _
  obtain ⟨h0, g, dr, tk, os⟩ := s1
  let n := h0.objs.size
  have fresh : n ≤ n + 1 := Nat.le_succ _
  have pr := q (n + 1) (J.hok.fresh fresh)
  have kp : ∀ b o, h0.get? b = some o → ((h0.push (PySem.W.kdv_tup us)).push (PySem.HandSPX.excO C n)).get? b = some o :=
    fun b o z => Heap.get?_push_of_some _ (Heap.get?_push_of_some _ z)
  have at1 : ((h0.push (PySem.W.kdv_tup us)).push (PySem.HandSPX.excO C n)).get? (n + 1) = some (PySem.HandSPX.excO C n) := by
    show ((h0.push (PySem.W.kdv_tup us)).push (PySem.HandSPX.excO C h0.objs.size)).get? (h0.objs.size + 1) = _
    heap_get
  have J2 := J.laid (t' := tk) (a := n + 1) (o := exo (n + 1) C none) kp fresh (exo_ok at1)
  have r2 : Vals (V.ref (n + 1) :: (vs ++ dvs)) (Value.ref (n + 1) :: (us ++ ds)) := .cons rfl (rv.append hd)
  have ln : (Value.ref (n + 1) :: us ++ ds).length = ps.length := r2.length.symm.trans (G.len _ _ _ _ pr)
  have lu : us.length ≤ sizeLine := by
    have z := Paired.length rv
    rw [sizeLine_eq]
    omega
  have run := G.run _ X.stack _ _ ⟨Value.ref (n + 1) :: us, []⟩ (Value.ref (n + 1) :: (us ++ ds)) _ _ (fun _ _ _ => False)
    (hr.make C us []) (J2.env0.make C us []) (hb _ (Value.ref (n + 1) :: us) J2.kIn ln) r2 pr
  refine wpAny_call (PySem.HandSPX.call_own F.excBase_ValueError (fun Y => PySem.HandSPX.refsVE_contains Y bm tail) (J.kIn _ _ lC)
    (PySem.W.looks_findIn J.kIn iC) (fun self => PySem.W.bind_fn J.kIn self tI) lu (codeAny_mono run fun r s' hq => ?_))
  cases r with
  | error er => exact hx pins σ _ _ er s' J2 hq
  | ok fl => cases fl with
    | ret u =>
      obtain ⟨v, H2, o2, b2, u2, k2, rv2, ev, d, fs, ea, ed, e1, q2⟩ := hq
      subst ev
      obtain ⟨h2, g2, d2, t2, os'⟩ := s'
      obtain ⟨t0, G2, J3, kG, nG, hoe, na⟩ := mk_end0 (d2 := d2) (t2 := t2) J fresh kp u2 k2 o2 b2 ea ed e1
      exact ⟨rv2, n + 1, _, _, ⟨G2, g2, d2, t2, os'⟩, _, .ref C, some d, rfl, J3, kG, nG, hoe, ⟨rfl, rfl, fun _ z => by cases z; rfl⟩, rfl, rfl, na, rfl, b2, raises_own T.exC T.tyC, q2⟩
    | next => exact hq.elim
    | brk => exact hq.elim
    | cont => exact hq.elim
/-- what the written part says of an own error class with an __init__ -/
structure ErrC (K : PySem.W.Frag) (mg : Str → Option Value) (nm : Str) (C fI : Addr) : Prop where
  o : OexC K C
  g : mg nm = some (.ref C)
  i : PySem.W.findIn K (.ref C) "__init__" = some (some (.ref fI))
  t : PySem.W.typeIn K (.ref fI) = some (.type "function")
def dRaise1 (xc : DX) (nm : Nat) (f : Str) (da : DA) (d : DEnds) (γ : Env) : Prop := da γ fun rs γ1 => allV rs ∧ match rs.map RS.data with
  | [y] => xc nm (some [(f, y)]) γ1
  | _ => False
def dRaise2 (xc : DX) (nm : Nat) (f g : Str) (da : DA) (d : DEnds) (γ : Env) : Prop := da γ fun rs γ1 => allV rs ∧ match rs.map RS.data with
  | [y, z] => xc nm (some [(g, z), (f, y)]) γ1
  | _ => False
section
variable {K : PySem.W.Frag} {B : Bs} {F H : Hp} {σ : L2.St} {γ : Env}
/-- an exception's dict, new -/
theorem Rep.newX (R : Rep K B F H σ γ) {p : Addr} {fv : List (Str × V)} {fs : List (Str × D)} (hp : H p = none) (h : RpFs (B.kz K) F fv fs) : Rep K B (upd F p (.xd fv)) (upd H p (.xd fv)) σ γ ∧ Ex F (upd F p (.xd fv)) ∧ XdOk K B (upd F p (.xd fv)) (some p) (some fs) := by
  obtain ⟨f1, f2, f3, f4⟩ := R.fresh hp
  obtain ⟨R2, e⟩ := (R.alloc (.xd fv) hp).freeze (a := p) (o := .xd fv) upd_same f1 (.inr f2) fun i q c' hg => ⟨f4 i q c' hg, fun x _ z => by cases z⟩
  exact ⟨R2, e, fv, upd_same, h.mono e⟩
theorem del_upd {H H2 : Hp} {a d : Addr} {o : HO} (ha : H a = none) (h : ∀ b, b ≠ a → b ≠ d → H2 b = H b) : upd (L2.del H2 a) d o = upd H d o := by
  funext b
  by_cases hd : b = d
  · subst hd; rw [upd_same, upd_same]
  · rw [upd_ne hd, upd_ne hd]
    by_cases hb : b = a
    · subst hb; rw [del_same, ha]
    · rw [del_ne hb, h b hb hd]
end
section
variable {X : Cx} {B : Bs} {ct : Nat → Addr} {W : WX} {xc : DX} {nm : Nat} {f g x : Str} {a b : Expr} {ta : TA} {da : DA} {p pos pos2 : Pos} {fI : Addr} {fd : FuncData} {ps : List Str} {k : Nat}
theorem s_raise1 (hc : X.calm = true) (xo : XOk X.K ct B W xc) (tk : L2N.Takes X W) (T : ErrC X.K X.mg x (ct nm) fI) (hf : PySem.W.findIn X.K (.ref (ct nm)) f = some none) (G : FnOk X.prog X.w X.K X.mg X.base CX0 k fI fd ps (spI1 X.K f)) (hr : Room (k + 1) X.A) (hb : Binds X.K fd ps []) (h : XA X B [a] ta da)
    (hg : Gl X x := by rfl) (hdb : (x == ("__debug__" : Str)) = false := by decide) (he : starEach (a :: []) X.env = (false, eval a X.env) :: starEach [] X.env := by rfl) (hpl : (backTo pos (starEach [] X.env)).any (·.1) = false := by rfl) :
    XS X B (.Raise (some (.Call (.Name x p) [a] [] pos)) none pos2) (fun _ σ H => tMkO (ct nm) (spI1 X.K f) [] ta σ H fun cls d H' => W cls d σ H') (dRaise1 xc nm f da) := ⟨L2N.ps_raise hc tk (mk_err T.o T.i T.t G hr hb .nil pass0 hg T.g h.pa hdb he hpl), fun F H σ γ E d R hq k => by
  refine h.sa F H σ γ _ _ R hq fun vs F1 H1 γ1 rs R1 e1 o1 ⟨h1, h2⟩ => ?_
  split at h2
  · rename_i y es
    have ra := allV_rp o1 h1
    rw [es] at ra
    cases ra with
    | cons ry t => cases t with
      | nil =>
        refine ⟨by simp, fun a1 ha => ⟨a1, ct nm, _, rfl, T.o, hf, upd_same, fun dx hd hne => ⟨rfl, dx, _, upd_same, by rw [upd_ne hne, upd_same], ?_, ?_⟩⟩⟩
        · rw [upd_ne hne] at hd; exact hd
        · have hd' : H1 dx = none := by rw [upd_ne hne] at hd; exact hd
          rw [del_upd ha fun b h3 h4 => by rw [upd_ne h3, upd_ne h4, upd_ne h3]]
          obtain ⟨R2, ex, xd⟩ := R1.newX hd' (.cons ry .nil)
          exact xo _ _ _ _ nm _ _ R2 xd h2
  · exact h2.elim⟩
theorem s_raise2 (hc : X.calm = true) (xo : XOk X.K ct B W xc) (tk : L2N.Takes X W) (T : ErrC X.K X.mg x (ct nm) fI) (hf : PySem.W.findIn X.K (.ref (ct nm)) f = some none) (hf2 : PySem.W.findIn X.K (.ref (ct nm)) g = some none) (G : FnOk X.prog X.w X.K X.mg X.base CX0 k fI fd ps (spI2 X.K f g)) (hr : Room (k + 1) X.A) (hb : Binds X.K fd ps []) (h : XA X B [a, b] ta da)
    (hg : Gl X x := by rfl) (hdb : (x == ("__debug__" : Str)) = false := by decide) (he : starEach (a :: [b]) X.env = (false, eval a X.env) :: starEach [b] X.env := by rfl) (hpl : (backTo pos (starEach [b] X.env)).any (·.1) = false := by rfl) :
    XS X B (.Raise (some (.Call (.Name x p) [a, b] [] pos)) none pos2) (fun _ σ H => tMkO (ct nm) (spI2 X.K f g) [] ta σ H fun cls d H' => W cls d σ H') (dRaise2 xc nm f g da) := ⟨L2N.ps_raise hc tk (mk_err T.o T.i T.t G hr hb .nil pass0 hg T.g h.pa hdb he hpl), fun F H σ γ E d R hq k => by
  refine h.sa F H σ γ _ _ R hq fun vs F1 H1 γ1 rs R1 e1 o1 ⟨h1, h2⟩ => ?_
  split at h2
  · rename_i y z es
    have ra := allV_rp o1 h1
    rw [es] at ra
    cases ra with
    | cons ry t => cases t with
      | cons rz t => cases t with
        | nil =>
          refine ⟨by simp, fun a1 ha => ⟨a1, ct nm, _, _, rfl, T.o, hf, hf2, upd_same, fun dx hd hne => ⟨rfl, dx, _, by rw [upd_ne (Ne.symm hne), upd_same], upd_same, ?_, ?_⟩⟩⟩
          · rw [upd_ne hne] at hd; exact hd
          · have hd' : H1 dx = none := by rw [upd_ne hne] at hd; exact hd
            rw [del_upd ha fun b h3 h4 => by rw [upd_ne h4, upd_ne h3, upd_ne h4, upd_ne h3]]
            obtain ⟨R2, ex, xd⟩ := R1.newX hd' (.cons rz (.cons ry .nil))
            exact xo _ _ _ _ nm _ _ R2 xd h2
  · exact h2.elim⟩
end

/-! ### try -/
/-- what the clause asks: is the class nm one of c's -/
def dTryAs (sub : Nat → Option Bool) (i : Nat) (tb : DX → DS) (ts : Addr → Nat → Xf → DS) (xc : DX) (d : DEnds) (γ : Env) : Prop := tb (fun nm fs γ1 => ∃ b, sub nm = some b ∧ (b = true → ∀ a, ts a nm fs { nx := fun γ2 => d.nx (put γ2 i .no), rt := d.rt, bk := fun γ2 => d.bk (put γ2 i .no), ct := fun γ2 => d.ct (put γ2 i .no) } (put γ1 i (.val (.ref a)))) ∧ (b = false → xc nm fs γ1)) d γ
def dTry (sub : Nat → Option Bool) (tb : DX → DS) (ts : Addr → Nat → Xf → DS) (xc : DX) (d : DEnds) (γ : Env) : Prop := tb (fun nm fs γ1 => ∃ b, sub nm = some b ∧ (b = true → ∀ a, ts a nm fs d γ1) ∧ (b = false → xc nm fs γ1)) d γ
section
variable {K : PySem.W.Frag} {B : Bs} {F F0 H H0 : Hp} {σ σ0 : L2.St} {γ γ0 : Env} {E : Ends} {d : DEnds}
/-- a slot is emptied -/
theorem Rep.clear (R : Rep K B F H σ γ) (i : Nat) : Rep K B F H (σ.set i none) (put γ i .no) := by
  have key : ∀ {j : Nat} {p : Option Nat} {c : OC} {s : Option V}, (put γ i .no)[j]? = some (.own p c) → (σ.set i none)[j]? = some s → γ[j]? = some (.own p c) ∧ σ[j]? = some s := fun {j p c s} h1 h2 => by
    rcases get_put h1 with ⟨_, z⟩ | ⟨n, z⟩
    · cases z
    · rw [List.getElem?_set_ne (Ne.symm n)] at h2
      exact ⟨z, h2⟩
  refine ⟨R.fh, by rw [List.length_set, put_len]; exact R.len, fun j s t hs hg => ?_, fun i j a p c q c' h1 h2 h3 h4 => R.nd i j a p c q c' (key h1 h3).1 (key h2 h4).1 (key h1 h3).2 (key h2 h4).2, R.b1, R.b2, R.b3, fun j a p c h1 h2 => R.b4 j a p c (key h1 h2).1 (key h1 h2).2, fun j a p c h1 h2 => R.b5 j a p c (key h1 h2).1 (key h1 h2).2, R.bN, R.bd⟩
  rcases get_put hg with ⟨rfl, rfl⟩ | ⟨n, z⟩
  · trivial
  · rw [List.getElem?_set_ne (Ne.symm n)] at hs
    exact R.sl j s t hs z
theorem Rep.upm (R : Rep K B F H σ γ) {b : Addr} (h : b ∈ (B.re F H σ γ).m ∨ (B.re F H σ γ).H b = none) : b ∈ B.m ∨ B.H b = none := h.elim R.owns fun e => .inr (R.fresh e).2.1
theorem Rep.rsback (R : Rep K B F H σ γ) {F' H' : Hp} {σ' : L2.St} {γ' : Env} {v : V} {s : RS} (o : RsOk K (B.re F H σ γ) F' H' σ' γ' v s) : RsOk K B F' H' σ' γ' v s := by
  cases s with
  | val x => exact o
  | own j c => exact o
  | new c =>
    obtain ⟨a, rfl, N⟩ := o
    exact ⟨a, rfl, N.fa, N.ok.base rfl rfl fun dx _ h => R.upm h, N.bn, R.upm N.bm, N.na⟩
/-- ends over a new base -/
theorem EndsOk.re (k : EndsOk K B F E d) (R : Rep K B F H σ γ) : EndsOk K (B.re F H σ γ) F E d := ⟨fun F' H' σ' γ' R' e h => k.nx F' H' σ' γ' (R.back R') e h, fun F' H' σ' γ' v s R' e o h => k.rt F' H' σ' γ' v s (R.back R') e (R.rsback o) h, fun F' H' σ' γ' R' e h => k.bk F' H' σ' γ' (R.back R') e h, fun F' H' σ' γ' R' e h => k.ct F' H' σ' γ' (R.back R') e h⟩
end
theorem takes_any {X : Cx} (hs : X.stack = X.env :: X.outer) (hf : X.env.frame = some X.env.locals) (W : WX) :
    L2N.Takes (X.tr [] fun e s1 => wpAny (model X.prog X.w) X.A (noteFrame e X.env) (fun _ s2 => wpAny (model X.prog X.w) X.A (setFlight e none) (fun _ _ => True) (fun _ _ => True) s2) (fun _ _ => True) s1) W := fun u s' ⟨a, B, sI, pins, σ, H, cls, d, eu, J, nb, up, sky, na, os, ag, w⟩ => by
  subst eu
  have hfr : X.A.frames = some (X.env :: X.outer) := by rw [← hs]; exact J.ok.frames
  have sky' : Sky B (X.env :: X.outer) a (L2N.Zn cls d) X.env.locals s'.heap := by rw [← hs]; exact sky
  exact L2N.Sky.land (Q := fun _ _ => True) L2N.Zn.steady hfr hf sky' fun _ _ _ => trivial
/-- what holds of a caught exception, ahead of its suite -/
def tsP (K : PySem.W.Frag) (ct : Nat → Addr) (ts : Addr → Value → Option Addr → TS) (a : Addr) (cls : Value) (d : Option Addr) : TS := fun E σ H => (∃ (B : Bs) (nm : Nat) (fs : Xf), cls = .ref (ct nm) ∧ XdOk K B B.F d fs) ∧ ts a cls d E σ H
theorem pss_pre {X : Cx} {P : Prop} {ss : List Stmt} {t : TS} (h : P → PSs X ss t) : PSs X ss (fun E σ H => P ∧ t E σ H) := ⟨fun pins s σ H D I ⟨p, q⟩ => (h p).run pins s σ H D I q⟩
section
variable {X : Cx} {B : Bs} {ct : Nat → Addr} {W : WX} {xc : DX} {x n : Str} {c : Addr} {i : Nat} {body suite : List Stmt} {b₀ : Stmt} {np pos pos' : Pos} {tb : WX → TS} {db : DX → DS} {ts : Addr → Value → Option Addr → TS} {dsu : Addr → Nat → Xf → DS} {sub : Nat → Option Bool}
theorem s_try_as (i : Nat) (hN : X.N.Nodup) (hc : Names X x (.ref c)) (xo : XOk X.K ct B W xc) (tk : L2N.Takes X W) (hsub : ∀ nm b, sub nm = some b → PySem.W.exmOne X.K (.ref (ct nm)) (.ref c) = some b)
    (hb : ∀ (B' : Bs) (W' : WX) (xc' : DX) (pn : List (Addr × Obj)) (xe : Value → Shared → Prop), XOk X.K ct B' W' xc' → L2N.Takes (X.tr pn xe) W' → PassesOwn (model X.prog X.w) X.A X.env xe → XSs (X.tr pn xe) B' body (tb W') (db xc'))
    (hsu : ∀ (B' : Bs) (a : Addr) (oe : Obj) (cls : Value) (d : Option Addr) (pn : List (Addr × Obj)) (nm : Nat) (fs : Xf), L2N.Zn cls d oe → (∃ vs, oe.data = .fields vs) → cls = .ref (ct nm) → XdOk X.K B' B'.F d fs → XSs (X.suite a ((a, oe) :: pn)) B' (b₀ :: suite) (ts a cls d) (dsu a nm fs))
    (hi : X.N[i]? = some n := by rfl) (hln : X.env.kindOf n = some .local := by rfl) (hs : X.stack = X.env :: X.outer := by rfl) (hf : X.env.frame = some X.env.locals := by rfl) :
    XS X B (.Try body [.ExceptHandler (some (.Name x np)) (some n) (b₀ :: suite) pos'] [] [] pos) (fun D σ H => tb (wAs X.K (.ref c) i (tsP X.K ct ts) W D) D σ H) (dTryAs sub i db dsu xc) := ⟨
  L2N.ps_try_as hs hf hN hi hln hc tk (fun W' pn xe tk' po => (hb ⟨fun _ => none, fun _ => none, fun _ => none, fun _ => none, [], fun _ => False, fun _ h => h.elim⟩ W' (fun _ _ _ => False) pn xe (fun _ _ _ _ _ _ _ _ _ h => h.elim) tk' po).ps)
    (fun a oe cls d pn hz hv => pss_pre fun ⟨B', nm, fs, e1, e2⟩ => (hsu B' a oe cls d pn nm fs hz hv e1 e2).ps),
  fun F H σ γ E d R hq k => by
  have key : XOk X.K ct (B.re F H σ γ) (wAs X.K (.ref c) i (tsP X.K ct ts) W E) (fun nm fs γ1 => ∃ b, sub nm = some b ∧ (b = true → ∀ a, dsu a nm fs { nx := fun γ2 => d.nx (put γ2 i .no), rt := d.rt, bk := fun γ2 => d.bk (put γ2 i .no), ct := fun γ2 => d.ct (put γ2 i .no) } (put γ1 i (.val (.ref a)))) ∧ (b = false → xc nm fs γ1)) := by
    intro F' H' σ' γ' nm dd fs R' xd ⟨b, hb1, h1, h2⟩
    refine ⟨b, hsub nm b hb1, fun e a ha => ?_, fun e => xo F' H' σ' γ' nm dd fs (R.back R') xd (h2 e)⟩
    have R2 : Rep X.K (B.re F H σ γ) F' H' (σ'.set i (some (.ref a))) (put γ' i (.val (.ref a))) := R'.setVal i (.ref a)
    have xd2 : XdOk X.K ((B.re F H σ γ).re F' H' (σ'.set i (some (.ref a))) (put γ' i (.val (.ref a)))) F' dd fs := xd
    refine ⟨⟨_, nm, fs, rfl, xd2⟩, ?_⟩
    have kk : EndsOk X.K B F' { nx := fun σ' H' => E.nx (σ'.set i none) H', rt := E.rt, bk := fun σ' H' => E.bk (σ'.set i none) H', ct := fun σ' H' => E.ct (σ'.set i none) H' } { nx := fun γ2 => d.nx (put γ2 i .no), rt := d.rt, bk := fun γ2 => d.bk (put γ2 i .no), ct := fun γ2 => d.ct (put γ2 i .no) } :=
      have k2 := k.mono R'.b2
      ⟨fun F3 H3 σ3 γ3 R3 e3 h3 => k2.nx F3 H3 _ _ (R3.clear i) e3 h3, k2.rt, fun F3 H3 σ3 γ3 R3 e3 h3 => k2.bk F3 H3 _ _ (R3.clear i) e3 h3, fun F3 H3 σ3 γ3 R3 e3 h3 => k2.ct F3 H3 _ _ (R3.clear i) e3 h3⟩
    have kr : EndsOk X.K (B.re F H σ γ) F' _ _ := ⟨fun F3 H3 σ3 γ3 R3 e3 h3 => kk.nx F3 H3 σ3 γ3 (R.back R3) e3 h3, fun F3 H3 σ3 γ3 v s R3 e3 o3 h3 => kk.rt F3 H3 σ3 γ3 v s (R.back R3) e3 (R.rsback o3) h3, fun F3 H3 σ3 γ3 R3 e3 h3 => kk.bk F3 H3 σ3 γ3 (R.back R3) e3 h3, fun F3 H3 σ3 γ3 R3 e3 h3 => kk.ct F3 H3 σ3 γ3 (R.back R3) e3 h3⟩
    exact (hsu _ a ⟨.ref (ct nm), dd, .fields #[.none, .none, .none], #[]⟩ _ dd [] nm fs ⟨rfl, rfl, fun vs e => by cases e; rfl⟩ ⟨_, rfl⟩ rfl xd2).ss F' H' _ _ _ _ R2.re (h1 e a) (kr.re R2)
  exact (hb (B.re F H σ γ) _ _ [] _ key (takes_any hs hf _) PassesOwn.looking).ss F H σ γ E d R.re hq (k.re R)⟩
end
theorem init1 {K : PySem.W.Frag} {f n1 n2 : Str} {vs : List V} {H : Hp} {Q : VK} {E : XK} (h : spI1 K f vs H Q E) : tOst K f (tVar 0) (tVar 1) { nx := fun _ H' => Q .non H', rt := Q } (L2.start [n1, n2] vs) H := by
  obtain ⟨a, C, y, rfl, T, hno, ha, k⟩ := h
  exact ⟨y, rfl, .ref a, rfl, a, C, rfl, T, hno, .inl ⟨ha, fun dx h1 h2 => k dx h1 h2⟩⟩
theorem init1_len {K : PySem.W.Frag} {f n1 n2 : Str} {vs : List V} {H : Hp} {Q : VK} {E : XK} (h : spI1 K f vs H Q E) : vs.length = [n1, n2].length := by
  obtain ⟨a, C, y, rfl, _⟩ := h
  rfl
theorem init2 {K : PySem.W.Frag} {f g n1 n2 n3 : Str} {vs : List V} {H : Hp} {Q : VK} {E : XK} (h : spI2 K f g vs H Q E) : tSeq (tOst K f (tVar 0) (tVar 1)) (tOst K g (tVar 0) (tVar 2)) { nx := fun _ H' => Q .non H', rt := Q } (L2.start [n1, n2, n3] vs) H := by
  obtain ⟨a, C, y, z, rfl, T, hno, hno2, ha, k⟩ := h
  exact ⟨y, rfl, .ref a, rfl, a, C, rfl, T, hno, .inl ⟨ha, fun dx h1 h2 => ⟨z, rfl, .ref a, rfl, a, C, rfl, T, hno2, .inr ⟨dx, _, upd_same, by rw [upd_ne h2, upd_same], by simp, k dx h1 h2⟩⟩⟩⟩
theorem init2_len {K : PySem.W.Frag} {f g n1 n2 n3 : Str} {vs : List V} {H : Hp} {Q : VK} {E : XK} (h : spI2 K f g vs H Q E) : vs.length = [n1, n2, n3].length := by
  obtain ⟨a, C, y, z, rfl, _⟩ := h
  rfl
end DL

set_option Elab.async false
set_option linter.all false
set_option maxRecDepth 100000
set_option maxHeartbeats 2000000
namespace DL
open PySem PySem.Spec PyProof.Rows L2
open Evl (Ex ex_l ex_t)
/-! ### a caught exception is read -/
theorem fs_get {K : KZ} {F : Hp} {n : Str} {dv : D} : ∀ {fv : List (Str × V)} {fs : List (Str × D)}, RpFs K F fv fs → fs.lookup n = some dv → ∃ v, fv.lookup n = some v ∧ Rp K F v dv
  | _, _, .nil, h => by cases h
  | _, _, @RpFs.cons _ _ m v vs d ds r t, h => by
    by_cases e : n = m
    · subst e
      simp only [List.lookup, beq_self_eq_true, Option.some.injEq] at h ⊢
      subst h
      exact ⟨v, rfl, r⟩
    · have e' : (n == m) = false := by simpa using e
      simp only [List.lookup, e'] at h ⊢
      exact fs_get t h
def tXfV (K : PySem.W.Frag) (a : Addr) (cls : Value) (d : Option Addr) (n : Str) (i : Nat) : TE := fun σ H Q => ∃ C, (XfC K C ∧ PySem.W.findIn K (.ref C) n = some none) ∧ tXf a cls d C n (tVar i) σ H Q
def dXf (rd : Nat → Str → Bool) (i : Nat) (a : Addr) (nm : Nat) (fs : Xf) (n : Str) (γ : Env) (q : RS → Env → Prop) : Prop := look γ i = .val (.ref a) ∧ rd nm n = true ∧ ∃ l v, fs = some l ∧ l.lookup n = some v ∧ q (.val v) γ
/-- e.n -/
theorem x_xf {X : Cx} {B : Bs} {ct : Nat → Addr} {a : Addr} {oe : Obj} {cls : Value} {d : Option Addr} {pn : List (Addr × Obj)} {nm : Nat} {n x : Str} {fs : Xf} {rd : Nat → Str → Bool} {p pos : Pos} (i : Nat) (hz : L2N.Zn cls d oe) (hf : ∃ vs, oe.data = .fields vs) (hcls : cls = .ref (ct nm)) (xd : XdOk X.K B B.F d fs)
    (hrd : ∀ nm n, rd nm n = true → XfC X.K (ct nm) ∧ PySem.W.findIn X.K (.ref (ct nm)) n = some none)
    (hN : X.N[i]? = some x := by rfl) (hv : Vis X.env.scope x := by first | exact Or.inl rfl | exact Or.inr (Or.inl rfl) | exact Or.inr (Or.inr rfl)) (hd : (x == ("__debug__" : Str)) = false := by decide) (hcd : (x == ("__classdict__" : Str)) = false := by decide)
    (hb : attributeBase (.Name x p) n X.env (eval (.Name x p) X.env) = eval (.Name x p) X.env := by rfl) :
    XE (X.suite a ((a, oe) :: pn)) B (.Attribute (.Name x p) n pos) (tXfV X.K a cls d n i) (dXf rd i a nm fs n) := ⟨⟨fun pins s σ H Q I ⟨C, ⟨T, hno⟩, h⟩ => (pe_xf (X := X) T hno hz.zc hf (pe_var (X := X.suite a ((a, oe) :: pn)) hN hv hd hcd) hb).run pins s σ H Q I h⟩, fun F H σ γ Q q R ⟨h1, h2, l, dv, h3, h4, h5⟩ k => by
  obtain ⟨T, hno⟩ := hrd nm n h2
  obtain ⟨v, hs, r⟩ := R.val h1
  cases r
  subst h3
  cases d with
  | none => exact xd.elim
  | some dd =>
    obtain ⟨fv, x1, x2⟩ := xd
    obtain ⟨u, hu, ru⟩ := fs_get (x2.mono R.b2) h4
    exact ⟨ct nm, ⟨T, hno⟩, _, hs, rfl, hcls, dd, fv, u, rfl, R.fh _ _ (R.b2 _ _ x1), hu, k u F H γ (.val dv) R (Evl.Ex.refl F) ru h5⟩⟩
/-- isinstance asks what the bases say -/
theorem kit_ref {K : PySem.W.Frag} {t : Value} {C : Addr} {b : Bool} (hdct : PySem.W.hasDictIn K C = true) (ht : PySem.W.typeIn K (.ref C) = some (.type "type")) (hs : PySem.W.subIn K t t = some true) (h : PySem.W.subIn K t (.ref C) = some b) : PySem.W.kitOne K t (.ref C) = some b := by
  unfold PySem.W.kitOne
  by_cases e : t = .ref C
  · rw [if_pos (by rw [e]; exact beq_self_eq_true _)]
    rw [← h, ← e, hs]
  · rw [if_neg (by simpa using e)]
    obtain ⟨cd, hc, _⟩ := PySem.W.any_some hdct
    have g : ((PySem.W.clsIn K C).isSome && PySem.W.typeIn K (.ref C) == some (.type "type")) = true := by rw [hc, ht]; rfl
    unfold PySem.W.kitCls
    simp only [g, if_true]
    exact h
/-! isinstance(e, C) -/
def rIsX (K : PySem.W.Frag) (a : Addr) (cls : Value) (d : Option Addr) : List V → Hp → VK → Prop := fun xs H Q => ∃ (D c : Addr) (b : Bool), xs = [.ref a, .ref c] ∧ cls = .ref D ∧ ExcC K D ∧ (d = none ∨ ∃ dd fv, d = some dd ∧ H dd = some (.xd fv)) ∧ PySem.W.kitOne K (.ref D) (.ref c) = some b ∧ Q (.bl b) H
theorem call_isX {X : Cx} {a : Addr} {oe : Obj} {cls : Value} {d : Option Addr} {pn : List (Addr × Obj)} (hz : L2N.Zn cls d oe) (hf : ∃ vs, oe.data = .fields vs) : CallR (X.suite a ((a, oe) :: pn)) (.builtin "isinstance") (rIsX X.K a cls d) := fun {pins s σ H xs us Q} I r h => by
  obtain ⟨D, c, b, rfl, hD, C, hd, e, q⟩ := h
  cases r with
  | cons rx rr => cases rr with
    | cons rt rr =>
      cases rr
      cases rx
      cases rt
      obtain ⟨hget, _⟩ := I.pin (a, oe) (List.mem_append_left _ List.mem_cons_self)
      obtain ⟨vs, hv⟩ := hf
      obtain ⟨cdD, hcD, _⟩ := PySem.W.any_some C.hd
      have hcl : (PySem.W.clsIn X.K D).isSome = true := by rw [hcD]; rfl
      have nc : PySem.W.notCls oe = true := by unfold PySem.W.notCls; rw [hv] <;> rfl
      have fin : ∀ {od : Option Obj}, PySem.W.InstAt s.heap a oe D od → wpAny (model (X.suite a ((a, oe) :: pn)).prog (X.suite a ((a, oe) :: pn)).w) (X.suite a ((a, oe) :: pn)).A (call (.builtin "isinstance") [.ref a, .ref c]) (EP (X.suite a ((a, oe) :: pn)) pins σ Q) (X.suite a ((a, oe) :: pn)).xe s := fun J =>
        PySem.W.kia_one (PySem.W.kitx_exc hcl C.hg C.hk C.hs C.ha C.hn C.ht C.hm) I.kIn J e (fun z => nomatch z) fun tk => ⟨.bl b, H, I.kept (t' := tk) fun _ _ z => z, rfl, q⟩
      rcases hd with hd | ⟨dd, fv, hd, hx⟩
      · exact fin (od := none) ⟨hget, hz.zc.1.trans hD, nc, by rw [hz.zc.2, hd]; trivial⟩
      · have ok : ObjOk X.prog X.w H s.heap dd (.xd fv) := I.hok dd _ hx
        obtain ⟨mA, hns, _⟩ := ok
        obtain ⟨od, ho, _⟩ := lookIn_ns hns
        exact fin (od := some od) ⟨hget, hz.zc.1.trans hD, nc, by rw [hz.zc.2, hd]; exact ho⟩
def dIsE (kit : Nat → Nat → Option Bool) (i : Nat) (a : Addr) (nm t : Nat) (γ : Env) (q : RS → Env → Prop) : Prop := look γ i = .val (.ref a) ∧ ∃ b, kit nm t = some b ∧ q (.val (.bl b)) γ
theorem x_isE {X : Cx} {B : Bs} {ct : Nat → Addr} {a : Addr} {oe : Obj} {cls : Value} {d : Option Addr} {pn : List (Addr × Obj)} {nm tn : Nat} {t x : Str} {fs : Xf} {kit : Nat → Nat → Option Bool} {p p1 p2 pos : Pos} (i : Nat) (hz : L2N.Zn cls d oe) (hf : ∃ vs, oe.data = .fields vs) (hcls : cls = .ref (ct nm)) (xd : XdOk X.K B B.F d fs)
    (hkit : ∀ nm t b, kit nm t = some b → ExcC X.K (ct nm) ∧ PySem.W.kitOne X.K (.ref (ct nm)) (.ref (ct t)) = some b) (hm : X.mg "isinstance" = none) (ht : X.mg t = some (.ref (ct tn)))
    (hN : X.N[i]? = some x := by rfl) (hv : Vis X.env.scope x := by first | exact Or.inl rfl | exact Or.inr (Or.inl rfl) | exact Or.inr (Or.inr rfl)) (hd : (x == ("__debug__" : Str)) = false := by decide) (hcd : (x == ("__classdict__" : Str)) = false := by decide)
    (hg : Gl X "isinstance" := by rfl) (hgt : Gl X t := by rfl) (hdt : (t == ("__debug__" : Str)) = false := by decide)
    (s1 : starEach (.Name x p1 :: [.Name t p2]) X.env = (false, eval (.Name x p1) X.env) :: starEach [.Name t p2] X.env := by rfl) (s2 : starEach (.Name t p2 :: []) X.env = (false, eval (.Name t p2) X.env) :: starEach [] X.env := by rfl) (hpl : (backTo pos (starEach [.Name t p2] X.env)).any (·.1) = false := by rfl) :
    XE (X.suite a ((a, oe) :: pn)) B (.Call (.Name "isinstance" p) [.Name x p1, .Name t p2] [] pos) (tCB (rIsX X.K a cls d) (tCons (tVar i) (tCons (tC (.ref (ct tn))) tNil))) (dIsE kit i a nm tn) :=
  ⟨pe_callB (X := X.suite a ((a, oe) :: pn)) (call_isX hz hf) hg hm (by decide +kernel) (pa_cons (pe_var (X := X.suite a ((a, oe) :: pn)) hN hv hd hcd) (pa_cons (pe_glob (X := X.suite a ((a, oe) :: pn)) hgt ht rfl hdt) pa_nil s2) s1) (by decide) (by decide) s1 hpl, fun F H σ γ Q q R ⟨h1, b, h2, h3⟩ k => by
  obtain ⟨T, hk⟩ := hkit nm tn b h2
  obtain ⟨v, hs, r⟩ := R.val h1
  cases r
  have hx : d = none ∨ ∃ dd fv, d = some dd ∧ H dd = some (.xd fv) := by
    cases d with
    | none => exact .inl rfl
    | some dd =>
      cases fs with
      | none => exact xd.elim
      | some l =>
        obtain ⟨fv, x1, _⟩ := xd
        exact .inr ⟨dd, fv, rfl, R.fh _ _ (R.b2 _ _ x1)⟩
  exact ⟨_, hs, ct nm, ct tn, b, rfl, hcls, T, hx, hk, k _ F H γ (.val (.bl b)) R (Evl.Ex.refl F) (.bl b) h3⟩⟩
end DL

set_option Elab.async false
set_option linter.all false
set_option maxRecDepth 100000
set_option maxHeartbeats 2000000
namespace DL
open PySem PySem.Spec PyProof.Rows L2
open Evl (Ex ex_l ex_t)
open L2H (Hot1 RoomH cxH FnH fn_ofH HotC pe_callH)
section
variable {K : PySem.W.Frag} {B : Bs}
/-! ### further methods of lists -/
def mIns (ds as : List D) (q : List D → D → Prop) : Prop := match as with
  | [.int i, x] => 0 ≤ i ∧ i < 2 ^ 62 ∧ ds.length < 1000000 ∧ q (ds.take i.toNat ++ [x] ++ ds.drop i.toNat) .non
  | _ => False
theorem md_insert : MutD K (fun x vs H Q => ∃ (l : Addr) (xs : List V) (i : Int) (y : V), x = .ref l ∧ vs = [.int i, y] ∧ H l = some (.lst xs) ∧ xs.length < sizeLine ∧ 0 ≤ i ∧ i < 2 ^ 63 ∧ Q .non (upd H l (.lst (xs.take i.toNat ++ [y] ++ xs.drop i.toNat)))) mIns := fun z F H a vs ds xs as Q q eFH ha ra rx hf k => by
  unfold mIns at hf
  split at hf
  · obtain ⟨x, y, rfl, r1, r2⟩ := two_rs rx.p
    cases r1
    obtain ⟨i1, i2, h1, h2⟩ := hf
    exact ⟨a, vs, _, y, rfl, rfl, ha, Nat.lt_of_lt_of_le (by rw [ra.length]; exact h1) (by decide), i1, by omega, k _ _ _ _ (RpAll.of (P_app (P_app (P_take _ ra.p) (.cons r2 .nil)) (P_drop _ ra.p))) .non h2⟩
  · exact hf.elim
def mClear (ds as : List D) (q : List D → D → Prop) : Prop := match as with
  | [] => q [] .non
  | _ => False
theorem md_clear : MutD K rClear mClear := fun z F H a vs ds xs as Q q eFH ha ra rx hf k => by
  unfold mClear at hf
  split at hf
  · cases rx
    exact ⟨a, vs, rfl, rfl, ha, k _ _ _ _ .nil .non hf⟩
  · exact hf.elim
def mRev (ds as : List D) (q : List D → D → Prop) : Prop := match as with
  | [] => q ds.reverse .non
  | _ => False
theorem md_reverse : MutD K rReverse mRev := fun z F H a vs ds xs as Q q eFH ha ra rx hf k => by
  unfold mRev at hf
  split at hf
  · cases rx
    exact ⟨a, vs, rfl, rfl, ha, k _ _ _ _ (RpAll.of (P_rev ra.p)) .non hf⟩
  · exact hf.elim
def mExt (ds as : List D) (q : List D → D → Prop) : Prop := match as with
  | [.lst es] => ds.length + es.length ≤ 1000000 ∧ q (ds ++ es) .non
  | _ => False
theorem md_extend : MutD K rExtend mExt := fun z F H a vs ds xs as Q q eFH ha ra rx hf k => by
  unfold mExt at hf
  split at hf
  · obtain ⟨x, rfl, r1⟩ := one_rs rx.p
    cases r1 with
    | @lst b ws _ hb rb =>
      exact ⟨a, b, vs, ws, rfl, rfl, ha, eFH _ _ hb, sz_le (by rw [ra.length, rb.length]; exact hf.1), k _ _ _ _ (RpAll.of (P_app ra.p rb.p)) .non hf.2⟩
  · exact hf.elim
/-! methods that only read -/
def RdD (K : PySem.W.Frag) (r : V → List V → Hp → VK → Prop) (f : List D → List D → (D → Prop) → Prop) : Prop := ∀ (z : Addr → Prop) (F H : Hp) (a : Addr) (vs : List V) (ds : List D) (xs : List V) (as : List D) (Q : VK) (q : D → Prop), Ex F H → H a = some (.lst vs) → RpAll ⟨K, z⟩ F vs ds → RpAll ⟨K, z⟩ F xs as → f ds as q →
  (∀ v d, Rp ⟨K, z⟩ F v d → q d → Q v H) → r (.ref a) xs H Q
def dRd (f : List D → List D → (D → Prop) → Prop) (de : DE) (da : DA) (γ : Env) (q : RS → Env → Prop) : Prop := de γ fun s γ1 => match s.data with
  | .lst ds => da γ1 fun rs γ2 => s.ok γ2 ∧ allV rs ∧ f ds (rs.map RS.data) fun d => q (.val d) γ2
  | _ => False
theorem se_rd {te : TE} {de : DE} {ta : TA} {da : DA} {r : V → List V → Hp → VK → Prop} {f : List D → List D → (D → Prop) → Prop} (hm : RdD K r f) (he : SE K B te de) (ha : SA K B ta da) : SE K B (tBM K "list" r te ta) (dRd f de da) := fun F H σ γ Q q R hq k => by
  refine he F H σ γ _ _ R hq fun x F1 H1 γ1 s R1 e1 o1 h1 => ?_
  obtain ⟨F2, R2, e2, o2⟩ := o1.fz R1
  split at h1
  · rename_i ds es
    have rx := o2.rs R2
    rw [RS.fz_data, es] at rx
    obtain ⟨a, vs, rfl, h2, r1⟩ := rx.lst R2.fh
    refine ⟨Or.inl ⟨rfl, vs, Evl.sq_of h2⟩, ha F2 H1 σ γ1 _ _ R2 h1 fun ws F3 H3 γ3 rs R3 e3 o3 ⟨h3, h4, h5⟩ => ?_⟩
    have ox := (o2.later e3 R3 (fz_ok s γ3 h3) (fz_idem s)).rs R3
    rw [RS.fz_data, es] at ox
    obtain ⟨a', vs', ea, h6, r6⟩ := ox.lst R3.fh
    cases ea
    exact hm B.z F3 H3 a vs' ds ws _ Q _ R3.fh h6 r6 (allV_rp o3 h4) h5 fun v d rd hq => k v F3 H3 γ3 (.val d) R3 ((e1.trans e2).trans e3) rd hq
  · exact h1.elim
/-- the first place of a number -/
def mIndex (ds as : List D) (q : D → Prop) : Prop := match as with
  | [.int y] => ∃ (ns : List Int) (j : Nat), ds = ns.map D.int ∧ ns[j]? = some y ∧ (∀ m, m < j → ns[m]? ≠ some y) ∧ q (.int (j : Nat))
  | _ => False
theorem rd_index : RdD K (rIndex K) mIndex := fun z F H a vs ds xs as Q q eFH ha ra rx hf k => by
  unfold mIndex at hf
  split at hf
  · obtain ⟨x, rfl, r1⟩ := one_rs rx.p
    cases r1
    obtain ⟨ns, j, rfl, h1, h2, h3⟩ := hf
    have ev := rp_ints ra
    subst ev
    refine ⟨a, _, _, j, _, rfl, rfl, Evl.sq_of ha, rfl, by simp [flatV], by rw [List.getElem?_map, h1]; rfl, by simp [eqV], fun m z' hm hz => ?_, k _ _ (.int _) h3⟩
    rw [List.getElem?_map] at hz
    cases e : ns[m]? with
    | none => rw [e] at hz; cases hz
    | some y' =>
      rw [e] at hz
      cases hz
      have ne : y' ≠ _ := fun e2 => h2 m hm (by rw [e, e2])
      simpa [eqV] using ne
  · exact hf.elim
/-! xs[i], xs a list or a tuple -/
def fIxQ : D → D → (RS → Prop) → Prop
  | .lst xs, .int i, q => ∃ d, atI xs i = some d ∧ q (.val d)
  | .tup xs, .int i, q => ∃ d, atI xs i = some d ∧ q (.val d)
  | _, _, _ => False
theorem od_ixQ : OpD K (rIx K) fIxQ := fun B F H σ γ x y d e Q q R rx ry hf k => by
  unfold fIxQ at hf
  split at hf
  · exact .inl (od_ixL B F H σ γ x y _ _ Q q R rx ry hf k)
  · exact .inr (.inl (od_ixT B F H σ γ x y _ _ Q q R rx ry hf k))
  · exact hf.elim
def dBits (de : DE) (γ : Env) (q : RS → Env → Prop) : Prop := de γ fun s γ1 => match s.data with
  | .int i => q (.val (.int (Builtin.Int.intBits i : Nat))) γ1
  | _ => False
end
section
variable {X : Cx} {B : Bs} {e o c : Expr} {te : TE} {de : DE} {ta : TA} {da : DA} {es : List Expr}
theorem x_rd {r : V → List V → Hp → VK → Prop} {f : List D → List D → (D → Prop) → Prop} (pe : PE X o te → PA X es ta → PE X c (tBM X.K "list" r te ta)) (hd : RdD X.K r f) (ho : XE X B o te de) (h : XA X B es ta da) : XE X B c (tBM X.K "list" r te ta) (dRd f de da) := ⟨pe ho.pe h.pa, se_rd hd ho.se h.sa⟩
theorem x_bits {apos pos : Pos} (ho : XE X B o te de) (hbase : attributeBase o "bit_length" X.env (eval o X.env) = eval o X.env := by rfl) (hline : (apos.endLine == pos.line) = true := by rfl) : XE X B (.Call (.Attribute o "bit_length" apos) [] [] pos) (tBits te) (dBits de) := ⟨pe_bits ho.pe hbase hline, fun F H σ γ Q q R hq k => by
  refine ho.se F H σ γ _ _ R hq fun x F1 H1 γ1 s R1 e1 o1 h1 => ?_
  split at h1
  · rename_i i es
    have r := o1.rs R1
    rw [es] at r
    exact ⟨i, r.int, k _ F1 H1 γ1 (.val _) R1 e1 (.int _) h1⟩
  · exact h1.elim⟩
end
/-- the j-th statement of a class -/
def methOf (j : Nat) : Stmt → Stmt
  | .ClassDef (body := ss) .. => ss.getD j (.Pass ⟨0, 0, 0, 0⟩)
  | st => st
/-! ### helpers that are called inside an except suite -/
section
variable {K : PySem.W.Frag} {F0 H : Hp} {m : List Addr} {z : ZN H} {vs : List V} {as : List Sx} {p : RS → List Sx → Prop} {Q : VK}
theorem entry_ends (R0 : Rep K (entry F0 H m z vs) F0 H (vs.map some) as) (hq : ∀ r as' v F' H', p r as' → Rep K (entry F0 H m z vs) F' H' (vs.map some) as' → RsOk K (entry F0 H m z vs) F' H' (vs.map some) as' v r → r.kept → Q v H') :
    EndsOk K (entry F0 H m z vs) F0 { nx := fun _ H' => Q .non H', rt := Q } (endsOf as p) := by
  refine ⟨fun F' H' σ' γ' R' _ h1 => ?_, fun F' H' σ' γ' v r R' _ o ⟨hk, h1⟩ => ?_, fun _ _ _ _ _ _ z => z, fun _ _ _ _ _ _ z => z⟩
  · obtain ⟨zs, ho, hp⟩ := outP h1
    exact hq (.val .non) zs .non F' H' hp (R0.outs R' ho) .non trivial
  · obtain ⟨zs, ho, hp⟩ := outP h1
    have R2 := R0.outs R' ho
    refine hq r zs v F' H' hp R2 ?_ hk
    cases r with
    | val d => exact o
    | own j c => exact hk.elim
    | new c =>
      obtain ⟨a, rfl, N⟩ := o
      refine ⟨a, rfl, N.fa, N.ok, N.bn, N.bm, fun i p' c' h1 h2 => ?_⟩
      obtain ⟨_, ok⟩ := R2.ownObj h1 h2
      have e1 : H a = none := N.bn
      obtain ⟨_, h3⟩ := outs_get ho
      rcases h3 i _ h1 with ⟨p2, c0, c2, e2, _, _⟩ | ⟨_, n2⟩
      · obtain ⟨_, ok2⟩ := R0.ownObj e2 h2
        obtain ⟨o, ho, _⟩ := ok2.obj
        rw [e1] at ho; cases ho
      · exact n2 p' c' rfl
end
theorem fn_okH {P : Program} {w : World} {K : PySem.W.Frag} {mg : Str → Option Value} {base : Heap} {x qual : Str} {st : Stmt} {f : Addr} {fd : FuncData} {N ps : List Str} {k n : Nat} {fs : FS} {ds : DS} (F : Fun K x qual st f fd) (S : FnScope N ps (defScope st)) (hn : ps.length = n) (hN : n ≤ N.length)
    (body : ∀ (B : Bs) (cd : Value) (A : Around) (o : List PySem.Env) (s : Shared) (H : Hp) (E : XK) (p : Addr × Obj), Hot1 A p → RoomH k (A.deeper (envOfC qual (defScope st) s.heap.objs.size f cd)) → ∃ ts, XSs (cxH CX0 P w K mg base N qual (defScope st) f cd A o s H E p) B (defBody st) ts ds)
    (h : ∀ as p, as.length = n → fs as p → ds (endsOf as p) (startG N.length as)) : FnH P w K mg base CX0 (k + 1) f fd ps (spOf K n fs) := by
  obtain ⟨_, _, _, _, _, _, cd, _, _, e, lk, hc⟩ := F.ex
  subst e
  refine fn_ofH lk hc S (fun vs H Q E h => h.1.trans hn.symm) fun A o s H vs Q E pp hot hr ⟨hl, F0, m, z, as, p, R0, hf, hq⟩ => ?_
  have ha : as.length = n := by have := R0.len; rw [List.length_map] at this; omega
  obtain ⟨ts, b⟩ := body (entry F0 H m z vs) cd A o s H E pp hot hr
  exact ⟨ts, b.ps, b.ss F0 H _ _ _ (endsOf as p) (R0.start (by rw [hl]; exact hN)) (h as p ha hf) (entry_ends R0 hq)⟩
theorem hot_su {X : Cx} {a : Addr} {oe : Obj} {cls : Value} {d : Option Addr} {pn : List (Addr × Obj)} (hz : L2N.Zn cls d oe) (hf : ∃ vs, oe.data = .fields vs) : HotC (X.suite a ((a, oe) :: pn)) := by
  obtain ⟨vs, hv⟩ := hf
  exact ⟨(a, oe), ⟨rfl, vs, hv, hz.2.2 vs hv⟩, List.mem_cons_self⟩
theorem x_callH {X : Cx} {B : Bs} {a : Expr} {es : List Expr} {ta : TA} {da : DA} {k n : Nat} {f : Addr} {fd : FuncData} {ps : List Str} {fs : FS} {x : Str} {p pos : Pos} (K : PySem.W.Frag) (hK : X.K = K) (hc : HotC X) (G : FnH X.prog X.w X.K X.mg X.base CX0 k f fd ps (spOf X.K n fs)) (hr : RoomH k X.A) (hm : X.mg x = some (.ref f)) (hk : PySem.W.keepIn X.K (.ref f) = true) (hb : Binds X.K fd ps []) (h : XA X B (a :: es) ta da)
    (hg : Gl X x := by rfl) (hdb : (x == ("__debug__" : Str)) = false := by decide) (he : starEach (a :: es) X.env = (false, eval a X.env) :: starEach es X.env := by rfl) (hpl : (backTo pos (starEach es X.env)).any (·.1) = false := by rfl) :
    XE X B (.Call (.Name x p) (a :: es) [] pos) (tCallS (spOf K n fs) (fun _ => E0) ta) (dCall n fs [] da) := by
  subst hK
  refine ⟨pe_callH G hr hc hg hm hk hb (fun _ _ _ _ _ _ _ z => z.elim) h.pa hdb he hpl, fun F H σ γ Q q R hq kk => ?_⟩
  have z := (se_call (n := n) (fs := fs) (E := E0) h.sa (od := .nil)) F H σ γ Q q R hq kk
  have z' : ta σ H fun vs H1 => spOf X.K n fs (vs ++ []) H1 Q E0 := z
  simp only [List.append_nil] at z'
  exact z'
end DL

set_option Elab.async false
set_option linter.all false
set_option maxRecDepth 100000
set_option maxHeartbeats 2000000
namespace DL
open PySem PySem.Spec PyProof.Rows L2
open Evl (Ex ex_l ex_t)
/-! ### f(..), what is owned lent; the answer is flat, or a new list of flat things -/
def lendR : RS → (RS → Prop) → Prop
  | .val d, q => flatD d ∧ q (.val d)
  | .new (.lst ds), q => flatAll ds ∧ q (.new (.lst ds))
  | _, _ => False
def dCallL (n : Nat) (fs : FS) (da : DA) (γ : Env) (q : RS → Env → Prop) : Prop := da γ fun rs γ1 => noNew rs ∧ rs.length = n ∧ fs (rs.map fun r => Sx.val r.data) fun r _ => lendR r fun r => q r γ1
def dCallLX (n : Nat) (fs : FSX) (da : DA) (γ : Env) (q : RS → Env → Prop) : Prop := da γ fun rs γ1 => noNew rs ∧ rs.length = n ∧ fs (rs.map fun r => Sx.val r.data) (fun r _ => lendR r fun r => q r γ1) fun _ _ _ => False
section
variable {K : PySem.W.Frag} {B : Bs} {F1 H1 : Hp} {σ : L2.St} {γ1 : Env} {vs : List V} {rs : List RS}
theorem lend_entry (R1 : Rep K B F1 H1 σ γ1) (o1 : Paired (RsOk K B F1 H1 σ γ1) vs rs) (h0 : noNew rs) : ∃ F2, Rep K (entry F2 H1 [] R1.zn vs) F2 H1 (vs.map some) (rs.map fun r => Sx.val r.data) := by
  obtain ⟨F2, e2, e3, ra⟩ := R1.lend (lent o1 h0)
  refine ⟨F2, ?_⟩
  have e0 : (rs.map fun r => Sx.val r.data) = (rs.map RS.data).map Sx.val := by rw [List.map_map]; rfl
  rw [e0]
  have none : ∀ {i : Nat} {p : Option Nat} {c : OC}, ((rs.map RS.data).map Sx.val)[i]? ≠ some (.own p c) := fun {i p c} h => by
    rw [List.getElem?_map] at h
    cases q : (rs.map RS.data)[i]? with
    | none => rw [q] at h; cases h
    | some d => rw [q] at h; cases h
  refine ⟨e3, by rw [List.length_map, List.length_map, P_len ra.p], fun i s t hs hg => ?_, fun i j a p c q c' h1 => absurd h1 none, fun b o e => ⟨fun _ => e, o, e⟩, Evl.Ex.refl F2, fun b o _ _ => rfl, fun i a p c h1 => absurd h1 none, fun i a p c h1 => absurd h1 none, fun b o e => ⟨o, e⟩, fun a o e => ⟨o, e, .refl o⟩⟩
  rw [List.getElem?_map] at hs hg
  cases q : (rs.map RS.data)[i]? with
  | none => rw [q] at hg; cases hg
  | some d =>
    rw [q] at hg
    cases hg
    obtain ⟨v, hv, r⟩ := P_get ra.p q
    rw [hv] at hs
    exact ⟨v, (Option.some.inj hs).symm, r⟩
theorem lend_exit (R1 : Rep K B F1 H1 σ γ1) {F2 F3 H3 : Hp} {as' : List Sx} {v : V} {r : RS} {Q : VK} {q : RS → Env → Prop} (R3 : Rep K (entry F2 H1 [] R1.zn vs) F3 H3 (vs.map some) as') (ok : RsOk K (entry F2 H1 [] R1.zn vs) F3 H3 (vs.map some) as' v r) (hp : lendR r fun r => q r γ1)
    (k : ∀ v F' H' γ' s, Rep K B F' H' σ γ' → Ex F1 F' → RsOk K B F' H' σ γ' v s → q s γ' → Q v H') : Q v H3 := by
  have eH : Ex H1 H3 := fun b o e => (R3.b1 b o e).1 (by simp [entry])
  unfold lendR at hp
  split at hp
  · rename_i d
    refine k v F1 H3 γ1 (.val d) (R1.grow eH) (Evl.Ex.refl F1) ?_ hp.2
    have ok' : Rp (B.kz K) F3 v d := ok
    show Rp (B.kz K) F1 v d
    have hf := hp.1
    cases ok' with
    | non => exact .non
    | bl b => exact .bl b
    | int i => exact .int i
    | str x => exact .str x
    | _ => exact hf.elim
  · rename_i ds
    obtain ⟨a, ea, N⟩ := ok
    obtain ⟨ws, hl, hr⟩ := N.ok
    have ha : H1 a = none := N.bn
    obtain ⟨f1, f2, f3, f4⟩ := R1.fresh ha
    exact k v F1 H3 γ1 (.new (.lst ds)) (R1.grow eH) (Evl.Ex.refl F1) ⟨a, ea, f1, ⟨ws, hl, flat_rp hr hp.1⟩, f3, .inr f2, f4⟩ hp.2
  · exact hp.elim
theorem se_callL {n : Nat} {fs : FS} {E : XK} {ta : TA} {da : DA} (h : SA K B ta da) : SE K B (tCall (spOf K n fs) [] E ta) (dCallL n fs da) := fun F H σ γ Q q R hq k => by
  refine h F H σ γ _ _ R hq fun vs F1 H1 γ1 rs R1 e1 o1 ⟨h0, h2, h3⟩ => ?_
  obtain ⟨F2, RE⟩ := lend_entry R1 o1 h0
  rw [List.append_nil]
  exact ⟨by rw [P_len o1]; exact h2, F2, [], _, _, _, RE, h3, fun r as' v F3 H3 hp R3 ok hk => lend_exit R1 R3 ok hp fun v F' H' γ' s R' e' o' hq => k v F' H' γ' s R' (e1.trans e') o' hq⟩
theorem se_callLX {ct : Nat → Addr} {n : Nat} {fs : FSX} {ta : TA} {da : DA} (h : SA K B ta da) : SE K B (tCall (spOfX K ct n fs) [] E0 ta) (dCallLX n fs da) := fun F H σ γ Q q R hq k => by
  refine h F H σ γ _ _ R hq fun vs F1 H1 γ1 rs R1 e1 o1 ⟨h0, h2, h3⟩ => ?_
  obtain ⟨F2, RE⟩ := lend_entry R1 o1 h0
  rw [List.append_nil]
  exact ⟨by rw [P_len o1]; exact h2, F2, [], _, _, _, _, RE, h3, fun r as' v F3 H3 hp R3 ok hk => lend_exit R1 R3 ok hp fun v F' H' γ' s R' e' o' hq => k v F' H' γ' s R' (e1.trans e') o' hq, fun _ _ _ _ _ _ z _ _ => z.elim⟩
end
section
variable {X : Cx} {B : Bs} {a : Expr} {es : List Expr} {ta : TA} {da : DA} {k n : Nat} {f : Addr} {fd : FuncData} {ps : List Str} {x : Str} {p pos : Pos}
theorem x_callL (K : PySem.W.Frag) (hK : X.K = K) {fs : FS} (G : FnOk X.prog X.w X.K X.mg X.base CX0 k f fd ps (spOf X.K n fs)) (hr : Room k X.A) (hm : X.mg x = some (.ref f)) (hk : PySem.W.keepIn X.K (.ref f) = true) (hb : Binds X.K fd ps []) (h : XA X B (a :: es) ta da)
    (hg : Gl X x := by rfl) (hdb : (x == ("__debug__" : Str)) = false := by decide) (he : starEach (a :: es) X.env = (false, eval a X.env) :: starEach es X.env := by rfl) (hpl : (backTo pos (starEach es X.env)).any (·.1) = false := by rfl) :
    XE X B (.Call (.Name x p) (a :: es) [] pos) (tCall (spOf K n fs) [] E0 ta) (dCallL n fs da) := by
  subst hK
  exact ⟨pe_call G hr hg hm hk hb .nil pass0 h.pa hdb he hpl, se_callL h.sa⟩
theorem x_callLX (K : PySem.W.Frag) (hK : X.K = K) {ct : Nat → Addr} {fs : FSX} (G : FnOk X.prog X.w X.K X.mg X.base (L2N.CX X.prog X.w) k f fd ps (spOfX X.K ct n fs)) (hr : Room k X.A) (hm : X.mg x = some (.ref f)) (hk : PySem.W.keepIn X.K (.ref f) = true) (hb : Binds X.K fd ps []) (h : XA X B (a :: es) ta da)
    (hg : Gl X x := by rfl) (hdb : (x == ("__debug__" : Str)) = false := by decide) (he : starEach (a :: es) X.env = (false, eval a X.env) :: starEach es X.env := by rfl) (hpl : (backTo pos (starEach es X.env)).any (·.1) = false := by rfl) :
    XE X B (.Call (.Name x p) (a :: es) [] pos) (tCall (spOfX K ct n fs) [] E0 ta) (dCallLX n fs da) := by
  subst hK
  exact ⟨pe_call G hr hg hm hk hb .nil passN h.pa hdb he hpl, se_callLX h.sa⟩
end
/-! ### try, its suite unread -/
def TryX (sub : Nat → Option Bool) (i : Nat) (ts : Addr → Nat → Xf → DS) (xc : DX) (d : DEnds) (nm : Nat) (fs : Xf) (γ1 : Env) : Prop := ∃ b, sub nm = some b ∧ (b = true → ∀ a, ts a nm fs { nx := fun γ2 => d.nx (put γ2 i .no), rt := d.rt, bk := fun γ2 => d.bk (put γ2 i .no), ct := fun γ2 => d.ct (put γ2 i .no) } (put γ1 i (.val (.ref a)))) ∧ (b = false → xc nm fs γ1)
theorem dTryAs_eq {sub : Nat → Option Bool} {i : Nat} {tb : DX → DS} {ts : Addr → Nat → Xf → DS} {xc : DX} {d : DEnds} {γ : Env} : dTryAs sub i tb ts xc d γ = tb (fun nm fs γ1 => TryX sub i ts xc d nm fs γ1) d γ := rfl
theorem try_in {sub : Nat → Option Bool} {i : Nat} {ts : Addr → Nat → Xf → DS} {xc : DX} {d : DEnds} {nm : Nat} {fs : Xf} {γ1 : Env} (h : sub nm = some true) (k : ∀ a, ts a nm fs { nx := fun γ2 => d.nx (put γ2 i .no), rt := d.rt, bk := fun γ2 => d.bk (put γ2 i .no), ct := fun γ2 => d.ct (put γ2 i .no) } (put γ1 i (.val (.ref a)))) : TryX sub i ts xc d nm fs γ1 := ⟨true, h, fun _ => k, fun z => by cases z⟩
theorem try_out {sub : Nat → Option Bool} {i : Nat} {ts : Addr → Nat → Xf → DS} {xc : DX} {d : DEnds} {nm : Nat} {fs : Xf} {γ1 : Env} (h : sub nm = some false) (k : xc nm fs γ1) : TryX sub i ts xc d nm fs γ1 := ⟨false, h, (fun z => by cases z), fun _ => k⟩
end DL

set_option Elab.async false
set_option linter.all false
set_option maxRecDepth 100000
set_option maxHeartbeats 2000000
namespace DL
open PySem PySem.Spec PyProof.Rows L2
open Evl (Ex ex_l ex_t)
/-! ### instances of the text's own classes -/
section
variable {K : KZ} {F H : Hp}
theorem Rs.obj {C : String} {fs : List (Str × D)} {v : V} (e : Ex F H) (h : Rs K F H v (.obj C fs)) : ∃ a dx fv, v = .ref a ∧ H a = some (.ins (ctOf K.fr C) dx fv) ∧ RpFs K F fv fs := by
  rcases h with h | ⟨a, rfl, ⟨_, _, z, _⟩ | ⟨_, dx, fv, fs', z, h1, h2, h3⟩ | ⟨_, _, z, _⟩⟩
  · cases h with
    | obj h1 h2 h3 => exact ⟨_, _, _, rfl, e _ _ h1, h3⟩
  · cases z
  · cases z; exact ⟨a, dx, fv, rfl, h1, h3⟩
  · cases z
def putD (f : Str) (v : D) : List (Str × D) → List (Str × D)
  | [] => [(f, v)]
  | (g, x) :: r => if g = f then (g, v) :: r else (g, x) :: putD f v r
theorem putD_nil {f : Str} {v : D} : putD f v [] = [(f, v)] := rfl
theorem putD_cons {f g : Str} {v x : D} {r : List (Str × D)} : putD f v ((g, x) :: r) = if g = f then (g, v) :: r else (g, x) :: putD f v r := rfl
theorem put_rp {f : Str} {v : V} {d : D} (r : Rp K F v d) : ∀ {fv : List (Str × V)} {fs : List (Str × D)}, RpFs K F fv fs → RpFs K F (putF f v fv) (putD f d fs)
  | _, _, .nil => .cons r .nil
  | _, _, @RpFs.cons _ _ g x vs y ds r1 t => by
    unfold putF putD
    by_cases e : g = f
    · rw [if_pos e, if_pos e]; exact .cons r t
    · rw [if_neg e, if_neg e]; exact .cons r1 (put_rp r t)
theorem fs_len : ∀ {fv : List (Str × V)} {fs : List (Str × D)}, RpFs K F fv fs → fv.length = fs.length
  | _, _, .nil => rfl
  | _, _, .cons _ t => by rw [List.length_cons, List.length_cons, fs_len t]
theorem fs_none {n : Str} : ∀ {fv : List (Str × V)} {fs : List (Str × D)}, RpFs K F fv fs → fs.lookup n = none → fv.lookup n = none
  | _, _, .nil, h => rfl
  | _, _, @RpFs.cons _ _ m v vs d ds r t, h => by
    by_cases e : n = m
    · subst e
      simp [List.lookup] at h
    · have e' : (n == m) = false := by simpa using e
      simp only [List.lookup, e'] at h ⊢
      exact fs_none t h
end
/-- class, attribute: a plain attribute -/
abbrev FT := String → Str → Bool
def FtOk (K : PySem.W.Frag) (tab : FT) : Prop := ∀ C f, tab C f = true → Cls K (ctOf K C) ∧ NoAttr K (ctOf K C) f
def fFld (tab : FT) (f : Str) : D → (RS → Prop) → Prop
  | .obj C fs, q => tab C f = true ∧ ∃ d, fs.lookup f = some d ∧ q (.val d)
  | _, _ => False
def rFld (K : PySem.W.Frag) (f : Str) : V → Hp → VK → Prop := fun x H Q => ∃ a C dx fs v, x = .ref a ∧ H a = some (.ins C dx fs) ∧ Cls K C ∧ NoAttr K C f ∧ fs.lookup f = some v ∧ Q v H
theorem ud_fld {K : PySem.W.Frag} {tab : FT} {f : Str} (ht : FtOk K tab) : UnD K (rFld K f) (fFld tab f) := fun B F H σ γ x d Q q R rx hf k => by
  unfold fFld at hf
  split at hf
  · rename_i C fs
    obtain ⟨h1, d, hd, hq⟩ := hf
    obtain ⟨a, dx, fv, rfl, h2, h3⟩ := rx.obj R.fh
    obtain ⟨v, hv, r⟩ := fs_get h3 hd
    obtain ⟨c, n⟩ := ht C f h1
    exact ⟨a, _, dx, fv, v, rfl, h2, c, n, hv, vk R k r hq⟩
  · exact hf.elim
theorem x_fld {X : Cx} {B : Bs} {e : Expr} {te : TE} {de : DE} {tab : FT} {pos : Pos} (f : Str) (ht : FtOk X.K tab) (h : XE X B e te de) (hb : attributeBase e f X.env (eval e X.env) = eval e X.env := by rfl) : XE X B (.Attribute e f pos) (tFld X.K te f) (d1 (fFld tab f) de) := ⟨pe_fld h.pe hb, se_un (ud_fld ht) h.se⟩
section
variable {K : PySem.W.Frag} {B : Bs} {F F' H H' : Hp} {σ : L2.St} {γ : Env}
/-- the instance in slot j is written anew -/
theorem Rep.writeI (R : Rep K B F H σ γ) {j : Nat} {p : Option Nat} {C : String} {fs fs' : List (Str × D)} {a dx : Addr} {fv fv' : List (Str × V)} (hl : look γ j = .own p (.ins C fs)) (hs : σ[j]? = some (some (.ref a))) (ha : H a = some (.ins (ctOf K C) dx fv)) (r : RpFs (B.kz K) F fv' fs') :
    Rep K B F (upd H a (.ins (ctOf K C) dx fv')) σ (put γ j (.own p (.ins C fs'))) := by
  obtain ⟨a', hs', hg, fa, ok⟩ := R.own hl
  obtain rfl : a = a' := by rw [hs] at hs'; cases hs'; rfl
  have ne_own : ∀ {b x : Addr}, H b = some (.own x) → b ≠ a := fun h e => by
    subst e
    rw [ha] at h; cases h
  have key : ∀ {i : Nat} {q : Option Nat} {c : OC}, (put γ j (.own p (.ins C fs')))[i]? = some (.own q c) → ∃ c0, γ[i]? = some (.own q c0) ∧ ((i = j ∧ c = .ins C fs') ∨ (i ≠ j ∧ c0 = c)) := fun h => by
    rcases get_put h with ⟨rfl, e⟩ | ⟨n, e⟩
    · injection e with e1 e2
      subst e1; subst e2
      exact ⟨_, hg, .inl ⟨rfl, rfl⟩⟩
    · exact ⟨_, e, .inr ⟨n, rfl⟩⟩
  refine ⟨fun b o e => ?_, by rw [put_len]; exact R.len, fun i s t h1 h2 => ?_, fun i i' b q c q' c' h1 h2 h3 h4 => ?_, fun b o e => ?_, R.b2, R.b3, fun i b q c h1 h2 => ?_, fun i b q c h1 h2 => ?_, fun b o e => ?_, fun b o e => ?_⟩
  · have n : b ≠ a := fun z => by subst z; rw [fa] at e; cases e
    rw [upd_ne n]; exact R.fh b o e
  · rcases get_put h2 with ⟨rfl, rfl⟩ | ⟨n, e⟩
    · rw [hs] at h1; cases h1
      obtain ⟨dx', fv0, q1, q2, q3, q4, q5, q6⟩ := ok
      rw [ha] at q1
      cases q1
      exact ⟨a, rfl, fa, dx, fv', upd_same, (upd_ne (ne_own q2)).trans q2, q3, q4, q5, r⟩
    · have q := R.sl i s t h1 e
      cases t with
      | no => trivial
      | val d => exact q
      | own q' c =>
        obtain ⟨b, e', f, ok'⟩ := q
        subst e'
        have nb : b ≠ a := fun z => by subst z; exact n (R.nd i j b q' c p (.ins C fs) e hg h1 hs)
        exact ⟨b, rfl, f, ok'.heap (upd_ne nb) fun dx hd => upd_ne (ne_own hd)⟩
  · obtain ⟨_, y1, _⟩ := key h1
    obtain ⟨_, y2, _⟩ := key h2
    exact R.nd i i' b q _ q' _ y1 y2 h3 h4
  · obtain ⟨x1, o', x2⟩ := R.b1 b o e
    by_cases hb : b = a
    · subst hb
      rw [upd_same]
      refine ⟨fun n => ?_, _, rfl⟩
      rcases R.b5 j b p _ hg hs with z | z
      · exact absurd z n
      · rw [e] at z; cases z
    · rw [upd_ne hb]; exact ⟨x1, o', x2⟩
  · obtain ⟨_, y1, _⟩ := key h1
    exact R.b4 i b q _ y1 h2
  · obtain ⟨_, y1, _⟩ := key h1
    exact R.b5 i b q _ y1 h2
  · obtain ⟨o', x2⟩ := R.bN b o e
    by_cases hb : b = a
    · subst hb; exact ⟨_, upd_same⟩
    · rw [upd_ne hb]; exact ⟨o', x2⟩
  · obtain ⟨o', x2, kn⟩ := R.bd b o e
    by_cases hb : b = a
    · subst hb
      rw [ha] at x2
      cases x2
      exact ⟨_, upd_same, kn.trans ⟨_, rfl⟩⟩
    · rw [upd_ne hb]; exact ⟨o', x2, kn⟩
theorem kept_rp {v : V} {s : RS} (o : RsOk K B F H σ γ v s.fz) (hk : s.kept) : Rp (B.kz K) F v s.data := by
  cases s with
  | val x => exact o
  | new c => exact o
  | own j c => exact hk.elim
end
/-- name.f = e -/
def dSetF (tab : FT) (j : Nat) (f : Str) (de : DE) (d : DEnds) (γ : Env) : Prop := de γ fun s γ1 => s.kept ∧ match look γ1 j with
  | .own p (.ins C fs) => tab C f = true ∧ fs.length < 1000 ∧ d.nx (put γ1 j (.own p (.ins C (putD f s.data fs))))
  | _ => False
def dAugF (tab : FT) (j : Nat) (f : Str) (g : Int → Int → Int) (de : DE) (d : DEnds) (γ : Env) : Prop := match look γ j with
  | .own _ (.ins C fs) => tab C f = true ∧ ∃ i, fs.lookup f = some (.int i) ∧ de γ fun s γ1 => match s.data, look γ1 j with
    | .int k, .own p (.ins C' fs') => C' = C ∧ fs'.length < 1000 ∧ d.nx (put γ1 j (.own p (.ins C (putD f (.int (g i k)) fs'))))
    | _, _ => False
  | _ => False
section
variable {X : Cx} {B : Bs} {e : Expr} {te : TE} {de : DE} {tab : FT} {pos pos' p3 : Pos}
theorem s_setF (j : Nat) (f : Str) {o : Str} (ht : FtOk X.K tab) (he : XE X B e te de) (hN : X.N[j]? = some o := by rfl) (hv : Vis X.env.scope o := by first | exact Or.inl rfl | exact Or.inr (Or.inl rfl) | exact Or.inr (Or.inr rfl)) (hd : (o == ("__debug__" : Str)) = false := by decide) (hcd : (o == ("__classdict__" : Str)) = false := by decide)
    (hs : swapsWith e (some (.Attribute (.Name o p3) f pos')) pos.line X.env = pure false := by rfl) : XS X B (.Assign [.Attribute (.Name o p3) f pos'] e pos) (sFld X.K (tVar j) te f) (dSetF tab j f de) := ⟨ps_fld (pe_var hN hv hd hcd) he.pe hs, fun F H σ γ E d R hq k => by
  refine he.se F H σ γ _ _ R hq fun v F1 H1 γ1 s R1 e1 o1 ⟨hk, q⟩ => ?_
  obtain ⟨F2, R2, e2, o2⟩ := o1.fz R1
  split at q
  · rename_i p C fs hl
    obtain ⟨a, hs, hg, fa, dx, fv, ha, q2, q3, q4, q5, q6⟩ := R2.own hl
    obtain ⟨c, n⟩ := ht C f q.1
    exact ⟨_, hs, a, _, dx, fv, rfl, ha, c, n, by rw [fs_len q6]; exact q.2.1, k.nx F2 _ σ _ (R2.writeI hl hs ha (put_rp (kept_rp o2 hk) q6)) (e1.trans e2) q.2.2⟩
  · exact q.elim⟩
theorem s_augF (j : Nat) (f : Str) {o : Str} {op : Operator} {g : Int → Int → Int} {rd : V → V → Hp → VK → Prop} (ht : FtOk X.K tab) (he : XE X B e te de) (hop : InOp X op rd) (hrd : ∀ i k H Q, Q (.int (g i k)) H → rd (.int i) (.int k) H Q) (hN : X.N[j]? = some o := by rfl) (hv : Vis X.env.scope o := by first | exact Or.inl rfl | exact Or.inr (Or.inl rfl) | exact Or.inr (Or.inr rfl)) (hd : (o == ("__debug__" : Str)) = false := by decide) (hcd : (o == ("__classdict__" : Str)) = false := by decide) :
    XS X B (.AugAssign (.Attribute (.Name o p3) f pos') op e pos) (sFldAug X.K (tVar j) te rd f) (dAugF tab j f g de) := ⟨ps_fldaug (pe_var hN hv hd hcd) he.pe hop, fun F H σ γ E d R hq k => by
  unfold dAugF at hq
  split at hq
  · rename_i p C fs hl
    obtain ⟨h1, i, hi, hq⟩ := hq
    obtain ⟨a, hs, hg, fa, dx, fv, ha, q2, q3, q4, q5, q6⟩ := R.own hl
    obtain ⟨c, n⟩ := ht C f h1
    obtain ⟨u, hu, ru⟩ := fs_get q6 hi
    cases ru
    refine ⟨_, hs, a, _, dx, fv, _, rfl, ha, c, n, hu, ?_⟩
    refine he.se F H σ γ _ _ R hq fun v F1 H1 γ1 s R1 e1 o1 q => ?_
    split at q
    · rename_i kk p' C' fs' es hl'
      obtain ⟨rfl, hlen, hq⟩ := q
      have rv := o1.rs R1
      rw [es] at rv
      obtain ⟨a', hs', hg', fa', dx', fv', ha', q2', q3', q4', q5', q6'⟩ := R1.own hl'
      obtain rfl : a = a' := by rw [hs] at hs'; cases hs'; rfl
      rw [rv.int]
      exact hrd i kk _ _ ⟨dx', fv', ha', by rw [fs_len q6']; exact hlen, k.nx F1 _ σ _ (R1.writeI hl' hs ha' (put_rp (.int _) q6')) e1 hq⟩
    · exact q.elim
  · exact hq.elim⟩
end
/-- C(..) -/
def dMake (C : String) (n : Nat) (fs : FS) (dds : List D) (da : DA) (γ : Env) (q : RS → Env → Prop) : Prop := da γ fun rs γ1 => allV rs ∧ rs.length + dds.length + 1 = n ∧
  fs (.own (some 0) (.ins C []) :: ((rs.map RS.data).map Sx.val ++ dds.map Sx.val)) fun r as' => r = .val .non ∧ match as' with
    | .own _ (.ins C' fs') :: _ => C' = C ∧ q (.new (.ins C fs')) γ1
    | _ => False
section
variable {K : PySem.W.Frag} {B : Bs} {F1 H1 : Hp} {σ : L2.St} {γ1 : Env} {vs : List V} {ds : List D}
theorem make_entry {C : String} {x dx : Addr} (fh : Ex F1 H1) (ra : RpAll (B.kz K) F1 vs ds) (hx : H1 x = none) (hdx : H1 dx = none) (ne : dx ≠ x) (Z : ZN (upd (upd H1 dx (.own x)) x (.ins (ctOf K C) dx []))) (hZ : Z.1 = B.z) :
    Rep K (entry F1 (upd (upd H1 dx (.own x)) x (.ins (ctOf K C) dx [])) [x, dx] Z (.ref x :: vs)) F1 (upd (upd H1 dx (.own x)) x (.ins (ctOf K C) dx [])) ((V.ref x :: vs).map some) (.own (some 0) (.ins C []) :: ds.map Sx.val) := by
  have one : ∀ {i : Nat} {p : Option Nat} {c : OC}, (Sx.own (some 0) (.ins C []) :: ds.map Sx.val)[i]? = some (.own p c) → i = 0 ∧ p = some 0 ∧ c = .ins C [] := fun {i p c} h => by
    cases i with
    | zero => simp at h; exact ⟨rfl, h.1.symm, h.2.symm⟩
    | succ i =>
      simp only [List.getElem?_cons_succ, List.getElem?_map] at h
      cases q : ds[i]? with
      | none => rw [q] at h; cases h
      | some d => rw [q] at h; cases h
  have fx : F1 x = none := by
    cases e : F1 x with
    | none => rfl
    | some o => have := fh _ _ e; rw [hx] at this; cases this
  have fdx : F1 dx = none := by
    cases e : F1 dx with
    | none => rfl
    | some o => have := fh _ _ e; rw [hdx] at this; cases this
  refine ⟨fun b o e => ?_, by rw [List.length_map, List.length_cons, List.length_cons, List.length_map, P_len ra.p], fun i s t hs hg => ?_, fun i j a p c q c' h1 h2 h3 h4 => ?_, fun b o e => ⟨fun _ => e, o, e⟩, Evl.Ex.refl F1, fun b o _ _ => rfl, fun i a p c h1 h2 => ?_, fun i a p c h1 h2 => ?_, fun b o e => ⟨o, e⟩, fun a o e => ⟨o, e, .refl o⟩⟩
  · have n1 : b ≠ x := fun z => by subst z; rw [fx] at e; cases e
    have n2 : b ≠ dx := fun z => by subst z; rw [fdx] at e; cases e
    rw [upd_ne n1, upd_ne n2]; exact fh b o e
  · cases i with
    | zero =>
      simp at hs hg
      subst hs; subst hg
      refine ⟨x, rfl, fx, dx, [], upd_same, by rw [upd_ne ne]; exact upd_same, fdx, fun z => ?_, .inl (by show dx ∈ [x, dx]; simp), .nil⟩
      exact absurd (show (upd (upd H1 dx (.own x)) x (.ins (ctOf K C) dx [])) x = none from z) (by rw [upd_same]; simp)
    | succ i =>
      simp only [List.map_cons, List.getElem?_cons_succ, List.getElem?_map] at hs hg
      cases q : ds[i]? with
      | none => rw [q] at hg; cases hg
      | some d =>
        rw [q] at hg
        cases hg
        obtain ⟨v, hv, r⟩ := P_get ra.p q
        rw [hv] at hs
        refine ⟨v, (Option.some.inj hs).symm, ?_⟩
        have e : (entry F1 (upd (upd H1 dx (.own x)) x (.ins (ctOf K C) dx [])) [x, dx] Z (.ref x :: vs)).kz K = B.kz K := by
          show (⟨K, Z.1⟩ : KZ) = ⟨K, B.z⟩
          rw [hZ]
        rw [e]
        exact r
  · obtain ⟨rfl, _⟩ := one h1
    obtain ⟨rfl, _⟩ := one h2
    rfl
  · obtain ⟨rfl, rfl, rfl⟩ := one h1
    simp at h2
    subst h2
    exact ⟨fun k hk => by cases hk; rfl, fun z => by cases z⟩
  · obtain ⟨rfl, rfl, rfl⟩ := one h1
    simp at h2
    subst h2
    exact .inl (by show x ∈ [x, dx]; simp)
/-- later: the heap has grown, more stays -/
theorem Rep.later (R1 : Rep K B F1 H1 σ γ1) {F3 H3 : Hp} (fh : Ex F3 H3) (eH : Ex H1 H3) (eF : Ex F1 F3) (sF : ∀ b o, H1 b = some o → F3 b = F1 b) : Rep K B F3 H3 σ γ1 := by
  have R2 := R1.grow eH
  refine ⟨fh, R2.len, fun i s t hs hg => ?_, R2.nd, R2.b1, R2.b2.trans eF, fun b o e n => ?_, R2.b4, R2.b5, R2.bN, R2.bd⟩
  · have q1 := R1.sl i s t hs hg
    cases t with
    | no => trivial
    | val d => obtain ⟨v, e, r⟩ := q1; exact ⟨v, e, r.mono eF⟩
    | own p c =>
      obtain ⟨a, e, f, ok⟩ := q1
      subst e
      obtain ⟨o, ho, _⟩ := ok.obj
      refine ⟨a, rfl, (sF a o ho).trans f, ?_⟩
      cases c with
      | lst ds => obtain ⟨vs, h1, h2⟩ := ok; exact ⟨vs, eH _ _ h1, h2.mono eF⟩
      | dct ds => obtain ⟨vs, h1, h2⟩ := ok; exact ⟨vs, eH _ _ h1, h2.mono eF⟩
      | ins C fs => obtain ⟨dx, fv, h1, h2, h3, h4, h5, h6⟩ := ok; exact ⟨dx, fv, eH _ _ h1, eH _ _ h2, (sF dx _ h2).trans h3, h4, h5, h6.mono eF⟩
  · obtain ⟨_, o2, e2⟩ := R1.b1 b o e
    exact (sF b o2 e2).trans (R1.b3 b o e n)
theorem make_exit {C : String} {x dx : Addr} {p : Option Nat} {fs' : List (Str × D)} {rest : List Sx} {F3 H3 : Hp} (R1 : Rep K B F1 H1 σ γ1) (hx : H1 x = none) (hdx : H1 dx = none) (ne : dx ≠ x) {Z : ZN (upd (upd H1 dx (.own x)) x (.ins (ctOf K C) dx []))} (hZ : Z.1 = B.z)
    (R3 : Rep K (entry F1 (upd (upd H1 dx (.own x)) x (.ins (ctOf K C) dx [])) [x, dx] Z (.ref x :: vs)) F3 H3 ((V.ref x :: vs).map some) (.own p (.ins C fs') :: rest)) :
    Rep K B F3 H3 σ γ1 ∧ Ex F1 F3 ∧ RsOk K B F3 H3 σ γ1 (.ref x) (.new (.ins C fs')) := by
  have h2 : ∀ b o, H1 b = some o → (upd (upd H1 dx (.own x)) x (.ins (ctOf K C) dx [])) b = some o ∧ b ∉ [x, dx] := fun b o e => by
    have n1 : b ≠ x := fun z => by subst z; rw [hx] at e; cases e
    have n2 : b ≠ dx := fun z => by subst z; rw [hdx] at e; cases e
    exact ⟨by rw [upd_ne n1, upd_ne n2]; exact e, by simp [n1, n2]⟩
  have eH : Ex H1 H3 := fun b o e => (R3.b1 b o (h2 b o e).1).1 (h2 b o e).2
  have sF : ∀ b o, H1 b = some o → F3 b = F1 b := fun b o e => R3.b3 b o (h2 b o e).1 (h2 b o e).2
  have R4 := R1.later R3.fh eH R3.b2 sF
  refine ⟨R4, R3.b2, x, rfl, ?_⟩
  obtain ⟨a, ea, fa, dx', fv, q1, q2, q3, q4, q5, q6⟩ := R3.sl 0 _ _ rfl rfl
  cases ea
  obtain ⟨o', g1, fs2, g2⟩ := R3.bd x _ (show (entry F1 (upd (upd H1 dx (.own x)) x (.ins (ctOf K C) dx [])) [x, dx] Z (.ref x :: vs)).H x = some (.ins (ctOf K C) dx []) from upd_same)
  subst g2
  rw [g1] at q1
  cases q1
  obtain ⟨f1, f2, f3, f4⟩ := R1.fresh hx
  obtain ⟨d1, d2, d3, d4⟩ := R1.fresh hdx
  refine ⟨fa, ⟨dx, fv, g1, q2, q3, fun _ => d3, .inr d2, ?_⟩, f3, .inr f2, f4⟩
  have e : (entry F1 (upd (upd H1 dx (.own x)) x (.ins (ctOf K C) dx [])) [x, dx] Z (.ref x :: vs)).kz K = B.kz K := by
    show (⟨K, Z.1⟩ : KZ) = ⟨K, B.z⟩
    rw [hZ]
  rw [e] at q6
  exact q6
theorem se_make {C : String} {n : Nat} {fs : FS} {dvs : List V} {dds : List D} {E : XK} {ta : TA} {da : DA} (h : SA K B ta da) (od : Paired (fun v d => ∀ z F, Rp ⟨K, z⟩ F v d) dvs dds) : SE K B (tMake (ctOf K C) (spOf K n fs) dvs E ta) (dMake C n fs dds da) := fun F H σ γ Q q R hq k => by
  refine h F H σ γ _ _ R hq fun vs F1 H1 γ1 rs R1 e1 o1 ⟨h0, h2, h3⟩ x dx hx hdx ne => ?_
  have all : RpAll (B.kz K) F1 (vs ++ dvs) (rs.map RS.data ++ dds) := RpAll.of (P_app (allV_rp o1 h0).p (P_mono (fun v d z => z _ _) od))
  let Z : ZN (upd (upd H1 dx (.own x)) x (.ins (ctOf K C) dx [])) := ⟨B.z, fun a ha => by
    obtain ⟨o, e⟩ := R1.znp a ha
    have n1 : a ≠ x := fun z => by subst z; rw [hx] at e; cases e
    have n2 : a ≠ dx := fun z => by subst z; rw [hdx] at e; cases e
    exact ⟨o, by rw [upd_ne n1, upd_ne n2]; exact e⟩⟩
  have RE := make_entry (C := C) R1.fh all hx hdx ne Z rfl
  rw [List.map_append] at RE
  refine ⟨by simp only [List.length_cons, List.length_append]; rw [P_len o1, P_len od]; omega, F1, _, Z, _, _, RE, h3, fun r as' v F3 H3 ⟨hr, hp⟩ R3 ok hk => ?_⟩
  subst hr
  split at hp
  · rename_i p C' fs' rest
    obtain ⟨rfl, hp⟩ := hp
    obtain ⟨R4, e4, o4⟩ := make_exit R1 hx hdx ne rfl R3
    have ok' : Rp _ F3 v .non := ok
    cases ok'
    exact ⟨rfl, k _ F3 H3 γ1 _ R4 (e1.trans e4) o4 hp⟩
  · exact hp.elim
end
section
variable {X : Cx} {B : Bs} {a : Expr} {es : List Expr} {ta : TA} {da : DA} {k n : Nat} {C : String} {f : Addr} {fd : FuncData} {ps : List Str} {fs : FS} {x : Str} {p pos : Pos}
theorem x_make (K : PySem.W.Frag) (hK : X.K = K) (M : Mk X.K (ctOf X.K C) f) (G : FnOk X.prog X.w X.K X.mg X.base CX0 k f fd ps (spOf X.K n fs)) (hr : Room (k + 1) X.A) (hm : X.mg x = some (.ref (ctOf X.K C))) (hb : Binds X.K fd ps []) (h : XA X B (a :: es) ta da)
    (hg : Gl X x := by rfl) (hdb : (x == ("__debug__" : Str)) = false := by decide) (he : starEach (a :: es) X.env = (false, eval a X.env) :: starEach es X.env := by rfl) (hpl : (backTo pos (starEach es X.env)).any (·.1) = false := by rfl) :
    XE X B (.Call (.Name x p) (a :: es) [] pos) (tMake (ctOf K C) (spOf K n fs) [] E0 ta) (dMake C n fs [] da) := by
  subst hK
  exact ⟨pe_make M G hr hg hm hb .nil pass0 h.pa hdb he hpl, se_make h.sa .nil⟩
theorem x_makeD {dvs : List V} {dds : List D} {ds : List Value} (K : PySem.W.Frag) (hK : X.K = K) (M : Mk X.K (ctOf X.K C) f) (G : FnOk X.prog X.w X.K X.mg X.base CX0 k f fd ps (spOf X.K n fs)) (hr : Room (k + 1) X.A) (hm : X.mg x = some (.ref (ctOf X.K C))) (hb : Binds X.K fd ps ds) (hd : Vals dvs ds) (od : Paired (fun v d => ∀ z F, Rp ⟨X.K, z⟩ F v d) dvs dds) (h : XA X B (a :: es) ta da)
    (hg : Gl X x := by rfl) (hdb : (x == ("__debug__" : Str)) = false := by decide) (he : starEach (a :: es) X.env = (false, eval a X.env) :: starEach es X.env := by rfl) (hpl : (backTo pos (starEach es X.env)).any (·.1) = false := by rfl) :
    XE X B (.Call (.Name x p) (a :: es) [] pos) (tMake (ctOf K C) (spOf K n fs) dvs E0 ta) (dMake C n fs dds da) := by
  subst hK
  exact ⟨pe_make M G hr hg hm hb hd pass0 h.pa hdb he hpl, se_make h.sa od⟩
theorem x_make0 {dvs : List V} {dds : List D} {ds : List Value} (K : PySem.W.Frag) (hK : X.K = K) (M : Mk X.K (ctOf X.K C) f) (G : FnOk X.prog X.w X.K X.mg X.base CX0 k f fd ps (spOf X.K n fs)) (hr : Room (k + 1) X.A) (hm : X.mg x = some (.ref (ctOf X.K C))) (hb : Binds X.K fd ps ds) (hd : Vals dvs ds) (od : Paired (fun v d => ∀ z F, Rp ⟨X.K, z⟩ F v d) dvs dds)
    (hg : Gl X x := by rfl) (hdb : (x == ("__debug__" : Str)) = false := by decide) :
    XE X B (.Call (.Name x p) [] [] pos) (tMake (ctOf K C) (spOf K n fs) dvs E0 tNil) (dMake C n fs dds dNil) := by
  subst hK
  exact ⟨pe_make0 M G hr hg hm hb hd pass0 hdb, se_make sa_nil od⟩
end
/-- a new thing that will not change -/
def dFz (de : DE) (γ : Env) (q : RS → Env → Prop) : Prop := de γ fun s γ1 => match s with
  | .new c => q (.val c.data) γ1
  | s => q s γ1
theorem x_fz {X : Cx} {B : Bs} {e : Expr} {te : TE} {de : DE} (h : XE X B e te de) : XE X B e te (dFz de) := ⟨h.pe, fun F H σ γ Q q R hq k => by
  refine h.se F H σ γ _ _ R hq fun v F1 H1 γ1 s R1 e1 o1 h1 => ?_
  obtain ⟨F2, R2, e2, o2⟩ := o1.fz R1
  cases s with
  | val d => exact k v F1 H1 γ1 _ R1 e1 o1 h1
  | own j c => exact k v F1 H1 γ1 _ R1 e1 o1 h1
  | new c => exact k v F2 H1 γ1 (.val c.data) R2 (e1.trans e2) o2 h1⟩
/-! ### methods -/
/-- what a method of the class is -/
inductive Disp (P : Program) (w : World) (K : PySem.W.Frag) (mg : Str → Option Value) (base : Heap) (CX : CXT) (km : Nat) (m : Str) (C : Addr) (sp : Sp) : Prop
  | mk {k : Nat} {f : Addr} {fd : FuncData} {ps : List Str} : Cls K C → Meth K C m f → FnOk P w K mg base CX k f fd ps sp → k ≤ km → Binds K fd ps [] → Disp P w K mg base CX km m C sp
def tMethP (P : Program) (w : World) (K : PySem.W.Frag) (mg : Str → Option Value) (base : Heap) (CX : CXT) (km : Nat) (m : Str) (E : L2.St → XK) (ta : TE) (t : TA) : TE := fun σ H Q => ta σ H fun x H1 => ∃ a C dx fs sp, x = .ref a ∧ H1 a = some (.ins C dx fs) ∧ fs.lookup m = none ∧ Disp P w K mg base CX km m C sp ∧
  t σ H1 fun vs H2 => sp (x :: vs) H2 Q (E σ)
section
variable {X : Cx} {CX : CXT} {km : Nat} {m : Str} {o e : Expr} {es : List Expr} {apos pos : Pos} {ta : TE} {t : TA} {E : L2.St → XK}
theorem run_fnS {k : Nat} {f : Addr} {fd : FuncData} {ps : List Str} {sp : Sp} {pins : List (Addr × Obj)} {σ : L2.St} {H : Hp} {s : Shared} {Q : VK} {us : List Value} {vs : List V} (F : FnOk X.prog X.w X.K X.mg X.base CX k f fd ps sp) (hr : Room k X.A) (hb : Binds X.K fd ps []) (hx : ∀ σ, PassesAt CX X σ (E σ))
    (I : Inv X pins σ H s) (r : Vals vs us) (h : sp vs H Q (E σ)) : wpAny (model X.prog X.w) X.A (call (.ref f) us) (EP X pins σ Q) X.xe s := by
  have hl : (us ++ []).length = ps.length := by rw [List.append_nil, ← r.length]; exact F.len _ _ _ _ h
  have hb' := hb s us I.kIn hl
  rw [List.append_nil] at hb'
  refine wpAny_call (codeAny_mono (F.run X.A X.stack s H ⟨us, []⟩ us vs Q (E σ) hr I.env0 hb' r h) fun r s' hq => ?_)
  cases r with
  | error e => exact hx σ pins H s e s' I hq
  | ok fl =>
    cases fl with
    | ret u => exact I.after hq
    | next => exact False.elim hq
    | brk => exact False.elim hq
    | cont => exact False.elim hq
theorem pe_methP {pl : Sem Bool} (he : PE X o ta) (hr : Room km X.A) (hx : ∀ σ, PassesAt CX X σ (E σ)) (ha : PA X (e :: es) t)
    (hst : starEach (e :: es) X.env = (false, eval e X.env) :: starEach es X.env := by rfl) (hpl : (backTo pos (starEach es X.env)).any (·.1) = false := by rfl)
    (ht : eval (.Call (.Attribute o m apos) (e :: es) [] pos) X.env = (do
      let ov ← eval o X.env
      standAt apos.atName
      let (f, first) ← holding [ov] (getMethod ov m pl)
      callWith pos f first (backTo pos (starEach (e :: es) X.env)) (backToKw pos (keywordEach [] X.env))) := by rfl) :
    PE X (.Call (.Attribute o m apos) (e :: es) [] pos) (tMethP X.prog X.w X.K X.mg X.base CX km m E ta t) := by
  refine ⟨fun pins s σ H Q I h => ?_⟩
  refine PySem.W.methodCall_KW (pl := pl) (thn (he.run pins s σ H _ I h) fun u s1 ⟨x, H1, I1, rx, a, C, dx, fs, sp, ex, ea, l, dp, q⟩ => ?_) ht
  subst ex
  obtain rfl : u = Value.ref a := rx
  obtain ⟨c, hm, F, hk, hb⟩ := dp
  refine getmeth_ok I1 ea c hm l ?_
  refine PySem.W.callWith_K (first := [.ref a]) (h₀ := X.base) I.ok.mod.kin hm.kp (thn (ha.run pos pins s1 σ H1 _ I1 q) fun us s2 ⟨vs, H2, I2, r, q2⟩ => ⟨I2.kIn, ?_⟩) hst hpl
  exact run_fnS (us := .ref a :: us) (vs := .ref a :: vs) F (hr.mono hk) hb hx I2 (.cons rfl r) q2
theorem pe_methP0 {pl : Sem Bool} (he : PE X o ta) (hr : Room km X.A) (hx : ∀ σ, PassesAt CX X σ (E σ))
    (ht : eval (.Call (.Attribute o m apos) [] [] pos) X.env = (do
      let ov ← eval o X.env
      standAt apos.atName
      let (f, first) ← holding [ov] (getMethod ov m pl)
      callWith pos f first (backTo pos (starEach [] X.env)) (backToKw pos (keywordEach [] X.env))) := by rfl) :
    PE X (.Call (.Attribute o m apos) [] [] pos) (tMethP X.prog X.w X.K X.mg X.base CX km m E ta tNil) := by
  refine ⟨fun pins s σ H Q I h => ?_⟩
  refine PySem.W.methodCall_KW (pl := pl) (thn (he.run pins s σ H _ I h) fun u s1 ⟨x, H1, I1, rx, a, C, dx, fs, sp, ex, ea, l, dp, q⟩ => ?_) ht
  subst ex
  obtain rfl : u = Value.ref a := rx
  obtain ⟨c, hm, F, hk, hb⟩ := dp
  refine getmeth_ok I1 ea c hm l ?_
  exact PySem.W.callWith_K0 (first := [.ref a]) I1.kIn hm.kp (run_fnS (us := [.ref a]) (vs := [.ref a]) F (hr.mono hk) hb hx I1 (.cons rfl .nil) q)
end
/-- classes, and what the method does there -/
abbrev MT := String → Option FS
abbrev MTX := String → Option FSX
def dMeth (m : Str) (n : Nat) (tb : MT) (de : DE) (da : DA) (γ : Env) (q : RS → Env → Prop) : Prop := de γ fun s γ1 => match s.data with
  | .obj C fl => fl.lookup m = none ∧ ∃ fs, tb C = some fs ∧ da γ1 fun rs γ2 => s.now γ2 fun s => (ownIx (s :: rs)).Nodup ∧ rs.length + 1 = n ∧ fs (argsOf 0 (s :: rs)) fun r as' => q r (upds γ2 (s :: rs) as')
  | _ => False
def dMethX (xc : DX) (m : Str) (n : Nat) (tb : MTX) (de : DE) (da : DA) (γ : Env) (q : RS → Env → Prop) : Prop := de γ fun s γ1 => match s.data with
  | .obj C fl => fl.lookup m = none ∧ ∃ fs, tb C = some fs ∧ da γ1 fun rs γ2 => s.now γ2 fun s => (ownIx (s :: rs)).Nodup ∧ rs.length + 1 = n ∧ fs (argsOf 0 (s :: rs)) (fun r as' => q r (upds γ2 (s :: rs) as')) fun nm xs as' => xc nm xs (upds γ2 (s :: rs) as')
  | _ => False
section
variable {P : Program} {w : World} {K : PySem.W.Frag} {mg : Str → Option Value} {base : Heap} {km : Nat} {B : Bs} {m : Str} {n : Nat} {te : TE} {de : DE} {ta : TA} {da : DA}
theorem se_meth {tb : MT} (hd : ∀ C fs, tb C = some fs → Disp P w K mg base CX0 km m (ctOf K C) (spOf K n fs)) (he : SE K B te de) (ha : SA K B ta da) : SE K B (tMethP P w K mg base CX0 km m (fun _ => E0) te ta) (dMeth m n tb de da) := fun F H σ γ Q q R hq k => by
  refine he F H σ γ _ _ R hq fun x F1 H1 γ1 s R1 e1 o1 h1 => ?_
  split at h1
  · rename_i C fl es
    obtain ⟨hl, fs, ht, h1⟩ := h1
    have r := o1.rs R1
    rw [es] at r
    obtain ⟨a, dx, fv, rfl, q2, q3⟩ := r.obj R1.fh
    obtain ⟨F2, R2, e2, o2⟩ := o1.fz R1
    refine ⟨a, _, dx, fv, _, rfl, q2, fs_none q3 hl, hd C fs ht, ?_⟩
    refine ha F2 H1 σ γ1 _ _ R2 h1 fun vs F3 H3 γ3 rs R3 e3 o3 h3 => ?_
    obtain ⟨s', o4, h4, h5, h6⟩ := o2.now e3 R3 h3
    have oo : Paired (RsOk K B F3 H3 σ γ3) (.ref a :: vs) (s' :: rs) := .cons o4 o3
    obtain ⟨m', hm, RE⟩ := R3.args (dvs := []) (dds := []) oo .nil h4
    simp only [List.append_nil, List.map_nil] at RE
    refine ⟨by simp only [List.length_cons]; rw [P_len o3]; omega, F3, m', _, _, _, RE, h6, fun r as' v F4 H4 hp R4 ok hk => ?_⟩
    obtain ⟨R5, e5, ok5⟩ := R3.called oo h4 (fun i v hv => hv) hm R4
    exact k v F4 H4 _ r R5 (((e1.trans e2).trans e3).trans e5) (ok5 v r hk ok) hp
  · exact h1.elim
theorem se_methX {ct : Nat → Addr} {W : WX} {xc : DX} {tb : MTX} (hd : ∀ C fs, tb C = some fs → Disp P w K mg base (L2N.CX P w) km m (ctOf K C) (spOfX K ct n fs)) (xo : XOk K ct B W xc) (he : SE K B te de) (ha : SA K B ta da) : SE K B (tMethP P w K mg base (L2N.CX P w) km m (WE W) te ta) (dMethX xc m n tb de da) := fun F H σ γ Q q R hq k => by
  refine he F H σ γ _ _ R hq fun x F1 H1 γ1 s R1 e1 o1 h1 => ?_
  split at h1
  · rename_i C fl es
    obtain ⟨hl, fs, ht, h1⟩ := h1
    have r := o1.rs R1
    rw [es] at r
    obtain ⟨a, dx, fv, rfl, q2, q3⟩ := r.obj R1.fh
    obtain ⟨F2, R2, e2, o2⟩ := o1.fz R1
    refine ⟨a, _, dx, fv, _, rfl, q2, fs_none q3 hl, hd C fs ht, ?_⟩
    refine ha F2 H1 σ γ1 _ _ R2 h1 fun vs F3 H3 γ3 rs R3 e3 o3 h3 => ?_
    obtain ⟨s', o4, h4, h5, h6⟩ := o2.now e3 R3 h3
    have oo : Paired (RsOk K B F3 H3 σ γ3) (.ref a :: vs) (s' :: rs) := .cons o4 o3
    have cc := call_core (W := WE W σ) (ct := ct) (n := n) (fs := fs) (dvs := []) (dds := []) (q := q) .nil R3 oo (fun F' H' γ' nm dd fs R' xd hx => xo F' H' σ γ' nm dd fs R' xd hx) h4 (by simp; omega) (by simpa using h6) fun v F' H' γ' s' R' e' o' hq => k v F' H' γ' s' R' (((e1.trans e2).trans e3).trans e') o' hq
    rw [List.append_nil] at cc
    exact cc
  · exact h1.elim
end
section
variable {X : Cx} {km : Nat} {B : Bs} {o a : Expr} {es : List Expr} {apos pos : Pos} {te : TE} {de : DE} {ta : TA} {da : DA} {n : Nat}
theorem x_meth (P : Program) (w : World) (K : PySem.W.Frag) (mg : Str → Option Value) (base : Heap) (hX : (X.prog, X.w, X.K, X.mg, X.base) = (P, w, K, mg, base)) (hr : Room km X.A) (m : Str) {tb : MT} {pl : Sem Bool} (hd : ∀ C fs, tb C = some fs → Disp P w K mg base CX0 km m (ctOf K C) (spOf K n fs)) (ho : XE X B o te de) (h : XA X B (a :: es) ta da)
    (hst : starEach (a :: es) X.env = (false, eval a X.env) :: starEach es X.env := by rfl) (hpl : (backTo pos (starEach es X.env)).any (·.1) = false := by rfl)
    (ht : eval (.Call (.Attribute o m apos) (a :: es) [] pos) X.env = (do
      let ov ← eval o X.env
      standAt apos.atName
      let (f, first) ← holding [ov] (getMethod ov m pl)
      callWith pos f first (backTo pos (starEach (a :: es) X.env)) (backToKw pos (keywordEach [] X.env))) := by rfl) :
    XE X B (.Call (.Attribute o m apos) (a :: es) [] pos) (tMethP P w K mg base CX0 km m (fun _ => E0) te ta) (dMeth m n tb de da) := by
  cases hX
  exact ⟨pe_methP ho.pe hr (fun _ _ _ _ _ _ h => pass0 _ _ _ _ _ _ h) h.pa hst hpl ht, se_meth hd ho.se h.sa⟩
theorem x_meth0 (P : Program) (w : World) (K : PySem.W.Frag) (mg : Str → Option Value) (base : Heap) (hX : (X.prog, X.w, X.K, X.mg, X.base) = (P, w, K, mg, base)) (hr : Room km X.A) (m : Str) {tb : MT} {pl : Sem Bool} (hd : ∀ C fs, tb C = some fs → Disp P w K mg base CX0 km m (ctOf K C) (spOf K n fs)) (ho : XE X B o te de)
    (ht : eval (.Call (.Attribute o m apos) [] [] pos) X.env = (do
      let ov ← eval o X.env
      standAt apos.atName
      let (f, first) ← holding [ov] (getMethod ov m pl)
      callWith pos f first (backTo pos (starEach [] X.env)) (backToKw pos (keywordEach [] X.env))) := by rfl) :
    XE X B (.Call (.Attribute o m apos) [] [] pos) (tMethP P w K mg base CX0 km m (fun _ => E0) te tNil) (dMeth m n tb de dNil) := by
  cases hX
  exact ⟨pe_methP0 ho.pe hr (fun _ _ _ _ _ _ h => pass0 _ _ _ _ _ _ h) ht, se_meth hd ho.se sa_nil⟩
theorem x_methX (P : Program) (w : World) (K : PySem.W.Frag) (mg : Str → Option Value) (base : Heap) (hX : (X.prog, X.w, X.K, X.mg, X.base) = (P, w, K, mg, base)) (hr : Room km X.A) (m : Str) {ct : Nat → Addr} {W : WX} {xc : DX} {tb : MTX} {pl : Sem Bool} (xo : XOk K ct B W xc) (tk : L2N.Takes X W) (hd : ∀ C fs, tb C = some fs → Disp P w K mg base (L2N.CX P w) km m (ctOf K C) (spOfX K ct n fs)) (ho : XE X B o te de) (h : XA X B (a :: es) ta da)
    (hst : starEach (a :: es) X.env = (false, eval a X.env) :: starEach es X.env := by rfl) (hpl : (backTo pos (starEach es X.env)).any (·.1) = false := by rfl)
    (ht : eval (.Call (.Attribute o m apos) (a :: es) [] pos) X.env = (do
      let ov ← eval o X.env
      standAt apos.atName
      let (f, first) ← holding [ov] (getMethod ov m pl)
      callWith pos f first (backTo pos (starEach (a :: es) X.env)) (backToKw pos (keywordEach [] X.env))) := by rfl) :
    XE X B (.Call (.Attribute o m apos) (a :: es) [] pos) (tMethP P w K mg base (L2N.CX P w) km m (WE W) te ta) (dMethX xc m n tb de da) := by
  cases hX
  exact ⟨pe_methP ho.pe hr (fun σ => L2N.passAt tk σ) h.pa hst hpl ht, se_methX hd xo ho.se h.sa⟩
theorem x_methX0 (P : Program) (w : World) (K : PySem.W.Frag) (mg : Str → Option Value) (base : Heap) (hX : (X.prog, X.w, X.K, X.mg, X.base) = (P, w, K, mg, base)) (hr : Room km X.A) (m : Str) {ct : Nat → Addr} {W : WX} {xc : DX} {tb : MTX} {pl : Sem Bool} (xo : XOk K ct B W xc) (tk : L2N.Takes X W) (hd : ∀ C fs, tb C = some fs → Disp P w K mg base (L2N.CX P w) km m (ctOf K C) (spOfX K ct n fs)) (ho : XE X B o te de)
    (ht : eval (.Call (.Attribute o m apos) [] [] pos) X.env = (do
      let ov ← eval o X.env
      standAt apos.atName
      let (f, first) ← holding [ov] (getMethod ov m pl)
      callWith pos f first (backTo pos (starEach [] X.env)) (backToKw pos (keywordEach [] X.env))) := by rfl) :
    XE X B (.Call (.Attribute o m apos) [] [] pos) (tMethP P w K mg base (L2N.CX P w) km m (WE W) te tNil) (dMethX xc m n tb de dNil) := by
  cases hX
  exact ⟨pe_methP0 ho.pe hr (fun σ => L2N.passAt tk σ) ht, se_methX hd xo ho.se sa_nil⟩
end
end DL

set_option Elab.async false
set_option linter.all false
set_option maxRecDepth 100000
set_option maxHeartbeats 2000000
namespace DL
open PySem PySem.Spec PyProof.Rows L2
open Evl (Ex ex_l ex_t)
/-! ### *e in a display -/
def seqD : D → (List D → Prop) → Prop
  | .lst ds, q => q ds
  | .tup ds, q => q ds
  | .scr ns, q => q (ns.map D.int)
  | _, _ => False
theorem seqD_of {d : D} {q : List D → Prop} (h : seqD d q) : ∃ ds, (d = .lst ds ∨ d = .tup ds ∨ (∃ ns, d = .scr ns ∧ ds = ns.map D.int)) ∧ q ds := by
  unfold seqD at h
  split at h
  · exact ⟨_, .inl rfl, h⟩
  · exact ⟨_, .inr (.inl rfl), h⟩
  · exact ⟨_, .inr (.inr ⟨_, rfl, rfl⟩), h⟩
  · exact h.elim
theorem vals_ok {K : PySem.W.Frag} {B : Bs} {F H : Hp} {σ : L2.St} {γ : Env} : ∀ {vs : List V} {ds : List D}, RpAll (B.kz K) F vs ds → Paired (RsOk K B F H σ γ) vs (ds.map RS.val)
  | _, _, .nil => .nil
  | _, _, .cons h t => .cons h (vals_ok t)
def dStar (de : DE) (dr : DA) (γ : Env) (q : List RS → Env → Prop) : Prop := de γ fun s γ1 => seqD s.data fun ds => dr γ1 fun rs γ2 => q (ds.map RS.val ++ rs) γ2
theorem sa_star {K : PySem.W.Frag} {B : Bs} {te : TE} {de : DE} {tr : TA} {dr : DA} (se : SE K B te de) (sr : SA K B tr dr) : SA K B (StX.tStar K te tr) (dStar de dr) := fun F H σ γ Q q R hq k => by
  refine se F H σ γ _ _ R hq fun x F1 H1 γ1 s R1 e1 o1 h1 => ?_
  obtain ⟨ds, hd, h1⟩ := seqD_of h1
  obtain ⟨F2, R2, e2, o2⟩ := o1.fz R1
  have rx := o2.rs R2
  rw [RS.fz_data] at rx
  obtain ⟨a, vs, rfl, hs, ra⟩ := rx.seq R2.fh hd
  refine ⟨a, vs, rfl, hs.symm, sr F2 H1 σ γ1 _ _ R2 h1 fun ws F3 H3 γ3 rs R3 e3 o3 h3 => ?_⟩
  exact k _ F3 H3 γ3 _ R3 ((e1.trans e2).trans e3) (P_app (vals_ok (ra.mono e3)) o3) h3
theorem xa_star {X : Cx} {B : Bs} {e : Expr} {es : List Expr} {p : Pos} {te : TE} {de : DE} {tr : TA} {dr : DA} (K : PySem.W.Frag) (hK : X.K = K) (he : XE X B e te de) (hr : XA X B es tr dr) (hs : starEach (.Starred e p :: es) X.env = (true, eval e X.env) :: starEach es X.env := by rfl) : XA X B (.Starred e p :: es) (StX.tStar K te tr) (dStar de dr) := by
  subst hK
  exact ⟨StX.pa_star he.pe hr.pa, sa_star he.se hr.sa⟩
/-! ### slices of tuples, t + u -/
section
variable {K : PySem.W.Frag}
theorem cut_whole {α : Type} {xs : List α} {lo hi : Option Int} (h : HT.sIx xs.length 0 lo = 0 ∧ HT.sIx xs.length xs.length hi = xs.length) : cut xs lo hi = xs := by
  unfold cut
  rw [h.1, h.2]
  simp
/-- the same, or a new one -/
theorem sd_tup : SlD K (rSlA K) fSlT := fun B F H σ γ x d lo hi Q q R rx hf k => by
  unfold fSlT at hf
  split at hf
  · rename_i xs
    have rf := rx.tupF
    obtain ⟨a, vs, rfl, h1, r1⟩ := rx.tup R.fh
    refine ⟨a, vs, rfl, h1, fun hw => ?_, fun _ p hp => ?_⟩
    · rw [r1.length] at hw
      rw [cut_whole hw] at hf
      exact vk R k rf hf
    · obtain ⟨R', ex, rp⟩ := R.newT hp (RpAll.of (cut_p r1.p))
      exact k _ _ _ (.val _) R' ex rp hf
  · exact hf.elim
def fCatT : D → D → (RS → Prop) → Prop
  | .tup xs, .tup ys, q => xs.length + ys.length ≤ 1000000 ∧ q (.val (.tup (xs ++ ys)))
  | _, _, _ => False
theorem od_catT : OpD K (rCatA K) fCatT := fun B F H σ γ x y d e Q q R rx ry hf k => by
  unfold fCatT at hf
  split at hf
  · rename_i xs ys
    have rfx := rx.tupF
    have rfy := ry.tupF
    obtain ⟨a, vs, rfl, h1, r1⟩ := rx.tup R.fh
    obtain ⟨b, ws, rfl, h2, r2⟩ := ry.tup R.fh
    refine ⟨a, b, vs, ws, rfl, rfl, h1, h2, sz_le (by rw [r1.length, r2.length]; exact hf.1), fun e => ?_, fun _ e => ?_, fun _ _ p hp => ?_⟩
    · subst e
      cases r1
      exact vk R k rfy hf.2
    · subst e
      cases r2
      rw [List.append_nil] at hf
      exact vk R k rfx hf.2
    · obtain ⟨R', ex, rp⟩ := R.newT hp (RpAll.of (P_app r1.p r2.p))
      exact k _ _ _ (.val _) R' ex rp hf.2
  · exact hf.elim
end
/-! ### == told by the data's form -/
theorem deq_self {d : D} (h : dOk d = true) : deq d d = true := by
  unfold dOk SeqAt.shaped at h
  simp only [Bool.and_eq_true] at h
  exact PySem.SeqAt.eqv_refl _ h.2.1
theorem deq_int {i j : Int} : deq (.int i) (.int j) = decide (i = j) := by
  unfold deq
  simp only [D.py, PyData.eqv]
  exact Bool.beq_eq_decide_eq i j
theorem deq_str {i j : Str} : deq (.str i) (.str j) = decide (i = j) := by
  unfold deq
  simp only [D.py, PyData.eqv]
  by_cases z : i = j
  · subst z; simp
  · rw [decide_eq_false z]; exact beq_eq_false_iff_ne.mpr z
theorem deq_tcons {x y : D} {xs ys : List D} : deq (.tup (x :: xs)) (.tup (y :: ys)) = (deq x y && deq (.tup xs) (.tup ys)) := by
  unfold deq
  simp only [D.py, pyAll, PyData.eqv, PyData.eqvAll]
theorem deq_tnil : deq (.tup []) (.tup []) = true := rfl
theorem deq_lcons {x y : D} {xs ys : List D} : deq (.lst (x :: xs)) (.lst (y :: ys)) = (deq x y && deq (.lst xs) (.lst ys)) := by
  unfold deq
  simp only [D.py, pyAll, PyData.eqv, PyData.eqvAll]
theorem deq_lnil : deq (.lst []) (.lst []) = true := rfl
theorem deq_tints (ns ms : List Int) : deq (.tup (ns.map D.int)) (.tup (ms.map D.int)) = decide (ns = ms) := deq_tup eqF_int (fun _ _ => trivial) fun _ _ => trivial
theorem dOk_tints (ns : List Int) : dOk (.tup (ns.map D.int)) = true := dOk_of (ok_tup fun x _ => ok_int x) (by decide)
theorem okN_str {s : Str} (h : (PyData.str s).canLay0 = true) : dOkN 0 (.str s) = true := by
  unfold dOkN
  simp only [D.pure, D.py, PyData.depth, h, Bool.true_and, decide_eq_true_eq]
  omega
theorem okN_tup {n : Nat} {xs : List D} (h : ∀ x ∈ xs, dOkN n x = true) : dOkN (n + 1) (.tup xs) = true := by
  have := ok_tup (f := fun d : D => d) (xs := xs) h
  rwa [List.map_id'] at this
theorem okN_lst {n : Nat} {xs : List D} (h : ∀ x ∈ xs, dOkN n x = true) : dOkN (n + 1) (.lst xs) = true := by
  have := ok_lst (f := fun d : D => d) (xs := xs) h
  rwa [List.map_id'] at this
/-! ### written texts told apart -/
theorem ofS_inj {a b : String} : (Str.ofString a = Str.ofString b) = (a = b) := by
  refine propext ⟨fun h => ?_, fun h => by rw [h]⟩
  rw [Str.ofString_eq_toList, Str.ofString_eq_toList] at h
  have h2 : a.toList.map Char.toNat = b.toList.map Char.toNat := by
    injection h with h
    simpa using congrArg Array.toList h
  have inj : ∀ {x y : List Char}, x.map Char.toNat = y.map Char.toNat → x = y := fun {x} => by
    induction x with
    | nil => intro y h; cases y with
      | nil => rfl
      | cons c y => simp at h
    | cons d x ih => intro y h; cases y with
      | nil => simp at h
      | cons c y =>
        simp only [List.map_cons, List.cons.injEq] at h
        have e : d = c := Char.toNat_inj.mp h.1
        rw [e, ih h.2]
  exact String.toList_inj.mp (inj h2)
theorem ofS_beq {a b : String} : (Str.ofString a == Str.ofString b) = (a == b) := by
  by_cases h : a = b
  · subst h; simp
  · rw [beq_eq_false_iff_ne.mpr h]
    exact beq_eq_false_iff_ne.mpr fun z => h (by rwa [ofS_inj] at z)
theorem allV_app {ds : List D} {rs : List RS} : allV (ds.map RS.val ++ rs) = allV rs := by
  induction ds with
  | nil => rfl
  | cons d ds ih => exact ih
theorem allV_vals {ds : List D} : allV (ds.map RS.val) = True := by
  induction ds with
  | nil => rfl
  | cons d ds ih => exact ih
theorem data_app {ds : List D} {rs : List RS} : (ds.map RS.val ++ rs).map RS.data = ds ++ rs.map RS.data := by
  induction ds with
  | nil => rfl
  | cons d ds ih => simp only [List.map_cons, List.cons_append, ih]; rfl
theorem data_vals {ds : List D} : (ds.map RS.val).map RS.data = ds := by
  induction ds with
  | nil => rfl
  | cons d ds ih => simp only [List.map_cons, ih]; rfl
end DL

set_option Elab.async false
set_option linter.all false
set_option maxRecDepth 100000
set_option maxHeartbeats 2000000
namespace DL
open PySem PySem.Spec PyProof.Rows L2
open Evl (Ex ex_l ex_t)
/-! ### lists that are lent; what comes back holds no list -/
mutual
def D.nol : D → Bool
  | .lst _ => false | .scr _ => false | .fr _ => false
  | .tup xs => nolAll xs | .obj _ fs => nolF fs | .dct kd => nolK kd
  | _ => true
def nolAll : List D → Bool
  | [] => true
  | x :: xs => x.nol && nolAll xs
def nolF : List (Str × D) → Bool
  | [] => true
  | (_, x) :: xs => x.nol && nolF xs
def nolK : List (Key × D) → Bool
  | [] => true
  | (_, x) :: xs => x.nol && nolK xs
end
theorem nolK_map {α : Type} {f : α → Key × D} (h : ∀ x, (f x).2.nol = true) : ∀ xs : List α, nolK (xs.map f) = true
  | [] => rfl
  | x :: xs => by rw [List.map_cons, show nolK (f x :: xs.map f) = ((f x).2.nol && nolK (xs.map f)) from rfl, h x, nolK_map h xs]; rfl
theorem nolAll_map {α : Type} {f : α → D} (h : ∀ x, (f x).nol = true) : ∀ xs : List α, nolAll (xs.map f) = true
  | [] => rfl
  | x :: xs => by rw [List.map_cons, nolAll, h x, nolAll_map h xs]; rfl
theorem nol_ints (ns : List Int) : nolAll (ns.map D.int) = true := nolAll_map (fun _ => rfl) ns
theorem nol_strs (ns : List Str) : nolAll (ns.map D.str) = true := nolAll_map (fun _ => rfl) ns
section
variable {K : PySem.W.Frag} {z : Addr → Prop} {F F' : Hp}
mutual
theorem Rp.off (ht : ∀ a xs, F a = some (.tup xs) → F' a = some (.tup xs)) (hk : ∀ a kv, F a = some (.dK kv) → F' a = some (.dK kv)) (hi : ∀ a C dx fs, F a = some (.ins C dx fs) → F dx = some (.own a) → F' a = some (.ins C dx fs) ∧ F' dx = some (.own a)) (hs : ∀ a vs, SqT K F a vs → SqT K F' a vs) : ∀ {v : V} {d : D}, Rp ⟨K, z⟩ F v d → d.nol = true → Rp ⟨K, z⟩ F' v d
  | _, _, .non, _ => .non
  | _, _, .bl b, _ => .bl b
  | _, _, .int b, _ => .int b
  | _, _, .str b, _ => .str b
  | _, _, .ref b, _ => .ref b
  | _, _, .ty b, _ => .ty b
  | _, _, .kls b, _ => .kls b
  | _, _, .lst h a, n => absurd n (by simp [D.nol])
  | _, _, .scr h, n => absurd n (by simp [D.nol])
  | _, _, .dct h a, n => .dct (hk _ _ h) (RpKs.off ht hk hi hs a n)
  | _, _, .fr h a, n => absurd n (by simp [D.nol])
  | _, _, .tup h a, n => .tup (hs _ _ h) (RpAll.off ht hk hi hs a n)
  | _, _, .obj h1 h2 a, n => .obj (hi _ _ _ _ h1 h2).1 (hi _ _ _ _ h1 h2).2 (RpFs.off ht hk hi hs a n)
theorem RpAll.off (ht : ∀ a xs, F a = some (.tup xs) → F' a = some (.tup xs)) (hk : ∀ a kv, F a = some (.dK kv) → F' a = some (.dK kv)) (hi : ∀ a C dx fs, F a = some (.ins C dx fs) → F dx = some (.own a) → F' a = some (.ins C dx fs) ∧ F' dx = some (.own a)) (hs : ∀ a vs, SqT K F a vs → SqT K F' a vs) : ∀ {v : List V} {d : List D}, RpAll ⟨K, z⟩ F v d → nolAll d = true → RpAll ⟨K, z⟩ F' v d
  | _, _, .nil, _ => .nil
  | _, _, .cons h t, n => .cons (Rp.off ht hk hi hs h (Bool.and_eq_true_iff.mp n).1) (RpAll.off ht hk hi hs t (Bool.and_eq_true_iff.mp n).2)
theorem RpFs.off (ht : ∀ a xs, F a = some (.tup xs) → F' a = some (.tup xs)) (hk : ∀ a kv, F a = some (.dK kv) → F' a = some (.dK kv)) (hi : ∀ a C dx fs, F a = some (.ins C dx fs) → F dx = some (.own a) → F' a = some (.ins C dx fs) ∧ F' dx = some (.own a)) (hs : ∀ a vs, SqT K F a vs → SqT K F' a vs) : ∀ {v : List (Str × V)} {d : List (Str × D)}, RpFs ⟨K, z⟩ F v d → nolF d = true → RpFs ⟨K, z⟩ F' v d
  | _, _, .nil, _ => .nil
  | _, _, .cons h t, n => .cons (Rp.off ht hk hi hs h (Bool.and_eq_true_iff.mp n).1) (RpFs.off ht hk hi hs t (Bool.and_eq_true_iff.mp n).2)
theorem RpKs.off (ht : ∀ a xs, F a = some (.tup xs) → F' a = some (.tup xs)) (hk : ∀ a kv, F a = some (.dK kv) → F' a = some (.dK kv)) (hi : ∀ a C dx fs, F a = some (.ins C dx fs) → F dx = some (.own a) → F' a = some (.ins C dx fs) ∧ F' dx = some (.own a)) (hs : ∀ a vs, SqT K F a vs → SqT K F' a vs) : ∀ {v : List (Key × V)} {d : List (Key × D)}, RpKs ⟨K, z⟩ F v d → nolK d = true → RpKs ⟨K, z⟩ F' v d
  | _, _, .nil, _ => .nil
  | _, _, .cons h t, n => .cons (Rp.off ht hk hi hs h (Bool.and_eq_true_iff.mp n).1) (RpKs.off ht hk hi hs t (Bool.and_eq_true_iff.mp n).2)
end
end
/-- owned lists alone are lent -/
def lentL : List RS → Prop
  | [] => True
  | .val _ :: r => lentL r
  | .own _ (.lst _) :: r => lentL r
  | _ :: _ => False
section
variable {K : PySem.W.Frag} {B : Bs} {F H : Hp} {σ : L2.St} {γ : Env}
theorem Rep.freezeL (R : Rep K B F H σ γ) {i : Nat} {p : Option Nat} {ds : List D} (e : look γ i = .own p (.lst ds)) : ∃ a vs, σ[i]? = some (some (.ref a)) ∧ H a = some (.lst vs) ∧ Rep K B (upd F a (.lst vs)) H σ (put γ i (.val (.lst ds))) ∧ Ex F (upd F a (.lst vs)) ∧ Rp (B.kz K) (upd F a (.lst vs)) (.ref a) (.lst ds) := by
  obtain ⟨a, hs, hg, fa, ok⟩ := R.own e
  have R0 : Rep K B F H σ (put γ i .no) := R.told (fun _ _ => trivial) (fun _ _ z => by cases z)
  have na : ∀ (j : Nat) q c', (put γ i .no)[j]? = some (.own q c') → σ[j]? ≠ some (some (.ref a)) := fun j q c' h1 h2 => by
    rcases get_put h1 with ⟨_, z⟩ | ⟨n, z⟩
    · cases z
    · exact n (R.nd j i a q c' p _ z hg h2 hs)
  have b5 := R.b5 i a p _ hg hs
  obtain ⟨vs, h1, h2⟩ := ok
  obtain ⟨R', ex⟩ := R0.freeze h1 fa b5 fun i q c' hg => ⟨na i q c' hg, fun x _ z => by cases z⟩
  have rp : Rp (B.kz K) (upd F a (.lst vs)) (.ref a) (.lst ds) := .lst upd_same (h2.mono ex)
  have q := R'.told (i := i) (t := .val (.lst ds)) (fun s hs' => by rw [hs] at hs'; cases hs'; exact ⟨_, rfl, rp⟩) (fun _ _ z => by cases z)
  have pp : put (put γ i .no) i (.val (.lst ds)) = put γ i (.val (.lst ds)) := by rw [put_set, put_set, put_set, List.set_set]
  rw [pp] at q
  exact ⟨a, vs, hs, h1, q, ex, rp⟩
theorem Rep.lendL {B : Bs} {H : Hp} {σ : L2.St} : ∀ {vs : List V} {rs : List RS} {F : Hp} {γ : Env}, Rep K B F H σ γ → Paired (fun v r => (∃ d, r = .val d ∧ Rp (B.kz K) F v d) ∨ ∃ j ds, r = .own j (.lst ds) ∧ σ[j]? = some (some v) ∧ (∃ p, look γ j = .own p (.lst ds)) ∨ r = .own j (.lst ds) ∧ Rp (B.kz K) F v (.lst ds)) vs rs →
    ∃ F', Ex F F' ∧ Ex F' H ∧ RpAll (B.kz K) F' vs (rs.map RS.data) ∧ ∀ b, F' b = F b ∨ ∃ xs, H b = some (.lst xs)
  | _, _, F, γ, R, .nil => ⟨F, Evl.Ex.refl F, R.fh, .nil, fun _ => .inl rfl⟩
  | _, _, F, γ, R, @Paired.cons _ _ _ v r vs rs h t => by
    have step : ∃ F1 γ1, Rep K B F1 H σ γ1 ∧ Ex F F1 ∧ Rp (B.kz K) F1 v r.data ∧ (∀ b, F1 b = F b ∨ ∃ xs, H b = some (.lst xs)) ∧ ∀ j p ds, look γ j = .own p (.lst ds) → look γ1 j = .own p (.lst ds) ∨ ∃ a, σ[j]? = some (some (.ref a)) ∧ Rp (B.kz K) F1 (.ref a) (.lst ds) := by
      rcases h with ⟨d, rfl, h⟩ | ⟨j, ds, ⟨rfl, hs, p, hp⟩ | ⟨rfl, h⟩⟩
      · exact ⟨F, γ, R, Evl.Ex.refl F, h, fun _ => .inl rfl, fun j p c h => .inl h⟩
      · obtain ⟨a, ws, hs', ha, R1, e1, r1⟩ := R.freezeL hp
        rw [hs] at hs'
        cases hs'
        refine ⟨_, _, R1, e1, r1, fun b => ?_, fun i p' c' hl => ?_⟩
        · by_cases hb : b = a
          · subst hb; exact .inr ⟨ws, ha⟩
          · exact .inl (upd_ne hb)
        · by_cases e : i = j
          · subst e
            rw [hp] at hl
            cases hl
            exact .inr ⟨a, hs, r1⟩
          · refine .inl (look_of ?_)
            have := of_look hl (by intro z; cases z)
            rw [put_set, List.getElem?_set_ne (Ne.symm e)]
            exact this
      · exact ⟨F, γ, R, Evl.Ex.refl F, h, fun _ => .inl rfl, fun j p c h => .inl h⟩
    obtain ⟨F1, γ1, R1, e1, r1, d1, hk⟩ := step
    obtain ⟨F2, e2, e3, r2, d2⟩ := Rep.lendL (vs := vs) (rs := rs) R1 (P_mono (fun v r h => by
      rcases h with ⟨d, rfl, h⟩ | ⟨j, c, ⟨rfl, hs, p, hp⟩ | ⟨rfl, h⟩⟩
      · exact .inl ⟨d, rfl, h.mono e1⟩
      · rcases hk j p c hp with z | ⟨a, z1, z2⟩
        · exact .inr ⟨j, c, .inl ⟨rfl, hs, p, z⟩⟩
        · rw [hs] at z1
          cases z1
          exact .inr ⟨j, c, .inr ⟨rfl, z2⟩⟩
      · exact .inr ⟨j, c, .inr ⟨rfl, h.mono e1⟩⟩) t)
    refine ⟨F2, e1.trans e2, e3, .cons (r1.mono e2) r2, fun b => ?_⟩
    rcases d2 b with z | z
    · rw [z]; exact d1 b
    · exact .inr z
theorem lentP : ∀ {vs : List V} {rs : List RS}, Paired (RsOk K B F H σ γ) vs rs → lentL rs → Paired (fun v r => (∃ d, r = .val d ∧ Rp (B.kz K) F v d) ∨ ∃ j ds, r = .own j (.lst ds) ∧ σ[j]? = some (some v) ∧ (∃ p, look γ j = .own p (.lst ds)) ∨ r = .own j (.lst ds) ∧ Rp (B.kz K) F v (.lst ds)) vs rs
  | _, _, .nil, _ => .nil
  | _, .val d :: _, .cons h t, n => .cons (.inl ⟨d, rfl, h⟩) (lentP t n)
  | _, .own j (.lst ds) :: _, .cons ⟨hs, p, hg⟩ t, n => .cons (.inr ⟨j, ds, .inl ⟨rfl, hs, p, look_of hg⟩⟩) (lentP t n)
/-- what stood stays as it was, what is new may stay -/
def newF (H1 F1 F3 : Hp) : Hp := fun a => match H1 a with
  | none => F3 a
  | some _ => F1 a
theorem newF_old {H1 F1 F3 : Hp} {a : Addr} {o : HO} (h : H1 a = some o) : newF H1 F1 F3 a = F1 a := by unfold newF; rw [h]
theorem newF_new {H1 F1 F3 : Hp} {a : Addr} (h : H1 a = none) : newF H1 F1 F3 a = F3 a := by unfold newF; rw [h]
/-- behind a call to which lists were lent -/
theorem lend_back {F1 H1 F2 F3 H3 : Hp} (R1 : Rep K B F1 H1 σ γ) (fh : Ex F3 H3) (eH : Ex H1 H3) (s3 : ∀ b o, H1 b = some o → F3 b = F2 b) (s2 : ∀ b, F2 b = F1 b ∨ ∃ xs, H1 b = some (.lst xs)) :
    Rep K B (newF H1 F1 F3) H3 σ γ ∧ Ex F1 (newF H1 F1 F3) ∧ (∀ v d, Rp (B.kz K) F3 v d → d.nol = true → Rp (B.kz K) (newF H1 F1 F3) v d) ∧ (∀ v d, RpAll (B.kz K) F3 v d → nolAll d = true → RpAll (B.kz K) (newF H1 F1 F3) v d) ∧ ∀ v d, RpFs (B.kz K) F3 v d → nolF d = true → RpFs (B.kz K) (newF H1 F1 F3) v d := by
  have eF : Ex F1 (newF H1 F1 F3) := fun a o e => by rw [newF_old (R1.fh a o e)]; exact e
  have same : ∀ a o, F3 a = some o → (∀ xs, o ≠ .lst xs) → newF H1 F1 F3 a = some o := fun a o e n => by
    cases h : H1 a with
    | none => rw [newF_new h]; exact e
    | some o' =>
      rw [newF_old h]
      rcases s2 a with z | ⟨xs, z⟩
      · rw [← z, ← s3 a o' h]; exact e
      · have := fh a o e
        rw [eH a _ z] at this
        cases this
        exact absurd rfl (n xs)
  have ht : ∀ a xs, F3 a = some (.tup xs) → newF H1 F1 F3 a = some (.tup xs) := fun a xs e => same a _ e fun _ z => by cases z
  have hk : ∀ a kv, F3 a = some (.dK kv) → newF H1 F1 F3 a = some (.dK kv) := fun a kv e => same a _ e fun _ z => by cases z
  have hi : ∀ a C dx fs, F3 a = some (.ins C dx fs) → F3 dx = some (.own a) → newF H1 F1 F3 a = some (.ins C dx fs) ∧ newF H1 F1 F3 dx = some (.own a) := fun a C dx fs e1 e2 => ⟨same a _ e1 (fun _ z => by cases z), same dx _ e2 (fun _ z => by cases z)⟩
  have hs : ∀ a vs, SqT K F3 a vs → SqT K (newF H1 F1 F3) a vs := fun a vs h => by
    rcases h with (h | ⟨o, h⟩) | h
    · exact .inl (.inl (same a _ h fun _ z => by cases z))
    · exact .inl (.inr ⟨o, same a _ h fun _ z => by cases z⟩)
    · exact .inr h
  refine ⟨R1.later (fun a o e => ?_) eH eF fun b o e => newF_old e, eF, fun v d r n => Rp.off ht hk hi hs r n, fun v d r n => RpAll.off ht hk hi hs r n, fun v d r n => RpFs.off ht hk hi hs r n⟩
  cases h : H1 a with
  | none => rw [newF_new h] at e; exact fh a o e
  | some o' => rw [newF_old h] at e; exact eH a o (R1.fh a o e)
end
/-- what comes back -/
def lendN : RS → (RS → Prop) → Prop
  | .val d, q => d.nol = true ∧ q (.val d)
  | .new (.lst ds), q => nolAll ds = true ∧ q (.new (.lst ds))
  | .new (.ins C fs), q => nolF fs = true ∧ q (.new (.ins C fs))
  | _, _ => False
def dCallN (n : Nat) (fs : FS) (da : DA) (γ : Env) (q : RS → Env → Prop) : Prop := da γ fun rs γ1 => lentL rs ∧ rs.length = n ∧ fs (rs.map fun r => Sx.val r.data) fun r _ => lendN r fun r => q r γ1
def dMakeL (C : String) (n : Nat) (fs : FS) (dds : List D) (da : DA) (γ : Env) (q : RS → Env → Prop) : Prop := da γ fun rs γ1 => lentL rs ∧ rs.length + dds.length + 1 = n ∧
  fs (.own (some 0) (.ins C []) :: ((rs.map fun r => Sx.val r.data) ++ dds.map Sx.val)) fun r as' => r = .val .non ∧ match as' with
    | .own _ (.ins C' fs') :: _ => C' = C ∧ nolF fs' = true ∧ q (.new (.ins C fs')) γ1
    | _ => False
section
variable {K : PySem.W.Frag} {B : Bs}
theorem se_callLN {n : Nat} {fs : FS} {E : XK} {ta : TA} {da : DA} (h : SA K B ta da) : SE K B (tCall (spOf K n fs) [] E ta) (dCallN n fs da) := fun F H σ γ Q q R hq k => by
  refine h F H σ γ _ _ R hq fun vs F1 H1 γ1 rs R1 e1 o1 ⟨h0, h2, h3⟩ => ?_
  obtain ⟨F2, e2, e3, all, s2⟩ := Rep.lendL R1 (lentP o1 h0)
  have RE : Rep K (entry F2 H1 [] R1.zn (vs ++ [])) F2 H1 ((vs ++ []).map some) (rs.map fun r => Sx.val r.data) := by
    have none : ∀ {i : Nat} {p : Option Nat} {c : OC}, (rs.map fun r => Sx.val r.data)[i]? ≠ some (.own p c) := fun {i p c} h => by
      rw [List.getElem?_map] at h
      cases q : rs[i]? with
      | none => rw [q] at h; cases h
      | some d => rw [q] at h; cases h
    rw [List.append_nil]
    refine ⟨e3, by rw [List.length_map, List.length_map, P_len o1], fun i s t hs hg => ?_, fun i j a p c q c' h1 => absurd h1 none, fun b o e => ⟨fun _ => e, o, e⟩, Evl.Ex.refl F2, fun b o _ _ => rfl, fun i a p c h1 => absurd h1 none, fun i a p c h1 => absurd h1 none, fun b o e => ⟨o, e⟩, fun a o e => ⟨o, e, .refl o⟩⟩
    rw [List.getElem?_map] at hs hg
    cases q : rs[i]? with
    | none => rw [q] at hg; cases hg
    | some d =>
      rw [q] at hg
      cases hg
      obtain ⟨v, hv, r⟩ := P_get all.p (show (rs.map RS.data)[i]? = some d.data by rw [List.getElem?_map, q]; rfl)
      rw [hv] at hs
      exact ⟨v, (Option.some.inj hs).symm, r⟩
  refine ⟨by rw [List.append_nil, P_len o1]; exact h2, F2, [], _, _, _, RE, h3, fun r as' v F3 H3 hp R3 ok hk => ?_⟩
  have eH : Ex H1 H3 := fun b o e => (R3.b1 b o e).1 (by simp [entry])
  have s3 : ∀ b o, H1 b = some o → F3 b = F2 b := fun b o e => R3.b3 b o e (by simp [entry])
  obtain ⟨R4, e4, c1, c2, c3⟩ := lend_back R1 R3.fh eH s3 s2
  unfold lendN at hp
  split at hp
  · exact k v _ H3 γ1 (.val _) R4 (e1.trans e4) (c1 _ _ ok hp.1) hp.2
  · rename_i ds
    obtain ⟨a, ea, N⟩ := ok
    obtain ⟨ws, hl, hr⟩ := N.ok
    have ha : H1 a = none := N.bn
    obtain ⟨f1, f2, f3, f4⟩ := R1.fresh ha
    have fn : newF H1 F1 F3 a = none := by rw [newF_new ha]; exact N.fa
    exact k v _ H3 γ1 (.new (.lst ds)) R4 (e1.trans e4) ⟨a, ea, fn, ⟨ws, hl, c2 _ _ hr hp.1⟩, f3, .inr f2, f4⟩ hp.2
  · rename_i C fs'
    obtain ⟨a, ea, N⟩ := ok
    obtain ⟨dx, fv, g1, g2, g3, g4, g5, g6⟩ := N.ok
    have ha : H1 a = none := N.bn
    have hd : H1 dx = none := g4 ha
    obtain ⟨f1, f2, f3, f4⟩ := R1.fresh ha
    obtain ⟨d1, d2, d3, d4⟩ := R1.fresh hd
    have fn : newF H1 F1 F3 a = none := by rw [newF_new ha]; exact N.fa
    have fd : newF H1 F1 F3 dx = none := by rw [newF_new hd]; exact g3
    exact k v _ H3 γ1 (.new (.ins C fs')) R4 (e1.trans e4) ⟨a, ea, fn, ⟨dx, fv, g1, g2, fd, fun _ => d3, .inr d2, c3 _ _ g6 hp.1⟩, f3, .inr f2, f4⟩ hp.2
  · exact hp.elim
end
section
variable {X : Cx} {B : Bs} {a : Expr} {es : List Expr} {ta : TA} {da : DA} {k n : Nat} {f : Addr} {fd : FuncData} {ps : List Str} {fs : FS} {x : Str} {p pos : Pos}
theorem x_callLN (K : PySem.W.Frag) (hK : X.K = K) (G : FnOk X.prog X.w X.K X.mg X.base CX0 k f fd ps (spOf X.K n fs)) (hr : Room k X.A) (hm : X.mg x = some (.ref f)) (hk : PySem.W.keepIn X.K (.ref f) = true) (hb : Binds X.K fd ps []) (h : XA X B (a :: es) ta da)
    (hg : Gl X x := by rfl) (hdb : (x == ("__debug__" : Str)) = false := by decide) (he : starEach (a :: es) X.env = (false, eval a X.env) :: starEach es X.env := by rfl) (hpl : (backTo pos (starEach es X.env)).any (·.1) = false := by rfl) :
    XE X B (.Call (.Name x p) (a :: es) [] pos) (tCall (spOf K n fs) [] E0 ta) (dCallN n fs da) := by
  subst hK
  exact ⟨pe_call G hr hg hm hk hb .nil pass0 h.pa hdb he hpl, se_callLN h.sa⟩
end
section
variable {K : PySem.W.Frag} {B : Bs}
theorem se_makeL {C : String} {n : Nat} {fs : FS} {dvs : List V} {dds : List D} {E : XK} {ta : TA} {da : DA} (h : SA K B ta da) (od : Paired (fun v d => ∀ z F, Rp ⟨K, z⟩ F v d) dvs dds) : SE K B (tMake (ctOf K C) (spOf K n fs) dvs E ta) (dMakeL C n fs dds da) := fun F H σ γ Q q R hq k => by
  refine h F H σ γ _ _ R hq fun vs F1 H1 γ1 rs R1 e1 o1 ⟨h0, h2, h3⟩ x dx hx hdx ne => ?_
  obtain ⟨F2, e2, e3, all0, s2⟩ := Rep.lendL R1 (lentP o1 h0)
  have all : RpAll (B.kz K) F2 (vs ++ dvs) (rs.map RS.data ++ dds) := RpAll.of (P_app all0.p (P_mono (fun v d z => z _ _) od))
  let Z : ZN (upd (upd H1 dx (.own x)) x (.ins (ctOf K C) dx [])) := ⟨B.z, fun a ha => by
    obtain ⟨o, e⟩ := R1.znp a ha
    have n1 : a ≠ x := fun z => by subst z; rw [hx] at e; cases e
    have n2 : a ≠ dx := fun z => by subst z; rw [hdx] at e; cases e
    exact ⟨o, by rw [upd_ne n1, upd_ne n2]; exact e⟩⟩
  have RE := make_entry (B := B) (C := C) e3 all hx hdx ne Z rfl
  rw [List.map_append] at RE
  have hm : (rs.map fun r => Sx.val r.data) = (rs.map RS.data).map Sx.val := by rw [List.map_map]; rfl
  rw [hm] at h3
  refine ⟨by simp only [List.length_cons, List.length_append]; rw [P_len o1, P_len od]; omega, F2, _, Z, _, _, RE, h3, fun r as' v F3 H3 ⟨hr, hp⟩ R3 ok hk => ?_⟩
  subst hr
  have h2' : ∀ b o, H1 b = some o → (upd (upd H1 dx (.own x)) x (.ins (ctOf K C) dx [])) b = some o ∧ b ∉ [x, dx] := fun b o e => by
    have n1 : b ≠ x := fun z => by subst z; rw [hx] at e; cases e
    have n2 : b ≠ dx := fun z => by subst z; rw [hdx] at e; cases e
    exact ⟨by rw [upd_ne n1, upd_ne n2]; exact e, by simp [n1, n2]⟩
  have eH : Ex H1 H3 := fun b o e => (R3.b1 b o (h2' b o e).1).1 (h2' b o e).2
  have s3 : ∀ b o, H1 b = some o → F3 b = F2 b := fun b o e => R3.b3 b o (h2' b o e).1 (h2' b o e).2
  obtain ⟨R4, e4, c1, c2, c3⟩ := lend_back R1 R3.fh eH s3 s2
  split at hp
  · rename_i p C' fs' rest _
    obtain ⟨hC, hn, hp⟩ := hp
    subst hC
    obtain ⟨a, ea, fa, dx', fv, q1, q2, q3, q4, q5, q6⟩ := R3.sl 0 _ _ rfl rfl
    cases ea
    obtain ⟨o', g1, fs2, g2⟩ := R3.bd x _ (show (entry F2 (upd (upd H1 dx (.own x)) x (.ins (ctOf K C') dx [])) [x, dx] Z (.ref x :: (vs ++ dvs))).H x = some (.ins (ctOf K C') dx []) from upd_same)
    subst g2
    rw [g1] at q1
    cases q1
    obtain ⟨f1, f2, f3, f4⟩ := R1.fresh hx
    obtain ⟨d1, d2, d3, d4⟩ := R1.fresh hdx
    have ok' : Rp _ F3 v .non := ok
    cases ok'
    refine ⟨rfl, k _ _ H3 γ1 (.new (.ins C' fs')) R4 (e1.trans e4) ⟨x, rfl, by rw [newF_new hx]; exact fa, ⟨dx, fv, g1, q2, by rw [newF_new hdx]; exact q3, fun _ => d3, .inr d2, c3 _ _ q6 hn⟩, f3, .inr f2, f4⟩ hp⟩
  · exact hp.elim
end
section
variable {X : Cx} {B : Bs} {a : Expr} {es : List Expr} {ta : TA} {da : DA} {k n : Nat} {C : String} {f : Addr} {fd : FuncData} {ps : List Str} {fs : FS} {x : Str} {p pos : Pos}
theorem x_makeL (K : PySem.W.Frag) (hK : X.K = K) (M : Mk X.K (ctOf X.K C) f) (G : FnOk X.prog X.w X.K X.mg X.base CX0 k f fd ps (spOf X.K n fs)) (hr : Room (k + 1) X.A) (hm : X.mg x = some (.ref (ctOf X.K C))) (hb : Binds X.K fd ps []) (h : XA X B (a :: es) ta da)
    (hg : Gl X x := by rfl) (hdb : (x == ("__debug__" : Str)) = false := by decide) (he : starEach (a :: es) X.env = (false, eval a X.env) :: starEach es X.env := by rfl) (hpl : (backTo pos (starEach es X.env)).any (·.1) = false := by rfl) :
    XE X B (.Call (.Name x p) (a :: es) [] pos) (tMake (ctOf K C) (spOf K n fs) [] E0 ta) (dMakeL C n fs [] da) := by
  subst hK
  exact ⟨pe_make M G hr hg hm hb .nil pass0 h.pa hdb he hpl, se_makeL h.sa .nil⟩
theorem x_makeLD {dvs : List V} {dds : List D} {ds : List Value} (K : PySem.W.Frag) (hK : X.K = K) (M : Mk X.K (ctOf X.K C) f) (G : FnOk X.prog X.w X.K X.mg X.base CX0 k f fd ps (spOf X.K n fs)) (hr : Room (k + 1) X.A) (hm : X.mg x = some (.ref (ctOf X.K C))) (hb : Binds X.K fd ps ds) (hd : Vals dvs ds) (od : Paired (fun v d => ∀ z F, Rp ⟨X.K, z⟩ F v d) dvs dds) (h : XA X B (a :: es) ta da)
    (hg : Gl X x := by rfl) (hdb : (x == ("__debug__" : Str)) = false := by decide) (he : starEach (a :: es) X.env = (false, eval a X.env) :: starEach es X.env := by rfl) (hpl : (backTo pos (starEach es X.env)).any (·.1) = false := by rfl) :
    XE X B (.Call (.Name x p) (a :: es) [] pos) (tMake (ctOf K C) (spOf K n fs) dvs E0 ta) (dMakeL C n fs dds da) := by
  subst hK
  exact ⟨pe_make M G hr hg hm hb hd pass0 h.pa hdb he hpl, se_makeL h.sa od⟩
end
end DL

set_option Elab.async false
set_option linter.all false
set_option maxRecDepth 100000
set_option maxHeartbeats 2000000
namespace DL
open PySem PySem.Spec PyProof.Rows L2
open Evl (Ex ex_l ex_t)
/-! ### raise C(), an own class without an __init__ -/
theorem pmk_own0 {X : Cx} {C : Addr} {bmB : List Value} {B newId initId : String} {x : Str} {p pos : Pos} (F : ExcBaseFacts B newId initId bmB) (q : PySem.W.excIn X.K C bmB newId = true) (gC : X.mg x = some (.ref C)) (kC : PySem.W.keepIn X.K (.ref C) = true) (r : Raises X (.ref C)) (hg : Gl X x)
    (hdb : (x == ("__debug__" : Str)) = false := by decide) : L2N.PMk X (.Call (.Name x p) [] [] pos) (fun _ H Q => Q (.ref C) none H) := by
  intro pins s σ H Q I h
  refine wpAny_Call_Name_kw (ld_glob I hg gC ?_ hdb)
  refine PySem.W.callWith_K0 I.kIn kC ?_
  show wpAny _ _ (call (.ref C) []) _ _ _
  obtain ⟨bm, N, nm, qn, bs, hdct, sn, sub, ab, col, dd, k0, k1, k2, k3, k5, mN, hC, hN, hni, T⟩ := exc_obj I.kIn q
  refine wpAny_call_exc_subT F T hC hN hni (fun h' e hm => ?_) (by show 0 ≤ sizeLine; rw [sizeLine_eq]; omega)
  exact L2N.mk_of I hm r h (I.hok.gone hm.new)
def dRaise0 (xc : DX) (nm : Nat) (d : DEnds) (γ : Env) : Prop := xc nm none γ
theorem s_raise0 {X : Cx} {B : Bs} {ct : Nat → Addr} {W : WX} {xc : DX} {nm : Nat} {x : Str} {p pos pos2 : Pos} {bmB : List Value} {BB newId initId : String} (hc : X.calm = true) (xo : XOk X.K ct B W xc) (tk : L2N.Takes X W) (F : ExcBaseFacts BB newId initId bmB) (q : PySem.W.excIn X.K (ct nm) bmB newId = true) (gC : X.mg x = some (.ref (ct nm))) (kC : PySem.W.keepIn X.K (.ref (ct nm)) = true) (r : Raises X (.ref (ct nm))) (hg : Gl X x := by rfl)
    (hdb : (x == ("__debug__" : Str)) = false := by decide) : XS X B (.Raise (some (.Call (.Name x p) [] [] pos)) none pos2) (fun _ σ H => W (.ref (ct nm)) none σ H) (dRaise0 xc nm) := ⟨L2N.ps_raise hc tk (pmk_own0 F q gC kC r hg hdb), fun F H σ γ E d R hq k => xo F H σ γ nm none none R trivial hq⟩
/-! ### a number of the module -/
theorem x_gint {X : Cx} {B : Bs} {x : Str} {i : Int} {t : Tok} {pos : Pos} (hm : X.mg x = some (.int i t)) (hg : Gl X x := by rfl) (hd : (x == ("__debug__" : Str)) = false := by decide) : XE X B (.Name x pos) (tC (.int i)) (dC (.int i)) := x_glob hg hm ⟨_, rfl⟩ (fun _ _ => .int i) hd
end DL

set_option Elab.async false
set_option linter.all false
set_option maxRecDepth 100000
set_option maxHeartbeats 2000000
namespace DL
open PySem PySem.Spec PyProof.Rows L2
open Evl (Ex ex_l ex_t)
/-! ### [e for .. in .. for .. in ..] -/
def dLc2 (di : DI) (dg : DG) (dt : DT) (di1 : DI) (dg1 : DG) (dt1 : DT) (de : DE) (vs vs1 : List Nat) (γ : Env) (q : RS → Env → Prop) : Prop := di γ fun n y γ1 => ∃ I : Nat → List D → Env → Prop, I 0 [] (wipeG γ1 vs) ∧
  (∀ i acc γ2, i < n → I i acc γ2 → ∀ x, y i x → dg x γ2 fun γ3 => dt γ3 fun b γ4 => (b = true → di1 γ4 fun n1 y1 γ5 => ∃ I1 : Nat → List D → Env → Prop, I1 0 acc (wipeG γ5 vs1) ∧
    (∀ j acc1 γ6, j < n1 → I1 j acc1 γ6 → ∀ x1, y1 j x1 → dg1 x1 γ6 fun γ7 => dt1 γ7 fun b1 γ8 => (b1 = true → de γ8 fun s γ9 => s.kept ∧ acc1.length < 1000000 ∧ I1 (j + 1) (acc1 ++ [s.data]) (wipeG γ9 vs1)) ∧ (b1 = false → I1 (j + 1) acc1 (wipeG γ8 vs1))) ∧
    ∀ acc1 γ6, I1 n1 acc1 γ6 → I (i + 1) acc1 (wipeG γ6 vs)) ∧ (b = false → I (i + 1) acc (wipeG γ4 vs))) ∧
  ∀ acc γ2, I n acc γ2 → q (.new (.lst acc)) (restore γ1 γ2 vs)
/-- between turns: the list at L holds acc -/
structure LSt (K : PySem.W.Frag) (B : Bs) (F1 : Hp) (L : Addr) (σ : L2.St) (acc : List D) (γ : Env) (H : Hp) (F : Hp) (va : List V) : Prop where
  R : Rep K B F H σ γ
  e : Ex F1 F
  h : H L = some (.lst va)
  f : F L = none
  r : RpAll (B.kz K) F va acc
  na : ∀ (j : Nat) p c, γ[j]? = some (.own p c) → σ[j]? ≠ some (some (.ref L))
section
variable {K : PySem.W.Frag} {B : Bs} {F1 H F : Hp} {L : Addr} {σ : L2.St} {acc : List D} {γ : Env} {va : List V}
theorem LSt.off (S : LSt K B F1 L σ acc γ H F va) : L ∉ ownsOf σ γ H := fun z => by
  obtain ⟨j, a, p, c, h1, h2, h3⟩ := mem_owns.mp z
  rcases h3 with rfl | ⟨C, fs, h3⟩
  · exact S.na j p c h2 h1
  · obtain ⟨_, ok⟩ := S.R.ownObj h2 h1
    cases c with
    | lst ds => obtain ⟨_, q1, _⟩ := ok; rw [h3] at q1; cases q1
    | dct ds => obtain ⟨_, q1, _⟩ := ok; rw [h3] at q1; cases q1
    | ins C' fs' =>
      obtain ⟨dx, fv, q1, q2, _⟩ := ok
      rw [h3] at q1
      injection q1 with q1
      injection q1 with _ q1 _
      rw [← q1, S.h] at q2; cases q2
/-- what goes on over a base taken here keeps the list -/
theorem LSt.keep (S : LSt K B F1 L σ acc γ H F va) {F' H' : Hp} {σ' : L2.St} {γ' : Env} (R' : Rep K (B.re F H σ γ) F' H' σ' γ') (ex : Ex F F') : LSt K B F1 L σ' acc γ' H' F' va := by
  have nL := S.off
  refine ⟨S.R.back R', S.e.trans ex, (R'.b1 L _ S.h).1 nL, (R'.b3 L _ S.h nL).trans S.f, S.r.mono ex, fun j p c h1 h2 => ?_⟩
  rcases R'.b5 j L p c h1 h2 with z | z
  · exact nL z
  · have z' : H L = none := z
    rw [S.h] at z'; cases z'
theorem wipeG_own {vs : List Nat} {j : Nat} {p : Option Nat} {c : OC} (h : (wipeG γ vs)[j]? = some (.own p c)) : γ[j]? = some (.own p c) := by
  induction vs with
  | nil => exact h
  | cons v vs ih =>
    unfold wipeG at h
    rcases get_put h with ⟨_, e⟩ | ⟨_, e⟩
    · cases e
    · exact ih e
theorem LSt.wipe (S : LSt K B F1 L σ acc γ H F va) (vs : List Nat) : LSt K B F1 L (L2.wipe σ vs) acc (wipeG γ vs) H F va := ⟨S.R.wipe vs, S.e, S.h, S.f, S.r, fun j p c h1 h2 => by
  rw [wipe_get] at h2
  split at h2
  · cases h2
  · exact S.na j p c (wipeG_own h1) h2⟩
theorem LSt.add (S : LSt K B F1 L σ acc γ H F va) (bm : B.H L = none) {v : V} {d : D} (rv : Rp (B.kz K) F v d) : LSt K B F1 L σ (acc ++ [d]) γ (upd H L (.lst (va ++ [v]))) F (va ++ [v]) :=
  ⟨S.R.poke (o' := .lst (va ++ [v])) S.h (fun x z => by cases z) S.f (.inr bm) S.na ⟨_, rfl⟩, S.e, upd_same, S.f, RpAll.of (P_app S.r.p (.cons rv .nil)), S.na⟩
theorem wipe_sub {σ : L2.St} {vs vs1 : List Nat} (h : ∀ i ∈ vs1, i ∈ vs) : L2.wipe (L2.wipe σ vs1) vs = L2.wipe σ vs := by
  apply List.ext_getElem?
  intro j
  have hl : (L2.wipe σ vs1).length = σ.length := by
    have := fun k => wipe_get σ k vs1
    rcases Nat.lt_trichotomy (L2.wipe σ vs1).length σ.length with c | c | c
    · have q := this (L2.wipe σ vs1).length
      rw [List.getElem?_eq_none (Nat.le_refl _)] at q
      split at q
      · cases q
      · rw [List.getElem?_eq_getElem c] at q; cases q
    · exact c
    · have q := this σ.length
      rw [List.getElem?_eq_getElem c] at q
      split at q
      · omega
      · rw [List.getElem?_eq_none (Nat.le_refl _)] at q; cases q
  rw [wipe_get, wipe_get, wipe_get, hl]
  by_cases c : j ∈ vs ∧ j < σ.length
  · rw [if_pos c, if_pos c]
  · rw [if_neg c, if_neg c]
    by_cases c1 : j ∈ vs1 ∧ j < σ.length
    · exact absurd ⟨h j c1.1, c1.2⟩ c
    · rw [if_neg c1]
end
theorem se_lc2 {K : PySem.W.Frag} {B : Bs} {wi wi1 : TI} {di di1 : DI} {g g1 : TG} {dg dg1 : DG} {tt tt1 : TT} {dt dt1 : DT} {te : TE} {de : DE} {vs vs1 ix ix1 : List Nat} (hi : SI K B wi di) (hg : ∀ B, SG K B g dg ix) (ht : ∀ B, ST K B tt dt) (hi1 : ∀ B, SI K B wi1 di1) (hg1 : ∀ B, SG K B g1 dg1 ix1) (ht1 : ∀ B, ST K B tt1 dt1) (he : ∀ B, SE K B te de) (hs : ∀ i ∈ ix, i ∈ vs) (hs1 : ∀ i ∈ ix1, i ∈ vs1) (hv : ∀ i ∈ vs1, i ∈ vs) :
    SE K B (tLc2 wi g tt wi1 g1 tt1 te vs vs1) (dLc2 di dg dt di1 dg1 dt1 de vs vs1) := fun F H σ γ Q q R hq k => by
  refine hi F H σ γ _ _ R hq fun J F1 H1 γ1 n y R1 e1 jo ⟨I, i0, it, ie⟩ => ?_
  intro L hL
  obtain ⟨f1, f2, f3, f4⟩ := R1.fresh hL
  have S0 : LSt K B F1 L (L2.wipe σ vs) [] (wipeG γ1 vs) (upd H1 L (.lst [])) F1 [] := LSt.wipe ⟨R1.alloc _ hL, Evl.Ex.refl F1, upd_same, f1, .nil, f4⟩ vs
  refine ⟨fun i m H' => m = n - i ∧ i ≤ n ∧ ∃ F' γ' acc va, LSt K B F1 L (L2.wipe σ vs) acc γ' H' F' va ∧ I i acc γ', ⟨n, by omega, by omega, F1, _, [], [], S0, i0⟩, fun i m H' ⟨hm, hin, F2, γ2, acc, va, S2, i2⟩ => ?_⟩
  by_cases hlt : i < n
  · refine .inr ⟨jo.go B F2 H' _ γ2 i S2.R S2.e hlt, fun H3 => ∃ F' γ' acc va, LSt K B F1 L (L2.wipe σ vs) acc γ' H3 F' va ∧ I (i + 1) acc γ', fun H3 h => ⟨n - (i + 1), by omega, rfl, by omega, h⟩, fun x H3 hy => ?_⟩
    obtain ⟨F3, dd, R3, e3, rx, yx⟩ := jo.yl _ F2 H' _ γ2 i x H3 S2.R.re S2.e hlt hy rfl
    refine hg _ F3 H3 _ γ2 x dd _ _ R3 rx (it i acc γ2 hlt i2 dd yx) fun σ4 γ4 R4 o4 h4 => ?_
    have w4 : L2.wipe σ4 vs = L2.wipe σ vs := wipe_off o4 hs
    refine ⟨w4, ht _ F3 H3 σ4 γ4 _ _ R4 h4 fun b F5 H5 γ5 R5 e5 h5 => ?_⟩
    have S5 := S2.keep R5 (e3.trans e5)
    cases b with
    | false =>
      have S6 := S5.wipe vs
      rw [w4] at S6
      exact ⟨F5, _, acc, va, S6, h5.2 rfl⟩
    | true =>
      show wi1 σ4 H5 _
      refine hi1 _ F5 H5 σ4 γ5 _ _ S5.R.re (h5.1 rfl) fun J1 F6 H6 γ6 n1 y1 R6 e6 jo1 ⟨I1, j0, jt, je⟩ => ?_
      have S6 := S5.keep R6 e6
      have z6 : (B.re F5 H5 σ4 γ5).z = B.z := rfl
      refine ⟨fun j k' H7 => k' = n1 - j ∧ j ≤ n1 ∧ ∃ F' γ' acc va, LSt K B F6 L (L2.wipe σ4 vs1) acc γ' H7 F' va ∧ Ex F1 F6 ∧ I1 j acc γ', ⟨n1, by omega, by omega, F6, _, acc, va, LSt.wipe ⟨S6.R, Evl.Ex.refl F6, S6.h, S6.f, S6.r, S6.na⟩ vs1, S6.e, j0⟩, fun j k' H7 ⟨hk', hj, F7, γ7, acc7, va7, S7, e17, i7⟩ => ?_⟩
      by_cases hlt1 : j < n1
      · refine .inr ⟨jo1.go B F7 H7 _ γ7 j S7.R S7.e hlt1, fun H8 => ∃ F' γ' acc va, LSt K B F6 L (L2.wipe σ4 vs1) acc γ' H8 F' va ∧ Ex F1 F6 ∧ I1 (j + 1) acc γ', fun H8 h => ⟨n1 - (j + 1), by omega, rfl, by omega, h⟩, fun x1 H8 hy1 => ?_⟩
        obtain ⟨F8, d8, R8, e8, rx8, yx8⟩ := jo1.yl _ F7 H7 _ γ7 j x1 H8 S7.R.re S7.e hlt1 hy1 rfl
        refine hg1 _ F8 H8 _ γ7 x1 d8 _ _ R8 rx8 (jt j acc7 γ7 hlt1 i7 d8 yx8) fun σ9 γ9 R9 o9 h9 => ?_
        have w9 : L2.wipe σ9 vs1 = L2.wipe σ4 vs1 := wipe_off o9 hs1
        refine ⟨w9, ht1 _ F8 H8 σ9 γ9 _ _ R9 h9 fun b1 F10 H10 γ10 R10 e10 h10 => ?_⟩
        cases b1 with
        | false =>
          have S11 := (S7.keep R10 (e8.trans e10)).wipe vs1
          rw [w9] at S11
          exact ⟨F10, _, acc7, va7, S11, e17, h10.2 rfl⟩
        | true =>
          show te σ9 H10 _
          refine he _ F10 H10 σ9 γ10 _ _ R10 (h10.1 rfl) fun v F11 H11 γ11 s R11 e11 o11 ⟨hk, hlen, h12⟩ => ?_
          obtain ⟨F12, R12, e12, o12⟩ := o11.fz R11
          have rv := o12.kp hk
          have S12 := S7.keep R12 (((e8.trans e10).trans e11).trans e12)
          refine ⟨va7, S12.h, Nat.lt_of_lt_of_le (show va7.length < 1000001 by rw [S12.r.length]; omega) (by decide), ?_⟩
          have S13 := (S12.add f2 rv).wipe vs1
          rw [w9] at S13
          exact ⟨F12, _, _, _, S13, e17, h12⟩
      · obtain rfl : j = n1 := by omega
        refine .inl ⟨jo1.st B F7 H7 _ γ7 j S7.R S7.e (Nat.le_refl _), ?_⟩
        have S14 := S7.wipe vs
        rw [wipe_sub hv, w4] at S14
        exact ⟨F7, _, acc7, va7, ⟨S14.R, e17.trans S14.e, S14.h, S14.f, S14.r, S14.na⟩, je acc7 γ7 i7⟩
  · obtain rfl : i = n := by omega
    refine .inl ⟨jo.st B F2 H' _ γ2 i S2.R S2.e (Nat.le_refl _), ?_⟩
    have R3 : Rep K B F2 H' σ (restore γ1 γ2 vs) := Rep.rest R1 S2.R S2.e rfl
    refine k _ F2 H' _ (.new (.lst acc)) R3 (e1.trans S2.e) ⟨L, rfl, S2.f, ⟨va, S2.h, S2.r⟩, f3, .inr f2, fun j p c h1 h2 => ?_⟩ (ie acc γ2 i2)
    rcases restore_get h1 with ⟨_, z⟩ | ⟨nj, z⟩
    · unfold keepV at z
      split at z <;> cases z
    · exact S2.na j p c z (by rw [wipe_get, if_neg fun q => nj q.1]; exact h2)
section
variable {X : Cx} {B : Bs} {elt tg iter tg1 iter1 : Expr} {ifs ifs1 : List Expr} {scope : Scope} {pos spos : Pos} {wi wi1 : TI} {di di1 : DI} {g g1 : TG} {dg dg1 : DG} {tt tt1 : TT} {dt dt1 : DT} {te : TE} {de : DE} {ix ix1 : List Nat}
theorem x_lc2 (own : List (Str × Nat)) (vs1 : List Nat) (hc : X.calm = true) (hN : X.N.Nodup) (hi : XI X B tg iter wi di) (ok : BlkOk X.N X.env.scope scope own)
    (hg : ∀ (B : Bs) (s : Shared) (H : Hp) (C : Addr) (cl : List (Str × Addr)) (fp : List Addr), XG (X.blk s H scope (compEnvC scope cl C X.env) fp) B tg g dg ix) (ht : ∀ (B : Bs) (s : Shared) (H : Hp) (C : Addr) (cl : List (Str × Addr)) (fp : List Addr), XTs (X.blk s H scope (compEnvC scope cl C X.env) fp) B ifs tt dt)
    (hi1 : ∀ (B : Bs) (s : Shared) (H : Hp) (C : Addr) (cl : List (Str × Addr)) (fp : List Addr), XI (X.blk s H scope (compEnvC scope cl C X.env) fp) B tg1 iter1 wi1 di1)
    (hg1 : ∀ (B : Bs) (s : Shared) (H : Hp) (C : Addr) (cl : List (Str × Addr)) (fp : List Addr), XG (X.blk s H scope (compEnvC scope cl C X.env) fp) B tg1 g1 dg1 ix1) (ht1 : ∀ (B : Bs) (s : Shared) (H : Hp) (C : Addr) (cl : List (Str × Addr)) (fp : List Addr), XTs (X.blk s H scope (compEnvC scope cl C X.env) fp) B ifs1 tt1 dt1)
    (he : ∀ (B : Bs) (s : Shared) (H : Hp) (C : Addr) (cl : List (Str × Addr)) (fp : List Addr), XE (X.blk s H scope (compEnvC scope cl C X.env) fp) B elt te de) (hix : ∀ i ∈ ix, i ∈ own.map (·.2)) (hix1 : ∀ i ∈ ix1, i ∈ vs1) (hv : ∀ i ∈ vs1, i ∈ own.map (·.2)) (hs : ∀ x, foldedSetIterable iter X.env x = pure x := by intro _; rfl) (hs1 : ∀ env x, foldedSetIterable iter1 env x = pure x := by intro _ _; rfl) :
    XE X B (.ListComp elt [⟨tg, iter, ifs, 0⟩, ⟨tg1, iter1, ifs1, 0⟩] scope pos) (tLc2 wi g tt wi1 g1 tt1 te (own.map (·.2)) vs1) (dLc2 di dg dt di1 dg1 dt1 de (own.map (·.2)) vs1) :=
  ⟨pe_lc2 hc hN hi.pi ok hv (fun s H C cl fp => (hg B s H C cl fp).pg) (fun s H C cl fp => (ht B s H C cl fp).pt) (fun s H C cl fp => (hi1 B s H C cl fp).pi) (fun s H C cl fp => (hg1 B s H C cl fp).pg) (fun s H C cl fp => (ht1 B s H C cl fp).pt) (fun s H C cl fp => (he B s H C cl fp).pe) hs hs1,
    se_lc2 hi.si (fun B => (hg B X.s_0 X.H_0 0 [] []).sg) (fun B => (ht B X.s_0 X.H_0 0 [] []).st) (fun B => (hi1 B X.s_0 X.H_0 0 [] []).si) (fun B => (hg1 B X.s_0 X.H_0 0 [] []).sg) (fun B => (ht1 B X.s_0 X.H_0 0 [] []).st) (fun B => (he B X.s_0 X.H_0 0 [] []).se) hix hix1 hv⟩
theorem s_setLc2 (i : Nat) (own : List (Str × Nat)) (vs1 : List Nat) {y : Str} {py : Pos} (hc : X.calm = true) (hN : X.N.Nodup) (hi : XI X B tg iter wi di) (ok : BlkOk X.N X.env.scope scope own)
    (hg : ∀ (B : Bs) (s : Shared) (H : Hp) (C : Addr) (cl : List (Str × Addr)) (fp : List Addr), XG (X.blk s H scope (compEnvC scope cl C X.env) fp) B tg g dg ix) (ht : ∀ (B : Bs) (s : Shared) (H : Hp) (C : Addr) (cl : List (Str × Addr)) (fp : List Addr), XTs (X.blk s H scope (compEnvC scope cl C X.env) fp) B ifs tt dt)
    (hi1 : ∀ (B : Bs) (s : Shared) (H : Hp) (C : Addr) (cl : List (Str × Addr)) (fp : List Addr), XI (X.blk s H scope (compEnvC scope cl C X.env) fp) B tg1 iter1 wi1 di1)
    (hg1 : ∀ (B : Bs) (s : Shared) (H : Hp) (C : Addr) (cl : List (Str × Addr)) (fp : List Addr), XG (X.blk s H scope (compEnvC scope cl C X.env) fp) B tg1 g1 dg1 ix1) (ht1 : ∀ (B : Bs) (s : Shared) (H : Hp) (C : Addr) (cl : List (Str × Addr)) (fp : List Addr), XTs (X.blk s H scope (compEnvC scope cl C X.env) fp) B ifs1 tt1 dt1)
    (he : ∀ (B : Bs) (s : Shared) (H : Hp) (C : Addr) (cl : List (Str × Addr)) (fp : List Addr), XE (X.blk s H scope (compEnvC scope cl C X.env) fp) B elt te de) (hix : ∀ i ∈ ix, i ∈ own.map (·.2)) (hix1 : ∀ i ∈ ix1, i ∈ vs1) (hv : ∀ i ∈ vs1, i ∈ own.map (·.2)) (hsw : swapsWith (.ListComp elt [⟨tg, iter, ifs, 0⟩, ⟨tg1, iter1, ifs1, 0⟩] scope pos) (some (.Name y py)) spos.line X.env = pure true)
    (hy : X.N[i]? = some y := by rfl) (hyl : X.env.scope.names.lookup y = some .local := by rfl) (hs : ∀ x, foldedSetIterable iter X.env x = pure x := by intro _; rfl) (hs1 : ∀ env x, foldedSetIterable iter1 env x = pure x := by intro _ _; rfl) :
    XS X B (.Assign [.Name y py] (.ListComp elt [⟨tg, iter, ifs, 0⟩, ⟨tg1, iter1, ifs1, 0⟩] scope pos) spos) (tAsg (tLc2 wi g tt wi1 g1 tt1 te (own.map (·.2)) vs1) (gName i)) (dAsg i (dLc2 di dg dt di1 dg1 dt1 de (own.map (·.2)) vs1)) :=
  ⟨ps_setLc2 hc hN hy hyl hsw hi.pi ok hv (fun s H C cl fp => (hg B s H C cl fp).pg) (fun s H C cl fp => (ht B s H C cl fp).pt) (fun s H C cl fp => (hi1 B s H C cl fp).pi) (fun s H C cl fp => (hg1 B s H C cl fp).pg) (fun s H C cl fp => (ht1 B s H C cl fp).pt) (fun s H C cl fp => (he B s H C cl fp).pe) hs hs1,
    sa_name (se_lc2 hi.si (fun B => (hg B X.s_0 X.H_0 0 [] []).sg) (fun B => (ht B X.s_0 X.H_0 0 [] []).st) (fun B => (hi1 B X.s_0 X.H_0 0 [] []).si) (fun B => (hg1 B X.s_0 X.H_0 0 [] []).sg) (fun B => (ht1 B X.s_0 X.H_0 0 [] []).st) (fun B => (he B X.s_0 X.H_0 0 [] []).se) hix hix1 hv)⟩
end
end DL

set_option Elab.async false
set_option linter.all false
set_option maxRecDepth 100000
set_option maxHeartbeats 2000000
namespace DL
open PySem PySem.Spec PyProof.Rows L2
/-! ### loops told by the few slots that change -/
def puts (γ : Env) : List (Nat × Sx) → Env
  | [] => γ
  | (i, s) :: r => puts (put γ i s) r
theorem for_up {V : Type} (U : V → List (Nat × Sx)) (P : Nat → V → Prop) (v0 : V) {n : Nat} {y : Nat → D → Prop} {γ1 : Env} {dg : DG} {db : DS} {d : DEnds} (e0 : puts γ1 (U v0) = γ1) (h0 : P 0 v0)
    (hs : ∀ i v, i < n → P i v → ∀ x, y i x → dg x (puts γ1 (U v)) fun γ3 => db { nx := fun γ => ∃ v', puts γ1 (U v') = γ ∧ P (i + 1) v', ct := fun γ => ∃ v', puts γ1 (U v') = γ ∧ P (i + 1) v', bk := d.nx, rt := d.rt } γ3)
    (hd : ∀ v, P n v → d.nx (puts γ1 (U v))) : ForOk n y γ1 dg db d :=
  for_ok (fun i γ => ∃ v, puts γ1 (U v) = γ ∧ P i v) ⟨v0, e0, h0⟩ (fun i γ2 hi ⟨v, e, hp⟩ x hx => by subst e; exact hs i v hi hp x hx) (fun γ2 ⟨v, e, hp⟩ => by subst e; exact hd v hp)
/-- a comprehension told by what it has made -/
theorem lc_a {n : Nat} {y : Nat → D → Prop} {γ1 : Env} {dg : DG} {dt : DT} {de : DE} {vs : List Nat} {q : RS → Env → Prop} (hn : n ≤ 1000000) (A : Nat → List D) (h0 : A 0 = [])
    (hs : ∀ i x, i < n → y i x → dg x (wipeG γ1 vs) fun γ3 => dt γ3 fun b γ4 => (b = true → de γ4 fun s γ5 => s.kept ∧ A i ++ [s.data] = A (i + 1) ∧ wipeG γ5 vs = wipeG γ1 vs) ∧ (b = false → A i = A (i + 1) ∧ wipeG γ4 vs = wipeG γ1 vs))
    (hf : q (.new (.lst (A n))) (restore γ1 (wipeG γ1 vs) vs)) : LcOk n y γ1 dg dt de vs q :=
  lc_ok hn (fun i acc γ => acc = A i ∧ γ = wipeG γ1 vs) ⟨h0.symm, rfl⟩ (fun i acc γ hi ⟨e1, e2⟩ x hx => by
    subst e1; subst e2
    exact hs i x hi hx) fun acc γ ⟨e1, e2⟩ => by subst e1; subst e2; exact hf
theorem take_snoc {α : Type} {l : List α} {i : Nat} {x : α} (h : l[i]? = some x) : l.take i ++ [x] = l.take (i + 1) := by
  rw [List.take_add_one, h]; rfl
theorem rev_get {α : Type} {l : List α} {i : Nat} (h : i < l.length) : l.reverse[i]? = l[l.length - 1 - i]? := by
  rw [List.getElem?_reverse h]
theorem deq_lcn {x : D} {xs : List D} : deq (.lst (x :: xs)) (.lst []) = false := by simp [deq, PyData.eqv, D.py, pyAll, PyData.eqvAll]
theorem deq_lnc {x : D} {xs : List D} : deq (.lst []) (.lst (x :: xs)) = false := by simp [deq, PyData.eqv, D.py, pyAll, PyData.eqvAll]
theorem mapD_get {ns : List Int} {i : Nat} {x : D} (h : (ns.map D.int)[i]? = some x) : ∃ a, ns[i]? = some a ∧ x = .int a := by
  rw [List.getElem?_map] at h
  cases e : ns[i]? with
  | none => rw [e] at h; cases h
  | some a => rw [e] at h; cases h; exact ⟨a, rfl, rfl⟩
/-- two clauses -/
def Lc2In (I : List D → Env → Prop) (acc : List D) (n1 : Nat) (y1 : Nat → D → Prop) (γ5 : Env) (dg1 : DG) (dt1 : DT) (de : DE) (vs vs1 : List Nat) : Prop := ∃ I1 : Nat → List D → Env → Prop, I1 0 acc (wipeG γ5 vs1) ∧
    (∀ j acc1 γ6, j < n1 → I1 j acc1 γ6 → ∀ x1, y1 j x1 → dg1 x1 γ6 fun γ7 => dt1 γ7 fun b1 γ8 => (b1 = true → de γ8 fun s γ9 => s.kept ∧ acc1.length < 1000000 ∧ I1 (j + 1) (acc1 ++ [s.data]) (wipeG γ9 vs1)) ∧ (b1 = false → I1 (j + 1) acc1 (wipeG γ8 vs1))) ∧
    ∀ acc1 γ6, I1 n1 acc1 γ6 → I acc1 (wipeG γ6 vs)
def Lc2Ok (n : Nat) (y : Nat → D → Prop) (γ1 : Env) (dg : DG) (dt : DT) (di1 : DI) (dg1 : DG) (dt1 : DT) (de : DE) (vs vs1 : List Nat) (q : RS → Env → Prop) : Prop := ∃ I : Nat → List D → Env → Prop, I 0 [] (wipeG γ1 vs) ∧
  (∀ i acc γ2, i < n → I i acc γ2 → ∀ x, y i x → dg x γ2 fun γ3 => dt γ3 fun b γ4 => (b = true → di1 γ4 fun n1 y1 γ5 => Lc2In (I (i + 1)) acc n1 y1 γ5 dg1 dt1 de vs vs1) ∧ (b = false → I (i + 1) acc (wipeG γ4 vs))) ∧
  ∀ acc γ2, I n acc γ2 → q (.new (.lst acc)) (restore γ1 γ2 vs)
theorem dLc2_eq {di : DI} {dg : DG} {dt : DT} {di1 : DI} {dg1 : DG} {dt1 : DT} {de : DE} {vs vs1 : List Nat} {γ : Env} {q : RS → Env → Prop} : dLc2 di dg dt di1 dg1 dt1 de vs vs1 γ q = di γ fun n y γ1 => Lc2Ok n y γ1 dg dt di1 dg1 dt1 de vs vs1 q := rfl
theorem lc2_a {n : Nat} {y : Nat → D → Prop} {γ1 : Env} {dg : DG} {dt : DT} {di1 : DI} {dg1 : DG} {dt1 : DT} {de : DE} {vs vs1 : List Nat} {q : RS → Env → Prop} (A : Nat → List D) (h0 : A 0 = [])
    (hs : ∀ i x, i < n → y i x → dg x (wipeG γ1 vs) fun γ3 => dt γ3 fun b γ4 => (b = true → di1 γ4 fun n1 y1 γ5 => Lc2In (fun acc γ => acc = A (i + 1) ∧ γ = wipeG γ1 vs) (A i) n1 y1 γ5 dg1 dt1 de vs vs1) ∧ (b = false → A i = A (i + 1) ∧ wipeG γ4 vs = wipeG γ1 vs))
    (hf : q (.new (.lst (A n))) (restore γ1 (wipeG γ1 vs) vs)) : Lc2Ok n y γ1 dg dt di1 dg1 dt1 de vs vs1 q :=
  ⟨fun i acc γ => acc = A i ∧ γ = wipeG γ1 vs, ⟨h0.symm, rfl⟩, fun i acc γ hi ⟨e1, e2⟩ x hx => by
    subst e1; subst e2
    exact hs i x hi hx, fun acc γ ⟨e1, e2⟩ => by subst e1; subst e2; exact hf⟩
theorem lc2_in {I : List D → Env → Prop} {acc : List D} {n1 : Nat} {y1 : Nat → D → Prop} {γ5 : Env} {dg1 : DG} {dt1 : DT} {de : DE} {vs vs1 : List Nat} (A : Nat → List D) (h0 : A 0 = acc)
    (hs : ∀ j x1, j < n1 → y1 j x1 → dg1 x1 (wipeG γ5 vs1) fun γ7 => dt1 γ7 fun b1 γ8 => (b1 = true → de γ8 fun s γ9 => s.kept ∧ (A j).length < 1000000 ∧ A j ++ [s.data] = A (j + 1) ∧ wipeG γ9 vs1 = wipeG γ5 vs1) ∧ (b1 = false → A j = A (j + 1) ∧ wipeG γ8 vs1 = wipeG γ5 vs1))
    (hf : I (A n1) (wipeG (wipeG γ5 vs1) vs)) : Lc2In I acc n1 y1 γ5 dg1 dt1 de vs vs1 :=
  ⟨fun j acc γ => acc = A j ∧ γ = wipeG γ5 vs1, ⟨h0.symm, rfl⟩, fun j acc γ hj ⟨e1, e2⟩ x hx => by
    subst e1; subst e2
    exact hs j x hj hx, fun acc γ ⟨e1, e2⟩ => by subst e1; subst e2; exact hf⟩
theorem ok_bl (b : Bool) : dOkN 0 (.bl b) = true := by
  unfold dOkN
  simp only [D.pure, D.py, PyData.canLay0, PyData.depth, Bool.true_and, decide_eq_true_eq]
  omega
theorem cut_mid {α : Type} {xs : List α} {i j : Nat} (h : i ≤ j) : cut xs (some (i : Int)) (some (j : Int)) = (xs.drop i).take (j - i) := by
  unfold cut
  rw [HT.sIx_nat, HT.sIx_nat]
  by_cases c : i ≤ xs.length
  · rw [Nat.min_eq_left c, List.take_eq_take_iff, List.length_drop]
    omega
  · rw [Nat.min_eq_right (a := i) (by omega), List.drop_of_length_le (Nat.le_refl _), List.drop_of_length_le (by omega), List.take_nil, List.take_nil]
theorem rg_up {n m : Nat} (hm : 0 < m) (h1 : m < 1000000) (h2 : n < 1000000000) : RgC 0 (n : Int) (m : Int) ((n + m - 1) / m) := by
  have e : Builtin.Range.rangeSize 0 (n : Int) (m : Int) = ((n + m - 1) / m : Nat) := by
    unfold Builtin.Range.rangeSize
    rw [if_pos (by omega)]
    by_cases c : n = 0
    · subst c
      rw [if_neg (by omega), Nat.div_eq_of_lt (by omega)]
      rfl
    · rw [if_pos (by omega), show (n : Int) - 0 - 1 = ((n - 1 : Nat) : Int) by omega, show n + m - 1 = (n - 1) + m by omega, Nat.add_div_right _ hm]
      push_cast
      rfl
  refine ⟨by omega, by omega, ?_, e⟩
  have hle : (n + m - 1) / m ≤ n + m - 1 := Nat.div_le_self _ _
  unfold Builtin.Range.small
  rw [e]
  generalize (n + m - 1) / m = k at hle
  simp only [Builtin.Range.rangeFitsLong, Bool.and_eq_true, Bool.or_eq_true, decide_eq_true_eq, beq_iff_eq]
  refine ⟨⟨⟨⟨by omega, by omega⟩, by omega, by omega⟩, by omega, by omega⟩, .inr ?_⟩
  rw [if_pos (by omega)]
  simp only [Bool.and_eq_true, decide_eq_true_eq]
  omega
end DL

set_option Elab.async false
set_option linter.all false
set_option maxRecDepth 100000
set_option maxHeartbeats 2000000
/-! ### sorted(xs), any data that are alike -/
namespace DL
open PySem PySem.Spec PyProof.Rows L2
open Evl (Ex ex_l ex_t)
/-- not above -/
def dle (a b : D) : Bool := !PySem.W.dataLt b.py a.py
/-- they can be sorted -/
structure SrtOk (ds : List D) : Prop where
  pure : pureAll ds = true
  len : ds.length ≤ 1000000
  ak : PySem.W.AllAlike (ds.map D.py)
  srt : PySem.W.Sortable (ds.map D.py)
  dep : ∀ d ∈ ds, d.py.depth ≤ 60
def rSortedD (K : PySem.W.Frag) : List V → Hp → VK → Prop := fun vs H Q => ∃ (a : Addr) (xs : List V) (ds : List D), vs = [V.ref a] ∧ SqL K H a xs ∧ DpAll K H xs (pyAll ds) ∧ SrtOk ds ∧
  ∀ (ys : List V) (p : Addr), (∀ G : V → D → Prop, Paired G xs ds → Paired G ys (ds.mergeSort dle)) → H p = none → Q (.ref p) (upd H p (.lst ys))
theorem pyAll_eq : ∀ ds : List D, pyAll ds = ds.map D.py
  | [] => rfl
  | d :: ds => by rw [pyAll, pyAll_eq ds]; rfl
theorem dpAll_p {K : PySem.W.Frag} {H : Hp} : ∀ {vs : List V} {ds : List D}, DpAll K H vs (pyAll ds) → Paired (fun v (d : D) => Dp K H v d.py) vs ds
  | [], [], _ => .nil
  | [], d :: ds, h => by rw [pyAll] at h; cases h
  | v :: vs, [], h => by rw [pyAll] at h; cases h
  | v :: vs, d :: ds, h => by
    rw [pyAll] at h
    cases h with
    | cons a b => exact .cons a (dpAll_p b)
theorem pr_zip {α β : Type} {G : α → β → Prop} : ∀ {l : List α} {m : List β}, Paired G l m → ∀ p ∈ l.zip m, G p.1 p.2
  | _, _, .nil, p, h => by simp at h
  | _, _, .cons a b, p, h => by
    rcases List.mem_cons.mp h with rfl | h
    · exact a
    · exact pr_zip b p h
theorem pr_of_zip {α β : Type} {G : α → β → Prop} : ∀ {z : List (α × β)}, (∀ p ∈ z, G p.1 p.2) → Paired G (z.map Prod.fst) (z.map Prod.snd)
  | [], _ => .nil
  | p :: z, h => .cons (h p List.mem_cons_self) (pr_of_zip fun q hq => h q (List.mem_cons_of_mem _ hq))
theorem each_zip {α β γ : Type} {R : α → β → Prop} {S : γ → α × β → Prop} : ∀ {us : List γ} {l : List α} {m : List β}, us.length = l.length → l.length = m.length → (∀ (i : Nat) u a b, us[i]? = some u → l[i]? = some a → m[i]? = some b → S u (a, b)) → PySem.W.EachIs S us (l.zip m)
  | [], [], [], _, _, _ => .nil
  | [], [], _ :: _, _, h, _ => by simp at h
  | [], _ :: _, _, h, _, _ => by simp at h
  | _ :: _, [], _, h, _, _ => by simp at h
  | _ :: _, _ :: _, [], _, h, _ => by simp at h
  | u :: us, a :: l, b :: m, h1, h2, k => .cons (k 0 u a b rfl rfl rfl) (each_zip (R := R) (by simpa using h1) (by simpa using h2) fun i x y z e1 e2 e3 => k (i + 1) x y z (by simpa using e1) (by simpa using e2) (by simpa using e3))
theorem each_vals {z : List (V × D)} : ∀ {us : List Value} {zs : List (V × D)}, PySem.W.EachIs (fun u (p : V × D) => RelV p.1 u) us zs → Vals (zs.map Prod.fst) us
  | _, _, .nil => .nil
  | _, _, .cons a b => .cons a (each_vals (z := z) b)
theorem vals_each : ∀ {vs : List V} {us : List Value}, Vals vs us → vs.length = us.length ∧ ∀ (i : Nat) v u, vs[i]? = some v → us[i]? = some u → RelV v u
  | _, _, .nil => ⟨rfl, fun i v u h => by simp at h⟩
  | _, _, .cons a b => by
    obtain ⟨h1, h2⟩ := vals_each b
    refine ⟨by simp [h1], fun i v u e1 e2 => ?_⟩
    cases i with
    | zero => simp at e1 e2; subst e1; subst e2; exact a
    | succ i => exact h2 i v u (by simpa using e1) (by simpa using e2)
theorem cr_sortedD {X : Cx} (hu : X.A.units + 64 < cLine) : CallR X (.builtin "sorted") (rSortedD X.K) := by
  intro pins s σ H vs us Q I r h
  obtain ⟨a, xs, ds, rfl, hs, hd, ok, q⟩ := h
  obtain ⟨its, rv, hl, hz⟩ := I.list hs
  rw [Vals.ref1 r]
  obtain ⟨e1, e2⟩ := vals_each rv
  have pd := dpAll_p hd
  have e3 := P_len pd
  have hlen : (xs.zip ds).length = ds.length := by rw [List.length_zip, e3, Nat.min_self]
  have hmap : (xs.zip ds).map (fun p => p.2.py) = ds.map D.py := by
    have : (xs.zip ds).map Prod.snd = ds := List.map_snd_zip (by omega)
    conv => rhs; rw [← this, List.map_map]
    rfl
  refine PySem.W.sorted_data (R := fun u (p : V × D) => RelV p.1 u) (enc := fun p : V × D => p.2.py) (bs := xs.zip ds) hl.isList
    (each_zip (R := fun _ _ => True) (by rw [← e1]) e3 fun i u a b h1 h2 h3 => e2 i a u h2 h1)
    (each_zip (R := fun _ _ => True) (by rw [← e1]) e3 fun i u a b h1 h2 h3 => ?_) (by rw [hmap]; exact ok.ak) (by rw [hmap]; exact ok.srt) (by rw [hlen]; exact sz_le ok.len) (fun b hb => ?_) fun out h1 h2 => ?_
  · obtain ⟨d', hd', g⟩ := P_getL pd h2
    rw [h3] at hd'
    cases hd'
    exact Dp.reads I _ _ _ g (e2 i a u h2 h1)
  · have := ok.dep b.2 (List.of_mem_zip hb).2
    omega
  · obtain ⟨ep, he'⟩ := PyProof.Rows.sortedAll_at s.heap its out.toArray
    have hsnd : ((xs.zip ds).mergeSort (PySem.W.dataLe false fun p : V × D => p.2.py)).map Prod.snd = ds.mergeSort dle := by
      have e := List.map_mergeSort (r := PySem.W.dataLe false fun p : V × D => p.2.py) (s := dle) (f := Prod.snd) (l := xs.zip ds) (fun a _ b _ => rfl)
      rw [e, List.map_snd_zip (by omega)]
    have hperm := List.mergeSort_perm (xs.zip ds) (PySem.W.dataLe false fun p : V × D => p.2.py)
    generalize (xs.zip ds).mergeSort (PySem.W.dataLe false fun p : V × D => p.2.py) = Z at h2 hsnd hperm
    have hv := each_vals (z := Z) h2
    have hzl : (Z.map Prod.fst).length ≤ sizeLine := by
      rw [List.length_map, hperm.length_eq, hlen]
      exact sz_le ok.len
    refine ⟨.ref _, upd H (s.heap.objs.size + 1) (.lst (Z.map Prod.fst)), I.laid (t' := s.toks) (fun _ _ => PyProof.Rows.sortedAll_old) (Nat.le_succ _) ⟨hzl, out, ep, hv, he'⟩, rfl, q _ _ (fun G g => ?_) (I.hok.fresh (Nat.le_succ _))⟩
    rw [← hsnd]
    exact pr_of_zip fun p hp => pr_zip g p (hperm.mem_iff.mp hp)
def fSorted : List D → (RS → Prop) → Prop
  | [.lst ds], q => SrtOk ds ∧ q (.new (.lst (ds.mergeSort dle)))
  | _, _ => False
theorem cd_sorted {K : PySem.W.Frag} : CallD K (rSortedD K) fSorted := fun B F H σ γ xs ds Q q R rx hf k => by
  unfold fSorted at hf
  split at hf
  · rename_i es
    obtain ⟨x, rfl, r⟩ := one_rs rx
    obtain ⟨a, vs, rfl, ha, ra⟩ := r.lst R.fh
    obtain ⟨ok, hq⟩ := hf
    refine ⟨a, vs, es, rfl, SqL.of ha, ra.dp R.fh ok.pure, ok, fun ys p g hp => ?_⟩
    obtain ⟨R', o⟩ := R.newL hp (RpAll.of (g _ ra.p))
    exact k _ F _ _ R' (Evl.Ex.refl F) o hq
  · exact hf.elim
/-! sorted, in plain words -/
theorem py_map {α : Type} (f : α → D) (xs : List α) : (xs.map f).map D.py = xs.map fun x => (f x).py := List.map_map
theorem sort_map {α : Type} {f : α → D} {le : α → α → Bool} (h : ∀ a b, dle (f a) (f b) = le a b) (xs : List α) : (xs.map f).mergeSort dle = (xs.mergeSort le).map f := (List.map_mergeSort (fun a _ b _ => (h a b).symm)).symm
theorem srtOk_of {α : Type} {f : α → D} {xs : List α} (hp : ∀ x, (f x).pure = true) (hl : xs.length ≤ 1000000) (ha : ∀ x y, PySem.W.alike (f x).py (f y).py = true) (hs : (∀ b, ∃ x r, (f b).py = .tuple (x :: r)) ∨ ∀ b, (f b).py ≠ .none ∧ ∀ xs, (f b).py ≠ .tuple xs) (hd : ∀ x, (f x).py.depth ≤ 60) : SrtOk (xs.map f) := by
  refine ⟨pureAll_map f hp xs, by simpa using hl, by rw [py_map]; exact PySem.W.AllAlike.of ha, ?_, fun d h => ?_⟩
  · rw [py_map]
    rcases hs with h | h
    · exact PySem.W.Sortable.tuples h
    · exact PySem.W.Sortable.others h
  · obtain ⟨x, _, rfl⟩ := List.mem_map.mp h
    exact hd x
theorem srtOk_ints {ns : List Int} (h : ns.length ≤ 1000000) : SrtOk (ns.map D.int) := srtOk_of (fun _ => rfl) h (fun _ _ => rfl) (.inr fun b => ⟨PyData.noConfusion, fun xs => PyData.noConfusion⟩) (fun _ => Nat.zero_le _)
theorem dle_int (a b : Int) : dle (.int a) (.int b) = decide (a ≤ b) := by
  unfold dle
  rw [show (D.int b).py = .int b from rfl, show (D.int a).py = .int a from rfl, PySem.W.dataLt_int]
  exact PySem.W.not_lt_int a b
theorem dle_str (a b : Str) : dle (.str a) (.str b) = decide (a.cps.toList ≤ b.cps.toList) := by
  unfold dle
  rw [show (D.str b).py = .str b from rfl, show (D.str a).py = .str a from rfl, PySem.W.dataLt_str]
  exact PySem.W.not_lt_str _ _
theorem sort_ints (ns : List Int) : (ns.map D.int).mergeSort dle = (ns.mergeSort fun a b => decide (a ≤ b)).map D.int := sort_map dle_int ns
end DL

set_option Elab.async false
set_option linter.all false
set_option maxRecDepth 100000
set_option maxHeartbeats 2000000
/-! ### order of numbers or texts; in -/
namespace DL
open PySem PySem.Spec PyProof.Rows L2
open Evl (Ex ex_l ex_t)
def rOr (r s : R2) : R2 := fun x y H Q => r x y H Q ∨ s x y H Q
theorem op_or2 {X : Cx} {f : Value → Value → Sem Value} {r s : R2} (h1 : OpR X f r) (h2 : OpR X f s) : OpR X f (rOr r s) := by
  intro pins s' σ H x y v u Q I rx ry h
  rcases h with h | h
  · exact h1 pins s' σ H x y v u Q I rx ry h
  · exact h2 pins s' σ H x y v u Q I rx ry h
theorem od_or {K : PySem.W.Frag} {r s : R2} {f g e : D → D → (RS → Prop) → Prop} (h1 : OpD K r f) (h2 : OpD K s g) (h : ∀ a b q, e a b q → f a b q ∨ g a b q) : OpD K (rOr r s) e := fun B F H σ γ x y d e' Q q R rx ry hf k => by
  rcases h _ _ _ hf with z | z
  · exact .inl (h1 B F H σ γ x y d e' Q q R rx ry z k)
  · exact .inr (h2 B F H σ γ x y d e' Q q R rx ry z k)
/-- texts by code points -/
def slt (i j : Str) : Bool := decide (i.cps.toList < j.cps.toList)
def fSS (g : Str → Str → Bool) : D → D → (RS → Prop) → Prop
  | .str i, .str j, q => q (.val (.bl (g i j)))
  | _, _, _ => False
theorem od_SS {K : PySem.W.Frag} {g : Str → Str → Bool} : OpD K (fun x y H Q => ∃ i j, x = .str i ∧ y = .str j ∧ Q (.bl (g i j)) H) (fSS g) := fun B F H σ γ x y d e Q q R rx ry hf k => by
  unfold fSS at hf
  split at hf
  · exact ⟨_, _, rx.str, ry.str, vk R k (.bl _) hf⟩
  · exact hf.elim
def fV2 (g : Int → Int → Bool) (h : Str → Str → Bool) : D → D → (RS → Prop) → Prop
  | .int i, .int j, q => q (.val (.bl (g i j)))
  | .str i, .str j, q => q (.val (.bl (h i j)))
  | _, _, _ => False
theorem od_V2 {K : PySem.W.Frag} {g : Int → Int → Bool} {h : Str → Str → Bool} {r s : R2} (h1 : OpD K r (fI0 fun i j => .bl (g i j))) (h2 : OpD K s (fSS h)) : OpD K (rOr r s) (fV2 g h) := od_or h1 h2 fun a b q e => by
  unfold fV2 at e
  split at e
  · exact .inl e
  · exact .inr e
  · exact e.elim
abbrev fLtV := fV2 (fun i j => decide (i < j)) slt
abbrev fGtV := fV2 (fun i j => decide (j < i)) fun i j => slt j i
abbrev fLeV := fV2 (fun i j => decide (i ≤ j)) fun i j => !slt j i
abbrev fGeV := fV2 (fun i j => decide (j ≤ i)) fun i j => !slt i j
section
variable {X : Cx} {K : PySem.W.Frag}
theorem op_ltV : OpR X (compareOp .Lt) (rOr (rI0 fun i j => .bl (decide (i < j))) fun x y H Q => ∃ i j, x = .str i ∧ y = .str j ∧ Q (.bl (slt i j)) H) := op_or2 op_lt op_lt_str
theorem op_gtV : OpR X (compareOp .Gt) (rOr (rI0 fun i j => .bl (decide (j < i))) fun x y H Q => ∃ i j, x = .str i ∧ y = .str j ∧ Q (.bl (slt j i)) H) := op_or2 op_gt op_gt_str
theorem op_leV : OpR X (compareOp .LtE) (rOr (rI0 fun i j => .bl (decide (i ≤ j))) fun x y H Q => ∃ i j, x = .str i ∧ y = .str j ∧ Q (.bl (!slt j i)) H) := op_or2 op_le op_le_str
theorem op_geV : OpR X (compareOp .GtE) (rOr (rI0 fun i j => .bl (decide (j ≤ i))) fun x y H Q => ∃ i j, x = .str i ∧ y = .str j ∧ Q (.bl (!slt i j)) H) := op_or2 op_ge op_ge_str
theorem od_ltV : OpD K (rOr (rI0 fun i j => .bl (decide (i < j))) fun x y H Q => ∃ i j, x = .str i ∧ y = .str j ∧ Q (.bl (slt i j)) H) fLtV := od_V2 od_lt od_SS
theorem od_gtV : OpD K (rOr (rI0 fun i j => .bl (decide (j < i))) fun x y H Q => ∃ i j, x = .str i ∧ y = .str j ∧ Q (.bl (slt j i)) H) fGtV := od_V2 od_gt od_SS
theorem od_leV : OpD K (rOr (rI0 fun i j => .bl (decide (i ≤ j))) fun x y H Q => ∃ i j, x = .str i ∧ y = .str j ∧ Q (.bl (!slt j i)) H) fLeV := od_V2 od_le od_SS
theorem od_geV : OpD K (rOr (rI0 fun i j => .bl (decide (j ≤ i))) fun x y H Q => ∃ i j, x = .str i ∧ y = .str j ∧ Q (.bl (!slt i j)) H) fGeV := od_V2 od_ge od_SS
end
/-! in a list or tuple of flat things -/
def D.flt : D → Bool
  | .non => true | .int _ => true | .str _ => true | _ => false
def fInQ (neg : Bool) (d e : D) (q : RS → Prop) : Prop := d.flt = true ∧ seqD e fun ds => ds.all D.flt = true ∧ q (.val (.bl (if neg then !ds.any (fun x => deq x d) else ds.any fun x => deq x d)))
theorem flt_v {K : KZ} {F : Hp} {v : V} {d : D} (r : Rp K F v d) (h : d.flt = true) : flatV v = true ∧ ∀ {w : V} {e : D}, Rp K F w e → e.flt = true → eqV w v = deq e d := by
  cases r <;> first | (exfalso; simp [D.flt] at h; done) | skip
  all_goals
    refine ⟨rfl, fun {w e} s he => ?_⟩
    cases s <;> first | (exfalso; simp [D.flt] at he; done) | (simp [eqV, deq, D.py, PyData.eqv])
theorem flt_all {K : KZ} {F : Hp} {v : V} {d : D} (r : Rp K F v d) (h : d.flt = true) : ∀ {vs : List V} {ds : List D}, RpAll K F vs ds → ds.all D.flt = true → vs.all flatV = true ∧ inV v vs = ds.any fun x => deq x d
  | _, _, .nil, _ => ⟨rfl, rfl⟩
  | _, _, .cons a b, e => by
    simp only [List.all_cons, Bool.and_eq_true] at e
    obtain ⟨h1, h2⟩ := flt_all r h b e.2
    obtain ⟨h3, _⟩ := flt_v a e.1
    have h4 := (flt_v r h).2 a e.1
    unfold inV at h2 ⊢
    exact ⟨by simp [h1, h3], by simp [h2, h4]⟩
theorem od_inQ {K : PySem.W.Frag} {neg : Bool} : OpD K (rIn K neg) (fInQ neg) := fun B F H σ γ x y d e Q q R rx ry hf k => by
  obtain ⟨hd, hf⟩ := hf
  obtain ⟨ds, he, h1, hq⟩ := seqD_of hf
  obtain ⟨a, vs, rfl, hs, ra⟩ := ry.seq R.fh he
  have rx' : Rp (B.kz K) F x d := by
    rcases rx with r | ⟨a, rfl, ⟨_, _, e, _⟩ | ⟨_, _, _, _, e, _⟩ | ⟨_, _, e, _⟩⟩
    · exact r
    all_goals (subst e; cases hd)
  obtain ⟨h2, h3⟩ := flt_all rx' hd ra h1
  refine ⟨a, vs, rfl, hs, (flt_v rx' hd).1, h2, ?_⟩
  rw [h3]
  exact vk R k (.bl _) hq
/-! one sign in a text -/
def fInC (neg : Bool) : D → D → (RS → Prop) → Prop
  | .str x, .str z, q => ∃ c, x = ⟨#[c]⟩ ∧ q (.val (.bl (if neg then !decide (c ∈ z.cps.toList) else decide (c ∈ z.cps.toList))))
  | _, _, _ => False
theorem od_inC {K : PySem.W.Frag} : OpD K (fun x y H Q => ∃ (c : Nat) (z : Str), x = .str ⟨#[c]⟩ ∧ y = .str z ∧ Q (.bl (decide (c ∈ z.cps.toList))) H) (fInC false) := fun B F H σ γ x y d e Q q R rx ry hf k => by
  unfold fInC at hf
  split at hf
  · obtain ⟨c, rfl, hq⟩ := hf
    exact ⟨c, _, rx.str, ry.str, vk R k (.bl _) hq⟩
  · exact hf.elim
theorem od_ninC {K : PySem.W.Frag} : OpD K (fun x y H Q => ∃ (c : Nat) (z : Str), x = .str ⟨#[c]⟩ ∧ y = .str z ∧ Q (.bl (!decide (c ∈ z.cps.toList))) H) (fInC true) := fun B F H σ γ x y d e Q q R rx ry hf k => by
  unfold fInC at hf
  split at hf
  · obtain ⟨c, rfl, hq⟩ := hf
    exact ⟨c, _, rx.str, ry.str, vk R k (.bl _) hq⟩
  · exact hf.elim
/-! a tuple of the module -/
theorem x_gtup {X : Cx} {B : Bs} {x : Str} {pos : Pos} {a : Addr} {vs : List V} {ds : List D} (hm : X.mg x = some (.ref a)) (ht : SqT X.K (fun _ => none) a vs) (hd : ∀ z F, RpAll ⟨X.K, z⟩ F vs ds) (hg : Gl X x := by rfl) (hdb : (x == ("__debug__" : Str)) = false := by decide) : XE X B (.Name x pos) (tC (.ref a)) (dC (.tup ds)) :=
  x_glob hg hm rfl (fun z F => .tup (ex_t (H := fun _ => none) (fun _ _ h => by cases h) ht) (hd z F)) hdb
end DL

set_option Elab.async false
set_option linter.all false
set_option maxRecDepth 100000
set_option maxHeartbeats 2000000
/-! ### dicts whose keys are numbers or texts -/
namespace DL
open PySem PySem.Spec PyProof.Rows L2
open Evl (Ex ex_l ex_t)
def keyD : D → Option Key
  | .int i => some (.inl i)
  | .str x => some (.inr x)
  | _ => none
def vlk (kd : List (Key × D)) (k : Key) : Option D := (kd.find? fun kv => decide (kv.1 = k)).map (·.2)
def ptk (kd : List (Key × D)) (k : Key) (d : D) : List (Key × D) :=
  if (kd.any fun kv => decide (kv.1 = k)) = true then kd.map (fun kv => if kv.1 = k then (kv.1, d) else kv) else kd ++ [(k, d)]
section
variable {K : KZ} {F F' H : Hp}
theorem ks_any {k : Key} : ∀ {kv : List (Key × V)} {kd : List (Key × D)}, RpKs K F kv kd → (kv.any fun p => decide (p.1 = k)) = kd.any fun p => decide (p.1 = k)
  | _, _, .nil => rfl
  | _, _, .cons a b => by simp only [List.any_cons, ks_any (k := k) b]
theorem ks_val {k : Key} : ∀ {kv : List (Key × V)} {kd : List (Key × D)}, RpKs K F kv kd → (valV kv k = none ∧ vlk kd k = none) ∨ ∃ v d, valV kv k = some v ∧ vlk kd k = some d ∧ Rp K F v d
  | _, _, .nil => .inl ⟨rfl, rfl⟩
  | _, _, @RpKs.cons _ _ n v vs d ds a b => by
    by_cases e : n = k
    · refine .inr ⟨v, d, ?_, ?_, a⟩
      · simp [valV, List.find?_cons, e]
      · simp [vlk, List.find?_cons, e]
    · rcases ks_val (k := k) b with ⟨h1, h2⟩ | ⟨v', d', h1, h2, h3⟩
      · refine .inl ⟨?_, ?_⟩
        · unfold valV at h1 ⊢; simpa [List.find?_cons, e] using h1
        · unfold vlk at h2 ⊢; simpa [List.find?_cons, e] using h2
      · refine .inr ⟨v', d', ?_, ?_, h3⟩
        · unfold valV at h1 ⊢; simpa [List.find?_cons, e] using h1
        · unfold vlk at h2 ⊢; simpa [List.find?_cons, e] using h2
theorem ks_map {k : Key} {v : V} {d : D} (r : Rp K F v d) : ∀ {kv : List (Key × V)} {kd : List (Key × D)}, RpKs K F kv kd → RpKs K F (kv.map fun p => if p.1 = k then (p.1, v) else p) (kd.map fun p => if p.1 = k then (p.1, d) else p)
  | _, _, .nil => .nil
  | _, _, @RpKs.cons _ _ n v vs d ds a b => by
    simp only [List.map_cons]
    by_cases e : n = k
    · rw [if_pos e, if_pos e]; exact .cons r (ks_map r b)
    · rw [if_neg e, if_neg e]; exact .cons a (ks_map r b)
theorem ks_app : ∀ {kv kv' : List (Key × V)} {kd kd' : List (Key × D)}, RpKs K F kv kd → RpKs K F kv' kd' → RpKs K F (kv ++ kv') (kd ++ kd')
  | _, _, _, _, .nil, h => h
  | _, _, _, _, .cons a b, h => .cons a (ks_app b h)
theorem ks_put {k : Key} {v : V} {d : D} {kv : List (Key × V)} {kd : List (Key × D)} (r : Rp K F v d) (h : RpKs K F kv kd) : RpKs K F (putK kv k v) (ptk kd k d) := by
  unfold putK ptk
  rw [ks_any h]
  split
  · exact ks_map r h
  · exact ks_app h (.cons r .nil)
theorem ks_len : ∀ {kv : List (Key × V)} {kd : List (Key × D)}, RpKs K F kv kd → kv.length = kd.length
  | _, _, .nil => rfl
  | _, _, .cons _ t => by rw [List.length_cons, List.length_cons, ks_len t]
theorem key_v {v : V} {d : D} {k : Key} (h : keyD d = some k) (r : Rs K F H v d) : v = kV k := by
  cases d <;> first | (exfalso; simp [keyD] at h; done) | skip
  · cases h; exact r.int
  · cases h; exact r.str
end
def rDGet : R2 := fun x y H Q => ∃ a v, x = .ref a ∧ DGet H a y (some v) ∧ Q v H
def rDIn (neg : Bool) : R2 := fun y x H Q => ∃ a o, x = .ref a ∧ DGet H a y o ∧ Q (.bl (if neg then !o.isSome else o.isSome)) H
def fDGet (d e : D) (q : RS → Prop) : Prop := match d with
  | .dct kd => ∃ k v, keyD e = some k ∧ vlk kd k = some v ∧ q (.val v)
  | _ => False
def fDIn (neg : Bool) (e d : D) (q : RS → Prop) : Prop := match d with
  | .dct kd => ∃ k, keyD e = some k ∧ q (.val (.bl (if neg then !(vlk kd k).isSome else (vlk kd k).isSome)))
  | _ => False
theorem od_dget {K : PySem.W.Frag} : OpD K rDGet fDGet := fun B F H σ γ x y d e Q q R rx ry hf k => by
  unfold fDGet at hf
  split at hf
  · obtain ⟨kk, v, h1, h2, hq⟩ := hf
    obtain ⟨a, kv, rfl, ha, ra⟩ := rx.dct R.fh
    have hy := key_v h1 ry
    subst hy
    rcases ks_val (k := kk) ra with ⟨_, z⟩ | ⟨u, d', g1, g2, g3⟩
    · rw [h2] at z; cases z
    · rw [h2] at g2; cases g2
      exact ⟨a, u, rfl, by rw [← g1]; exact DGet.k ha, vk R k g3 hq⟩
  · exact hf.elim
theorem od_din {K : PySem.W.Frag} {neg : Bool} : OpD K (rDIn neg) (fDIn neg) := fun B F H σ γ x y d e Q q R rx ry hf k => by
  unfold fDIn at hf
  split at hf
  · rename_i kd
    obtain ⟨kk, h1, hq⟩ := hf
    obtain ⟨a, kv, rfl, ha, ra⟩ := ry.dct R.fh
    have hy := key_v h1 rx
    subst hy
    refine ⟨a, _, rfl, DGet.k ha, ?_⟩
    have e : (valV kv kk).isSome = (vlk kd kk).isSome := by
      rcases ks_val (k := kk) ra with ⟨z1, z2⟩ | ⟨u, d', g1, g2, g3⟩
      · rw [z1, z2]; rfl
      · rw [g1, g2]; rfl
    rw [e]
    exact vk R k (.bl _) hq
  · exact hf.elim
section
variable {X : Cx} {B : Bs} {a b : Expr} {ta tb : TE} {da db : DE} {pos : Pos}
theorem x_dget (hu : X.A.units + 1 < cLine) (ha : XE X B a ta da) (hb : XE X B b tb db) (hs : NoSl b := by exact fun _ _ => rfl) : XE X B (.Subscript a b pos) (tOp rDGet ta tb) (d2 fDGet da db) := ⟨pe_dget hu ha.pe hb.pe hs, se_op od_dget ha.se hb.se⟩
theorem x_din (hu : X.A.units + 1 < cLine) (ha : XE X B a ta da) (hb : XE X B b tb db) (hm : behindInMarks .In b = false := by first | exact nomark _ | rfl) : XE X B (.Compare a [.In] [b] pos) (tOp (rDIn false) ta tb) (d2 (fDIn false) da db) := ⟨pe_cmp (pc_din hu ha.pe hb.pe) hm, se_op od_din ha.se hb.se⟩
theorem x_dnin (hu : X.A.units + 1 < cLine) (ha : XE X B a ta da) (hb : XE X B b tb db) (hm : behindInMarks .NotIn b = false := by first | exact nomark _ | rfl) : XE X B (.Compare a [.NotIn] [b] pos) (tOp (rDIn true) ta tb) (d2 (fDIn true) da db) := ⟨pe_cmp (pc_dnotin hu ha.pe hb.pe) hm, se_op od_din ha.se hb.se⟩
end
/-! new ones -/
def dDNew (γ : Env) (q : RS → Env → Prop) : Prop := q (.new (.dct [])) γ
theorem Rep.newK {K : PySem.W.Frag} {B : Bs} {F H : Hp} {σ : L2.St} {γ : Env} {p : Addr} {kv : List (Key × V)} {kd : List (Key × D)} (R : Rep K B F H σ γ) (hp : H p = none) (h : RpKs (B.kz K) F kv kd) : Rep K B F (upd H p (.dK kv)) σ γ ∧ RsOk K B F (upd H p (.dK kv)) σ γ (.ref p) (.new (.dct kd)) := by
  obtain ⟨f1, f2, f3, f4⟩ := R.fresh hp
  exact ⟨R.alloc _ hp, p, rfl, f1, ⟨kv, upd_same, h⟩, f3, .inr f2, f4⟩
theorem x_dnew {X : Cx} {B : Bs} {pos : Pos} : XE X B (.Dict [] [] pos) tDNewK dDNew := ⟨pe_dnewK, fun F H σ γ Q q R hq k => fun p hp => by
  obtain ⟨R', o⟩ := R.newK hp .nil
  exact k _ F _ γ _ R' (Evl.Ex.refl F) o hq⟩
def fLenD : List D → (RS → Prop) → Prop
  | [.dct kd], q => q (.val (.int kd.length))
  | _, _ => False
theorem cd_lenD {K : PySem.W.Frag} : CallD K (fun xs H Q => ∃ a kvs, xs = [V.ref a] ∧ H a = some (.dK kvs) ∧ Q (.int kvs.length) H) fLenD := fun B F H σ γ xs ds Q q R rx hf k => by
  unfold fLenD at hf
  split at hf
  · obtain ⟨x, rfl, r⟩ := one_rs rx
    obtain ⟨a, kv, rfl, ha, ra⟩ := r.dct R.fh
    refine ⟨a, kv, rfl, ha, ?_⟩
    rw [ks_len ra]
    exact vk R k (.int _) hf
  · exact hf.elim
/-! d[k] = e -/
section
variable {K : PySem.W.Frag} {B : Bs} {F F' H H' : Hp} {σ : L2.St} {γ : Env}
theorem Rep.writeK (R : Rep K B F H σ γ) {j : Nat} {p : Option Nat} {ds ds' : List (Key × D)} {a : Addr} {vs vs' : List (Key × V)} (hl : look γ j = .own p (.dct ds)) (hs : σ[j]? = some (some (.ref a))) (ha : H a = some (.dK vs)) (r : RpKs (B.kz K) F vs' ds') :
    Rep K B F (upd H a (.dK vs')) σ (put γ j (.own p (.dct ds'))) := by
  obtain ⟨a', hs', hg, fa, ok⟩ := R.own hl
  obtain rfl : a = a' := by rw [hs] at hs'; cases hs'; rfl
  have ne_own : ∀ {b x : Addr}, H b = some (.own x) → b ≠ a := fun h e => by
    subst e
    rw [ha] at h; cases h
  have key : ∀ {i : Nat} {q : Option Nat} {c : OC}, (put γ j (.own p (.dct ds')))[i]? = some (.own q c) → ∃ c0, γ[i]? = some (.own q c0) ∧ ((i = j ∧ c = .dct ds') ∨ (i ≠ j ∧ c0 = c)) := fun h => by
    rcases get_put h with ⟨rfl, e⟩ | ⟨n, e⟩
    · injection e with e1 e2
      subst e1; subst e2
      exact ⟨_, hg, .inl ⟨rfl, rfl⟩⟩
    · exact ⟨_, e, .inr ⟨n, rfl⟩⟩
  refine ⟨fun b o e => ?_, by rw [put_len]; exact R.len, fun i s t h1 h2 => ?_, fun i i' b q c q' c' h1 h2 h3 h4 => ?_, fun b o e => ?_, R.b2, R.b3, fun i b q c h1 h2 => ?_, fun i b q c h1 h2 => ?_, fun b o e => ?_, fun b o e => ?_⟩
  · have n : b ≠ a := fun z => by subst z; rw [fa] at e; cases e
    rw [upd_ne n]; exact R.fh b o e
  · rcases get_put h2 with ⟨rfl, rfl⟩ | ⟨n, e⟩
    · rw [hs] at h1; cases h1
      exact ⟨a, rfl, fa, vs', upd_same, r⟩
    · have q := R.sl i s t h1 e
      cases t with
      | no => trivial
      | val d => exact q
      | own q' c =>
        obtain ⟨b, e', f, ok'⟩ := q
        subst e'
        have nb : b ≠ a := fun z => by subst z; exact n (R.nd i j b q' c p (.dct ds) e hg h1 hs)
        exact ⟨b, rfl, f, ok'.heap (upd_ne nb) fun dx hd => upd_ne (ne_own hd)⟩
  · obtain ⟨_, y1, _⟩ := key h1
    obtain ⟨_, y2, _⟩ := key h2
    exact R.nd i i' b q _ q' _ y1 y2 h3 h4
  · obtain ⟨x1, o', x2⟩ := R.b1 b o e
    by_cases hb : b = a
    · subst hb
      rw [upd_same]
      refine ⟨fun n => ?_, _, rfl⟩
      rcases R.b5 j b p _ hg hs with z | z
      · exact absurd z n
      · rw [e] at z; cases z
    · rw [upd_ne hb]; exact ⟨x1, o', x2⟩
  · obtain ⟨_, y1, _⟩ := key h1
    exact R.b4 i b q _ y1 h2
  · obtain ⟨_, y1, _⟩ := key h1
    exact R.b5 i b q _ y1 h2
  · obtain ⟨o', x2⟩ := R.bN b o e
    by_cases hb : b = a
    · subst hb; exact ⟨_, upd_same⟩
    · rw [upd_ne hb]; exact ⟨o', x2⟩
  · obtain ⟨o', x2, kn⟩ := R.bd b o e
    by_cases hb : b = a
    · subst hb
      rw [ha] at x2
      cases x2
      exact ⟨_, upd_same, kn.trans ⟨_, rfl⟩⟩
    · rw [upd_ne hb]; exact ⟨o', x2, kn⟩end
def dSetK (j : Nat) (de dk : DE) (d : DEnds) (γ : Env) : Prop := de γ fun s γ1 => s.kept ∧ (∃ p kd, look γ1 j = .own p (.dct kd)) ∧ dk γ1 fun t γ2 => match look γ2 j, keyD t.data with
  | .own p (.dct kd), some k => kd.length < 1000000 ∧ d.nx (put γ2 j (.own p (.dct (ptk kd k s.data))))
  | _, _ => False
theorem ss_setK {K : PySem.W.Frag} {B : Bs} {te ti : TE} {de di : DE} {j : Nat} (he : SE K B te de) (hi : SE K B ti di) : SS K B (sDPut (tVar j) ti te) (dSetK j de di) := fun F H σ γ E d R hq k => by
  refine he F H σ γ _ _ R hq fun v F1 H1 γ1 s R1 e1 o1 ⟨hk, ⟨p0, kd0, hl⟩, q⟩ => ?_
  obtain ⟨F2, R2, e2, o2⟩ := o1.fz R1
  have rv : Rp (B.kz K) F2 v s.data := kept_rp o2 hk
  obtain ⟨a, hs, hg, fa, vs, ha, ra⟩ := R2.own hl
  refine ⟨_, hs, hi F2 H1 σ γ1 _ _ R2 q fun v3 F3 H3 γ3 t R3 e3 o3 q3 => ?_⟩
  split at q3
  · rename_i p1 kd1 kk hl1 es
    obtain ⟨a1, hs1, hg1, fa1, vs1, ha1, ra1⟩ := R3.own hl1
    rw [hs] at hs1; cases hs1
    obtain ⟨hlen, q4⟩ := q3
    have hy := key_v es (o3.rs R3)
    subst hy
    exact ⟨a, _, rfl, DPut.k ha1 (Nat.lt_of_lt_of_le (by rw [ks_len ra1]; exact hlen) (by decide)), k.nx F3 _ _ _ (R3.writeK hl1 hs ha1 (ks_put (Rp.mono e3 rv) ra1)) ((e1.trans e2).trans e3) q4⟩
  · exact q3.elim
theorem s_setK {X : Cx} {B : Bs} {e ei : Expr} {te ti : TE} {de di : DE} {p3 apos pos : Pos} {o : Str} (j : Nat) (hu : X.A.units + 1 < cLine) (he : XE X B e te de) (hi : XE X B ei ti di)
    (hN : X.N[j]? = some o := by rfl) (hv : Vis X.env.scope o := by first | exact Or.inl rfl | exact Or.inr (Or.inl rfl) | exact Or.inr (Or.inr rfl)) (hd : (o == ("__debug__" : Str)) = false := by decide) (hcd : (o == ("__classdict__" : Str)) = false := by decide)
    (hs : swapsWith e (some (.Subscript (.Name o apos) ei p3)) pos.line X.env = pure false := by rfl) :
    XS X B (.Assign [.Subscript (.Name o apos) ei p3] e pos) (sDPut (tVar j) ti te) (dSetK j de di) := ⟨ps_dput hu (pe_var hN hv hd hcd) hi.pe he.pe hs, ss_setK he.se hi.se⟩
end DL

set_option Elab.async false
set_option linter.all false
set_option maxRecDepth 100000
set_option maxHeartbeats 2000000
/-! ### own classes: constants, properties, operators, C(..) whose __init__ may raise elsewhere -/
namespace DL
open PySem PySem.Spec PyProof.Rows L2
open Evl (Ex ex_l ex_t)
/-! o.F, a number of the class -/
def ConOk (K : PySem.W.Frag) (f : Str) (tab : String → Option Int) : Prop := ∀ C i, tab C = some i → Cls K (ctOf K C) ∧ ∃ u, Con K (ctOf K C) f (.int i) u
def fCon (f : Str) (tab : String → Option Int) : D → (RS → Prop) → Prop
  | .obj C fs, q => fs.lookup f = none ∧ ∃ i, tab C = some i ∧ q (.val (.int i))
  | _, _ => False
def rCon (K : PySem.W.Frag) (f : Str) : V → Hp → VK → Prop := fun x H Q => ∃ a C dx fs v u, x = .ref a ∧ H a = some (.ins C dx fs) ∧ Cls K C ∧ Con K C f v u ∧ fs.lookup f = none ∧ Q v H
theorem ud_con {K : PySem.W.Frag} {f : Str} {tab : String → Option Int} (ht : ConOk K f tab) : UnD K (rCon K f) (fCon f tab) := fun B F H σ γ x d Q q R rx hf k => by
  unfold fCon at hf
  split at hf
  · rename_i C fs
    obtain ⟨hl, i, hi, hq⟩ := hf
    obtain ⟨a, dx, fv, rfl, h2, h3⟩ := rx.obj R.fh
    obtain ⟨c, u, hc⟩ := ht C i hi
    exact ⟨a, _, dx, fv, _, u, rfl, h2, c, hc, fs_none h3 hl, vk R k (.int i) hq⟩
  · exact hf.elim
theorem x_con {X : Cx} {B : Bs} {e : Expr} {te : TE} {de : DE} {tab : String → Option Int} {pos : Pos} (f : Str) (ht : ConOk X.K f tab) (h : XE X B e te de) (hb : attributeBase e f X.env (eval e X.env) = eval e X.env := by rfl) : XE X B (.Attribute e f pos) (tUn (rCon X.K f) te) (d1 (fCon f tab) de) := ⟨by
    have := pe_con h.pe hb (pos := pos)
    exact this, se_un (ud_con ht) h.se⟩
/-! o.p, a property -/
inductive PDisp (P : Program) (w : World) (K : PySem.W.Frag) (mg : Str → Option Value) (base : Heap) (km : Nat) (f : Str) (C : Addr) (sp : Sp) : Prop
  | mk {k : Nat} {p g : Addr} {fd : FuncData} {ps : List Str} : Cls K C → PropOf K C f p g → FnOk P w K mg base CX0 k g fd ps sp → k + 1 ≤ km → Binds K fd ps [] → PDisp P w K mg base km f C sp
def tPropP (P : Program) (w : World) (K : PySem.W.Frag) (mg : Str → Option Value) (base : Heap) (km : Nat) (f : Str) (ta : TE) : TE := fun σ H Q => ta σ H fun x H1 => ∃ a C dx fs sp, x = .ref a ∧ H1 a = some (.ins C dx fs) ∧ PDisp P w K mg base km f C sp ∧ sp [x] H1 Q E0
theorem pe_propP {X : Cx} {km : Nat} {f : Str} {e : Expr} {pos : Pos} {ta : TE} (he : PE X e ta) (hr : Room km X.A) (hab : attributeBase e f X.env (eval e X.env) = eval e X.env) : PE X (.Attribute e f pos) (tPropP X.prog X.w X.K X.mg X.base km f ta) := by
  refine ⟨fun pins s σ H Q I h => ?_⟩
  refine attr_of hab (thn (he.run pins s σ H _ I h) fun u s1 ⟨x, H1, I1, rx, a, C, dx, fs, sp, ex, ea, dp, q⟩ => ?_)
  subst ex
  obtain rfl : u = Value.ref a := rx
  obtain ⟨c, hp, F, hk, hb⟩ := dp
  exact getprop_ok (dvs := []) (ds := []) I1 ea c hp F (hr.mono hk) hb .nil pass0 q
def dProp (tb : MT) (l : DA) (γ : Env) (q : RS → Env → Prop) : Prop := l γ fun rs γ1 => match rs with
  | [s] => (match s.data with
    | .obj C fl => ∃ fs, tb C = some fs ∧ fs (argsOf 0 [s]) fun r as' => q r (upds γ1 [s] as')
    | _ => False)
  | _ => False
theorem own1 (s : RS) : (ownIx [s]).Nodup := by cases s <;> simp [ownIx]
section
variable {P : Program} {w : World} {K : PySem.W.Frag} {mg : Str → Option Value} {base : Heap} {km : Nat} {B : Bs}
theorem se_prop {f : Str} {te : TE} {de : DE} {tb : MT} (hd : ∀ C fs, tb C = some fs → PDisp P w K mg base km f (ctOf K C) (spOf K 1 fs)) (he : SE K B te de) : SE K B (tPropP P w K mg base km f te) (dProp tb (dCons de dNil)) := fun F H σ γ Q q R hq k => by
  have sl := sa_cons he (sa_nil (K := K) (B := B))
  have := sl F H σ γ (fun vs H1 => ∃ x, vs = [x] ∧ ∃ a C dx fs sp, x = .ref a ∧ H1 a = some (.ins C dx fs) ∧ PDisp P w K mg base km f C sp ∧ sp [x] H1 Q E0) _ R hq fun vs F1 H1 γ1 rs R1 e1 o1 h1 => by
    split at h1
    · rename_i s
      split at h1
      · rename_i C fl es
        obtain ⟨fs, ht, h6⟩ := h1
        cases o1 with
        | cons o2 o3 => cases o3 with
          | nil =>
            rename_i x
            have r := o2.rs R1
            rw [es] at r
            obtain ⟨a, dx, fv, rfl, q2, q3⟩ := r.obj R1.fh
            refine ⟨_, rfl, a, _, dx, fv, _, rfl, q2, hd C fs ht, ?_⟩
            have oo : Paired (RsOk K B F1 H1 σ γ1) [.ref a] [s] := .cons o2 .nil
            obtain ⟨m', hm, RE⟩ := R1.args (dvs := []) (dds := []) oo .nil (own1 s)
            simp only [List.append_nil, List.map_nil] at RE
            refine ⟨rfl, F1, m', _, _, _, RE, h6, fun r as' v F4 H4 hp R4 ok hk => ?_⟩
            obtain ⟨R5, e5, ok5⟩ := R1.called oo (own1 s) (fun i v hv => hv) hm R4
            exact k v F4 H4 _ r R5 (e1.trans e5) (ok5 v r hk ok) hp
      · exact h1.elim
    · exact h1.elim
  unfold tPropP
  refine Eq.mp ?_ this
  unfold tCons tNil
  congr 1
  funext x H1
  simp
end
theorem x_prop {X : Cx} {B : Bs} {e : Expr} {te : TE} {de : DE} {km : Nat} {pos : Pos} (P : Program) (w : World) (K : PySem.W.Frag) (mg : Str → Option Value) (base : Heap) (hX : (X.prog, X.w, X.K, X.mg, X.base) = (P, w, K, mg, base)) (hr : Room km X.A) (f : Str) {tb : MT} (hd : ∀ C fs, tb C = some fs → PDisp P w K mg base km f (ctOf K C) (spOf K 1 fs)) (h : XE X B e te de)
    (hab : attributeBase e f X.env (eval e X.env) = eval e X.env := by rfl) : XE X B (.Attribute e f pos) (tPropP P w K mg base km f te) (dProp tb (dCons de dNil)) := by
  cases hX
  exact ⟨pe_propP h.pe hr hab, se_prop hd h.se⟩
/-! a op b, the class's own -/
structure OpTy (K : PySem.W.Frag) (C : Addr) (op : Operator) (T : String) : Prop where
  h1 : ∃ fo, PySem.W.findIn K (.type T) (PySem.dunder op.info.2) = some fo
  h2 : ∃ ro, PySem.W.findIn K (.type T) (PySem.dunderR op.info.2) = some ro
  sub : PySem.W.subIn K (.type T) (.ref C) = some false
structure OpCl (K : PySem.W.Frag) (C : Addr) (op : Operator) (f : Addr) : Prop where
  self : PySem.W.selfFirst K C = true
  at_ : PySem.W.findIn K (.ref C) (PySem.dunder op.info.2) = some (some (.ref f))
  fn : PySem.W.isFn K (.ref f) = true
  rr : PySem.W.findIn K (.ref C) (PySem.dunderR op.info.2) = some none
inductive ODisp (P : Program) (w : World) (K : PySem.W.Frag) (mg : Str → Option Value) (base : Heap) (CX : CXT) (km : Nat) (op : Operator) (C : Addr) (sp : Sp) : Prop
  | mk {k : Nat} {f : Addr} {fd : FuncData} {ps : List Str} : OpCl K C op f → FnOk P w K mg base CX k f fd ps sp → k ≤ km → Binds K fd ps [] → ODisp P w K mg base CX km op C sp
/-- what stands to the right -/
def Rgt (K : PySem.W.Frag) (C : Addr) (op : Operator) (H : Hp) (y : V) : Prop := ((∃ i, y = .int i) ∧ OpTy K C op "int") ∨ ((∃ x, y = .str x) ∧ OpTy K C op "str") ∨ ∃ b dx fs, y = .ref b ∧ H b = some (.ins C dx fs)
def tOpO (P : Program) (w : World) (K : PySem.W.Frag) (mg : Str → Option Value) (base : Heap) (CX : CXT) (km : Nat) (op : Operator) (E : L2.St → XK) (ta tb : TE) : TE := fun σ H Q => ta σ H fun x H1 => tb σ H1 fun y H2 => ∃ a C dx fs sp, x = .ref a ∧ H2 a = some (.ins C dx fs) ∧ ODisp P w K mg base CX km op C sp ∧ Rgt K C op H2 y ∧ sp [x, y] H2 Q (E σ)
theorem back_of {X : Cx} {pins : List (Addr × Obj)} {σ : L2.St} {Q : VK} {v : Value} {s' : Shared} (h : EP X pins σ Q v s') : PySem.W.CmpBack (EP X pins σ Q) v s' := by
  have h0 := h
  obtain ⟨x, H', I, r, q⟩ := h
  cases x <;> first | (obtain ⟨t, rfl⟩ := r; exact h0) | (cases r; exact h0)
theorem pe_opO {X : Cx} {CX : CXT} {km : Nat} {op : Operator} {E : L2.St → XK} {a b : Expr} {pos : Pos} {ta tb : TE} (ha : PE X a ta) (hb : PE X b tb) (hr : Room km X.A) (hx : ∀ σ, PassesAt CX X σ (E σ)) : PE X (.BinOp a op b pos) (tOpO X.prog X.w X.K X.mg X.base CX km op E ta tb) := by
  refine ⟨fun pins s σ H Q I h => ?_⟩
  refine wpAny_BinOp (binT ha hb I h fun v u s2 x y H2 I2 rx ry ⟨p, C, dx, fs, sp, ex, ea, dp, rg, q⟩ => ?_)
  subst ex
  obtain rfl : v = Value.ref p := rx
  obtain ⟨oc, F, hk, hbd⟩ := dp
  obtain ⟨mA, O, _⟩ := ins_get I2.hok ea
  obtain ⟨od, J, _⟩ := O.look
  obtain ⟨m, fr⟩ := I2.fr
  have cl := wpAny_mono (run_fnS (us := [.ref p, u]) (vs := [.ref p, y]) F (hr.mono hk) hbd hx I2 (.cons rfl (.cons ry .nil)) q) (fun v s' hv => back_of hv) fun _ _ e => e
  rcases rg with ⟨⟨i, rfl⟩, ot⟩ | ⟨⟨i, rfl⟩, ot⟩ | ⟨b', dx', fs', rfl, eb⟩
  · obtain ⟨t, rfl⟩ := ry
    obtain ⟨fo, h1⟩ := ot.h1
    obtain ⟨ro, h2⟩ := ot.h2
    exact PySem.W.ksp_binT (T := "int") fr I2.mod.kin J rfl oc.self oc.at_ oc.fn oc.rr (.inl rfl) h1 h2 ot.sub cl
  · obtain ⟨t, rfl⟩ := ry
    obtain ⟨fo, h1⟩ := ot.h1
    obtain ⟨ro, h2⟩ := ot.h2
    exact PySem.W.ksp_binT (T := "str") fr I2.mod.kin J rfl oc.self oc.at_ oc.fn oc.rr (.inl rfl) h1 h2 ot.sub cl
  · obtain rfl : u = Value.ref b' := ry
    obtain ⟨mB, O2, _⟩ := ins_get I2.hok eb
    obtain ⟨od2, J2, _⟩ := O2.look
    exact PySem.W.binop_K fr I2.mod.kin J J2.type oc.self oc.at_ oc.fn cl
def rgtD (C : String) : D → Prop
  | .int _ => True
  | .str _ => True
  | .obj C' _ => C' = C
  | _ => False
def dOpO (tb : MT) (l : DA) (γ : Env) (q : RS → Env → Prop) : Prop := l γ fun rs γ1 => match rs with
  | [s, t] => (match s.data with
    | .obj C fl => ∃ fs, tb C = some fs ∧ rgtD C t.data ∧ (ownIx [s, t]).Nodup ∧ fs (argsOf 0 [s, t]) fun r as' => q r (upds γ1 [s, t] as')
    | _ => False)
  | _ => False
def dOpOX (xc : DX) (tb : MTX) (l : DA) (γ : Env) (q : RS → Env → Prop) : Prop := l γ fun rs γ1 => match rs with
  | [s, t] => (match s.data with
    | .obj C fl => ∃ fs, tb C = some fs ∧ rgtD C t.data ∧ (ownIx [s, t]).Nodup ∧ fs (argsOf 0 [s, t]) (fun r as' => q r (upds γ1 [s, t] as')) fun nm xs as' => xc nm xs (upds γ1 [s, t] as')
    | _ => False)
  | _ => False
def OpTys (K : PySem.W.Frag) (C : Addr) (op : Operator) : Prop := OpTy K C op "int" ∧ OpTy K C op "str"
theorem rgt_of {K : KZ} {F H : Hp} {C : String} {op : Operator} {y : V} {d : D} (e : Ex F H) (ot : OpTys K.fr (ctOf K.fr C) op) (r : Rs K F H y d) (h : rgtD C d) : Rgt K.fr (ctOf K.fr C) op H y := by
  unfold rgtD at h
  split at h
  · exact .inl ⟨⟨_, r.int⟩, ot.1⟩
  · exact .inr (.inl ⟨⟨_, r.str⟩, ot.2⟩)
  · subst h
    obtain ⟨a, dx, fv, rfl, h2, _⟩ := r.obj e
    exact .inr (.inr ⟨a, dx, fv, rfl, h2⟩)
  · exact h.elim
section
variable {P : Program} {w : World} {K : PySem.W.Frag} {mg : Str → Option Value} {base : Heap} {km : Nat} {B : Bs} {op : Operator} {te tf : TE} {de df : DE}
theorem se_opO {tb : MT} (hd : ∀ C fs, tb C = some fs → ODisp P w K mg base CX0 km op (ctOf K C) (spOf K 2 fs) ∧ OpTys K (ctOf K C) op) (he : SE K B te de) (hf : SE K B tf df) : SE K B (tOpO P w K mg base CX0 km op (fun _ => E0) te tf) (dOpO tb (dCons de (dCons df dNil))) := fun F H σ γ Q q R hq k => by
  have sl := sa_cons he (sa_cons hf (sa_nil (K := K) (B := B)))
  have := sl F H σ γ (fun vs H2 => ∃ x y, vs = [x, y] ∧ ∃ a C dx fs sp, x = .ref a ∧ H2 a = some (.ins C dx fs) ∧ ODisp P w K mg base CX0 km op C sp ∧ Rgt K C op H2 y ∧ sp [x, y] H2 Q E0) _ R hq fun vs F1 H1 γ1 rs R1 e1 o1 h1 => by
    split at h1
    · rename_i s t
      split at h1
      · rename_i C fl es
        obtain ⟨fs, ht, hg, hn, h6⟩ := h1
        cases o1 with
        | cons o2 o3 => cases o3 with
          | cons o3 o4 => cases o4 with
            | nil =>
              rename_i x y
              have r := o2.rs R1
              rw [es] at r
              obtain ⟨a, dx, fv, rfl, q2, q3⟩ := r.obj R1.fh
              obtain ⟨d1, d2⟩ := hd C fs ht
              refine ⟨_, _, rfl, a, _, dx, fv, _, rfl, q2, d1, rgt_of R1.fh d2 (o3.rs R1) hg, ?_⟩
              have oo : Paired (RsOk K B F1 H1 σ γ1) [.ref a, y] [s, t] := .cons o2 (.cons o3 .nil)
              obtain ⟨m', hm, RE⟩ := R1.args (dvs := []) (dds := []) oo .nil hn
              simp only [List.append_nil, List.map_nil] at RE
              refine ⟨rfl, F1, m', _, _, _, RE, h6, fun r as' v F4 H4 hp R4 ok hk => ?_⟩
              obtain ⟨R5, e5, ok5⟩ := R1.called oo hn (fun i v hv => hv) hm R4
              exact k v F4 H4 _ r R5 (e1.trans e5) (ok5 v r hk ok) hp
      · exact h1.elim
    · exact h1.elim
  unfold tOpO
  refine Eq.mp ?_ this
  unfold tCons tNil
  congr 1
  funext x H1
  congr 1
  funext y H2
  exact propext ⟨fun ⟨x', y', e, h⟩ => by cases e; exact h, fun h => ⟨x, y, rfl, h⟩⟩
theorem se_opOX {ct : Nat → Addr} {W : WX} {xc : DX} {tb : MTX} (hd : ∀ C fs, tb C = some fs → ODisp P w K mg base (L2N.CX P w) km op (ctOf K C) (spOfX K ct 2 fs) ∧ OpTys K (ctOf K C) op) (xo : XOk K ct B W xc) (he : SE K B te de) (hf : SE K B tf df) : SE K B (tOpO P w K mg base (L2N.CX P w) km op (WE W) te tf) (dOpOX xc tb (dCons de (dCons df dNil))) := fun F H σ γ Q q R hq k => by
  have sl := sa_cons he (sa_cons hf (sa_nil (K := K) (B := B)))
  have := sl F H σ γ (fun vs H2 => ∃ x y, vs = [x, y] ∧ ∃ a C dx fs sp, x = .ref a ∧ H2 a = some (.ins C dx fs) ∧ ODisp P w K mg base (L2N.CX P w) km op C sp ∧ Rgt K C op H2 y ∧ sp [x, y] H2 Q (WE W σ)) _ R hq fun vs F1 H1 γ1 rs R1 e1 o1 h1 => by
    split at h1
    · rename_i s t
      split at h1
      · rename_i C fl es
        obtain ⟨fs, ht, hg, hn, h6⟩ := h1
        cases o1 with
        | cons o2 o3 => cases o3 with
          | cons o3 o4 => cases o4 with
            | nil =>
              rename_i x y
              have r := o2.rs R1
              rw [es] at r
              obtain ⟨a, dx, fv, rfl, q2, q3⟩ := r.obj R1.fh
              obtain ⟨d1, d2⟩ := hd C fs ht
              refine ⟨_, _, rfl, a, _, dx, fv, _, rfl, q2, d1, rgt_of R1.fh d2 (o3.rs R1) hg, ?_⟩
              have oo : Paired (RsOk K B F1 H1 σ γ1) [.ref a, y] [s, t] := .cons o2 (.cons o3 .nil)
              have cc := call_core (W := WE W σ) (ct := ct) (n := 2) (fs := fs) (dvs := []) (dds := []) (q := q) .nil R1 oo (fun F' H' γ' nm dd fs R' xd hx => xo F' H' σ γ' nm dd fs R' xd hx) hn rfl (by simpa using h6) fun v F' H' γ' s' R' e' o' hq => k v F' H' γ' s' R' (e1.trans e') o' hq
              exact cc
      · exact h1.elim
    · exact h1.elim
  unfold tOpO
  refine Eq.mp ?_ this
  unfold tCons tNil
  congr 1
  funext x H1
  congr 1
  funext y H2
  exact propext ⟨fun ⟨x', y', e, h⟩ => by cases e; exact h, fun h => ⟨x, y, rfl, h⟩⟩
end
section
variable {X : Cx} {B : Bs} {a b : Expr} {te tf : TE} {de df : DE} {km : Nat} {op : Operator} {pos : Pos}
theorem x_opO (P : Program) (w : World) (K : PySem.W.Frag) (mg : Str → Option Value) (base : Heap) (hX : (X.prog, X.w, X.K, X.mg, X.base) = (P, w, K, mg, base)) (hr : Room km X.A) {tb : MT} (hd : ∀ C fs, tb C = some fs → ODisp P w K mg base CX0 km op (ctOf K C) (spOf K 2 fs) ∧ OpTys K (ctOf K C) op) (ha : XE X B a te de) (hb : XE X B b tf df) :
    XE X B (.BinOp a op b pos) (tOpO P w K mg base CX0 km op (fun _ => E0) te tf) (dOpO tb (dCons de (dCons df dNil))) := by
  cases hX
  exact ⟨pe_opO ha.pe hb.pe hr (fun _ _ _ _ _ _ h => pass0 _ _ _ _ _ _ h), se_opO hd ha.se hb.se⟩
theorem x_opOX (P : Program) (w : World) (K : PySem.W.Frag) (mg : Str → Option Value) (base : Heap) (hX : (X.prog, X.w, X.K, X.mg, X.base) = (P, w, K, mg, base)) (hr : Room km X.A) {ct : Nat → Addr} {W : WX} {xc : DX} {tb : MTX} (xo : XOk K ct B W xc) (tk : L2N.Takes X W) (hd : ∀ C fs, tb C = some fs → ODisp P w K mg base (L2N.CX P w) km op (ctOf K C) (spOfX K ct 2 fs) ∧ OpTys K (ctOf K C) op) (ha : XE X B a te de) (hb : XE X B b tf df) :
    XE X B (.BinOp a op b pos) (tOpO P w K mg base (L2N.CX P w) km op (WE W) te tf) (dOpOX xc tb (dCons de (dCons df dNil))) := by
  cases hX
  exact ⟨pe_opO ha.pe hb.pe hr (fun σ => L2N.passAt tk σ), se_opOX hd xo ha.se hb.se⟩
end
/-! C(..), __init__ may raise, not here -/
def dMakeN (C : String) (n : Nat) (fs : FSX) (dds : List D) (da : DA) (γ : Env) (q : RS → Env → Prop) : Prop := da γ fun rs γ1 => allV rs ∧ rs.length + dds.length + 1 = n ∧
  fs (.own (some 0) (.ins C []) :: ((rs.map RS.data).map Sx.val ++ dds.map Sx.val)) (fun r as' => r = .val .non ∧ match as' with
    | .own _ (.ins C' fs') :: _ => C' = C ∧ q (.new (.ins C fs')) γ1
    | _ => False) fun _ _ _ => False
theorem se_makeN {K : PySem.W.Frag} {B : Bs} {ct : Nat → Addr} {C : String} {n : Nat} {fs : FSX} {dvs : List V} {dds : List D} {ta : TA} {da : DA} (h : SA K B ta da) (od : Paired (fun v d => ∀ z F, Rp ⟨K, z⟩ F v d) dvs dds) : SE K B (tMake (ctOf K C) (spOfX K ct n fs) dvs E0 ta) (dMakeN C n fs dds da) := fun F H σ γ Q q R hq k => by
  refine h F H σ γ _ _ R hq fun vs F1 H1 γ1 rs R1 e1 o1 ⟨h0, h2, h3⟩ x dx hx hdx ne => ?_
  have all : RpAll (B.kz K) F1 (vs ++ dvs) (rs.map RS.data ++ dds) := RpAll.of (P_app (allV_rp o1 h0).p (P_mono (fun v d z => z _ _) od))
  let Z : ZN (upd (upd H1 dx (.own x)) x (.ins (ctOf K C) dx [])) := ⟨B.z, fun a ha => by
    obtain ⟨o, e⟩ := R1.znp a ha
    have n1 : a ≠ x := fun z => by subst z; rw [hx] at e; cases e
    have n2 : a ≠ dx := fun z => by subst z; rw [hdx] at e; cases e
    exact ⟨o, by rw [upd_ne n1, upd_ne n2]; exact e⟩⟩
  have RE := make_entry (C := C) R1.fh all hx hdx ne Z rfl
  rw [List.map_append] at RE
  refine ⟨by simp only [List.length_cons, List.length_append]; rw [P_len o1, P_len od]; omega, F1, _, Z, _, _, _, RE, h3, fun r as' v F3 H3 ⟨hr, hp⟩ R3 ok hk => ?_, fun nm xs dd as' F2 H2 hx => hx.elim⟩
  subst hr
  split at hp
  · rename_i p C' fs' rest
    obtain ⟨rfl, hp⟩ := hp
    obtain ⟨R4, e4, o4⟩ := make_exit R1 hx hdx ne rfl R3
    have ok' : Rp _ F3 v .non := ok
    cases ok'
    exact ⟨rfl, k _ F3 H3 γ1 _ R4 (e1.trans e4) o4 hp⟩
  · exact hp.elim
theorem x_makeN {X : Cx} {B : Bs} {ct : Nat → Addr} {a : Expr} {es : List Expr} {ta : TA} {da : DA} {k n : Nat} {C : String} {f : Addr} {fd : FuncData} {ps : List Str} {fs : FSX} {x : Str} {p pos : Pos} (K : PySem.W.Frag) (hK : X.K = K) (M : Mk X.K (ctOf X.K C) f) (G : FnOk X.prog X.w X.K X.mg X.base (L2N.CX X.prog X.w) k f fd ps (spOfX X.K ct n fs)) (hr : Room (k + 1) X.A) (hm : X.mg x = some (.ref (ctOf X.K C))) (hb : Binds X.K fd ps []) (h : XA X B (a :: es) ta da)
    (hg : Gl X x := by rfl) (hdb : (x == ("__debug__" : Str)) = false := by decide) (he : starEach (a :: es) X.env = (false, eval a X.env) :: starEach es X.env := by rfl) (hpl : (backTo pos (starEach es X.env)).any (·.1) = false := by rfl) :
    XE X B (.Call (.Name x p) (a :: es) [] pos) (tMake (ctOf K C) (spOfX K ct n fs) [] E0 ta) (dMakeN C n fs [] da) := by
  subst hK
  exact ⟨pe_make M G hr hg hm hb .nil passN h.pa hdb he hpl, se_makeN h.sa .nil⟩
end DL

set_option Elab.async false
set_option linter.all false
set_option maxRecDepth 100000
set_option maxHeartbeats 2000000
/-! ### enumerate(a tuple) -/
namespace PySem
open Sem (wp)
theorem dl_enum_new {v : Value} {ob : Obj} {Hh : Heap → Prop} (B : Begins v ob Hh) : Meets (Builtin.«enumerate.__new__» ⟨[.type "enumerate", v], []⟩) fun _ R s' => Hh s'.heap ∧
    R (.ok (.ret (.ref (s'.heap.push ob).objs.size))) { s' with heap := (s'.heap.push ob).push ⟨.type "enumerate", none, .fields #[.none, .bool false, .ref s'.heap.objs.size, rawInt 0, .none, .none], #[]⟩ } := .of_wp fun P w A R s' hh => by
  obtain ⟨hp, gs, dr, tk, os⟩ := s'
  obtain ⟨h1, hh⟩ := hh
  have hsub := sub_enumerate
  have go : ∀ {A' : Around} {E' Q' : Value → Shared → Prop}, Q' (.ref hp.objs.size) ⟨hp.push ob, gs, dr, tk, os⟩ → wpAny (model P w) A' (pyIter v) Q' E' ⟨hp, gs, dr, tk, os⟩ := fun q => B.iter P w _ _ ⟨hp, gs, dr, tk, os⟩ _ h1 q
  wp_walk using go
  refine wpAny_stack_any fun _ => wpAny_pure ?_
  split
  · rename_i cc _ _ _ _ _
    cases (cc == Value.type "enumerate") <;> (wp_walk using go; exact ⟨_, rfl, hh⟩)
  · wp_walk using go
    exact ⟨_, rfl, hh⟩
theorem dl_enum_call {P : Program} {w : World} {A : Around} {E : Value → Shared → Prop} {s' : Shared} {v : Value} {ob : Obj} {Hh : Heap → Prop} {Q : Value → Shared → Prop} (B : Begins v ob Hh) (h1 : Hh s'.heap)
    (k : ∀ g : Heap, IsEnum g (s'.heap.objs.size + 1) s'.heap.objs.size 0 .none → g.get? s'.heap.objs.size = some ob → g.objs.size = s'.heap.objs.size + 2 → (∀ b o, s'.heap.get? b = some o → g.get? b = some o) → Q (.ref (s'.heap.objs.size + 1)) { s' with heap := g }) :
    wpAny (model P w) A (call (.type "enumerate") [v]) Q E s' := by
  have z1 : (s'.heap.push ob).objs.size = s'.heap.objs.size + 1 := Heap.size_push ..
  refine callType_new F.called_enumerate (by decide) (F.typeCall_enumerate_1 v) (F.newCall_enumerate_1 v) (fun x => F.args_object_init_2 x v) F.entry_enumerate_new (dl_enum_new B) ⟨h1, ?_⟩
  show _ ∧ _
  have at1 := Heap.get?_push_size (s'.heap.push ob) (o := ⟨.type "enumerate", none, .fields #[.none, .bool false, .ref s'.heap.objs.size, rawInt 0, .none, .none], #[]⟩) rfl
  rw [z1] at at1 ⊢
  exact ⟨⟨_, at1, rfl⟩, k _ at1 (Heap.get?_push_of_some _ (Heap.get?_push_size _ B.free)) (by rw [Heap.size_push, z1]) fun b o x => Heap.get?_push_of_some _ (Heap.get?_push_of_some _ x)⟩
end PySem
namespace DL
open PySem PySem.Spec PyProof.Rows L2
open Evl (Ex ex_l ex_t)
/-- the items of the tuple at a, counted -/
def ItT (K : PySem.W.Frag) (a : Addr) : It :=
  ⟨fun i H => ∃ (ws : List V) (y : V), SqT K H a ws ∧ ws[i]? = some y, fun i H v H' => ∃ t y, v = .ref t ∧ H t = none ∧ H' = upd H t (.tup [.int (i : Nat), y]) ∧ ∀ ws, SqT K H a ws → ws[i]? = some y, fun i H => ∃ ws : List V, SqT K H a ws ∧ ws.length ≤ i⟩
theorem turn_enT {P : Program} {w : World} {K : PySem.W.Frag} {els : List Expr} {k0 : Nat} {tp : Pos} (a e j : Addr) :
    Turn P w K (.Tuple els k0 tp) (ItT K a) [e, j] e (fun i h => (∃ u, IsEnum h e j ((i : Nat) : Int) u) ∧ h.IsTupleIter j a i ∧ e ≠ j ∧ a ≠ j ∧ a ≠ e) where
  mem := List.mem_cons_self
  obj := fun i h st b hb => by
    obtain ⟨⟨u, he⟩, ⟨o, ho, _, hd⟩, _⟩ := st
    have hb2 : b = e ∨ b = j := by simpa using hb
    rcases hb2 with rfl | rfl
    · exact ⟨_, he, fun v q => nomatch q⟩
    · exact ⟨o, ho, fun v q => by rw [hd] at q; cases q⟩
  keep := fun i h h' st kk => by
    obtain ⟨⟨u, he⟩, hj, n1, n2, n3⟩ := st
    exact ⟨⟨u, kk e (by simp) _ he⟩, hj.at fun o q => kk j (by simp) o q, n1, n2, n3⟩
  item := by
    rintro X rfl rfl rfl hc i pins s σ H E I hf ⟨⟨u, he⟩, hj, n1, n2, n3⟩ ⟨ws, y, hq, hy⟩
    obtain ⟨its, rv, tp', _⟩ := I.tuple hq
    obtain ⟨z, hz, rz⟩ := rv.get hy
    have iz : i < its.length := (List.getElem?_eq_some_iff.mp hz).1
    have he1 : e < s.heap.objs.size := Heap.lt_size he
    have hj1 : j < s.heap.objs.size := let ⟨_, q, _⟩ := hj; Heap.lt_size q
    have D := Draws.tuple (prog := X.prog) (w := X.w) (A := X.A.in1) (I.ok.hd hc) j a n2 its.toArray
    refine wpAny_pyNext_enum_itemC D he ⟨hj, tp'⟩ (by simpa using iz) n1 (by simp; exact ⟨n1, Ne.symm n3⟩) fun x g tk hx ho st1 hT hsz hk => ?_
    have ex : x = z := by
      have hx' : its[i]? = some x := by simpa using hx
      rw [hz] at hx'
      exact (Option.some.inj hx').symm
    subst ex
    refine ⟨_, rfl, wpAny_letOwnedTupleGo_enum (s := { s with heap := g, toks := tk + 1 }) ho fun g2 he2 sb => ?_⟩
    have hT2 : g2.get? s.heap.objs.size = some { cls := .type "tuple", data := .seq #[.int i tk, x] } := (sb.2 _ (Nat.ne_of_gt he1)).trans hT
    have nw : ObjOk X.prog X.w (upd H s.heap.objs.size (.tup [.int (i : Nat), y])) g2 s.heap.objs.size (.tup [.int (i : Nat), y]) := ⟨by show 2 ≤ sizeLine; decide, [.int i tk, x], .cons ⟨_, rfl⟩ (.cons rz .nil), ⟨_, hT2, rfl, _, rfl⟩⟩
    have I2 : Inv X pins σ (upd H s.heap.objs.size (.tup [.int (i : Nat), y])) { s with heap := g2, toks := tk + 1 } := I.turnedNew (ch := [e, j]) (fun b ob hb q => by
      have m1 : b ≠ e := fun r => hb (by simp [r])
      have m2 : b ≠ j := fun r => hb (by simp [r])
      exact (sb.2 b m1).trans (hk b ob m1 m2 q)) hf (Nat.le_refl _) nw
    refine ⟨.ref s.heap.objs.size, _, I2, rfl, ⟨_, y, rfl, I.hok.fresh (Nat.le_refl _), rfl, fun vs hv => by rw [I.tuple_inj hv hq]; exact hy⟩, ⟨⟨x, ?_⟩, st1.1.at fun o q => (sb.2 j (Ne.symm n1)).trans q, n1, n2, n3⟩, fun b hb => ?_⟩
    · rw [show ((i + 1 : Nat) : Int) = (i : Int) + 1 by omega]
      exact he2
    · have hb1 : b < s.heap.objs.size := by
        have hb2 : b = e ∨ b = j := by simpa using hb
        rcases hb2 with rfl | rfl
        · exact he1
        · exact hj1
      rw [upd_ne (Nat.ne_of_lt hb1)]
      exact (hf b hb).1
  done := by
    rintro X rfl rfl rfl hc i pins s σ H E I hf ⟨⟨u, he⟩, hj, n1, n2, n3⟩ ⟨ws, hq, hy⟩
    obtain ⟨its, rv, tp', _⟩ := I.tuple hq
    obtain ⟨f0, f1, f2, f3, f4, f5⟩ := hf j (by simp)
    have lw := rv.length
    have none_ : its.toArray[i]? = none := by simp; omega
    have D : Draws X.prog X.w X.A.in1 j [j, a] i (fun _ _ => True) (fun k h => k = i ∧ h.IsTupleIter j a i ∧ h.IsTuple a its.toArray) := {
      live := fun _ _ st => let ⟨o, ho, _⟩ := st.2.1; ⟨o, ho⟩
      frame := fun _ _ _ st hk => ⟨st.1, st.2.1.at fun o q => hk j (by simp) o q, st.2.2.at fun o q => hk a (by simp) o q⟩
      item := fun k s' Q' E' hk st _ => absurd hk (by have := st.1; omega)
      done := fun s' Q' E' st hE => wpAny_nextOf_tuple_end (I.ok.hd hc) st.2.1 st.2.2 none_ hE }
    exact wpAny_pyNext_enum_endD D he ⟨rfl, hj, tp'⟩ fun g xb => ⟨rfl, I.turned (t' := s.toks) (fun b o hb q => xb b o hb q) f0 f1 f3 f4 f5⟩
  self := fun A i s Q E st h => by
    obtain ⟨⟨u, he⟩, _⟩ := st
    exact wpAny_pyIter_enum he h
def iEnT (K : PySem.W.Frag) (ta : TA) : TI := fun σ H R => ta σ H fun vs H1 => ∃ a ws, vs = [.ref a] ∧ SqT K H1 a ws ∧ R (ItT K a) H1
theorem pi_enT {X : Cx} {e : Expr} {ta : TA} {p pos tp : Pos} {els : List Expr} {k0 : Nat} (hg : Gl X "enumerate") (hm : X.mg "enumerate" = none) (ha : PA X [e] ta) (hs : starEach [e] X.env = [(false, eval e X.env)] := by rfl) :
    PI X (.Tuple els k0 tp) (.Call (.Name "enumerate" p) [e] [] pos) (iEnT X.K ta) := ⟨fun pins s σ H R I h => by
  refine Call_ (ld_blt I hg hm boot_enumerate (PyProof.Rows.callWith_type1 (thn (ha.run pos pins s σ H _ I h) fun us s1 ⟨vs, H1, I1, r1, a, ws, ev, hq, q⟩ => ?_) hs rfl))
  subst ev
  rw [Vals.ref1 r1]
  obtain ⟨its, rv, tp', _⟩ := I1.tuple hq
  have la : a < s1.heap.objs.size := let ⟨_, x, _⟩ := tp'; Heap.lt_size x
  refine dl_enum_call (begins_tuple a its.toArray) tp' fun g he hi hz hk => wpAny_pyIter_enum he ?_
  refine ⟨s1.heap.objs.size + 1, [s1.heap.objs.size + 1, s1.heap.objs.size], _, _, H1, rfl, I1.kept (t' := s1.toks) hk, turn_enT a (s1.heap.objs.size + 1) s1.heap.objs.size, ⟨⟨.none, he⟩, ⟨_, hi, rfl, rfl⟩, Nat.succ_ne_self _, Nat.ne_of_lt la, Nat.ne_of_lt (Nat.lt_succ_of_lt la)⟩, fun b hb => ?_, q⟩
  have lb : s1.heap.objs.size ≤ b := by
    have hb2 : b = s1.heap.objs.size + 1 ∨ b = s1.heap.objs.size := by simpa using hb
    rcases hb2 with rfl | rfl
    · exact Nat.le_succ _
    · exact Nat.le_refl _
  exact I1.fpOk lb (I1.hok.fresh lb)⟩
def dIET (da : DA) (γ : Env) (r : Nat → (Nat → D → Prop) → Env → Prop) : Prop := da γ fun rs γ1 => allV rs ∧ match rs.map RS.data with
  | [.tup xs] => r xs.length (fun i d => ∃ x, xs[i]? = some x ∧ d = .tup [.int i, x]) γ1
  | _ => False
theorem si_enT {K : PySem.W.Frag} {B : Bs} {ta : TA} {da : DA} (h : SA K B ta da) : SI K B (iEnT K ta) (dIET da) := fun F H σ γ W r R hq k => by
  refine h F H σ γ _ _ R hq fun vs F1 H1 γ1 rs R1 e1 o1 ⟨hv, h1⟩ => ?_
  split at h1
  · rename_i xs es
    have ra := allV_rp o1 hv
    rw [es] at ra
    cases ra with
    | cons r1 t => cases t with
      | nil =>
        cases r1 with
        | @tup a va _ ha ra =>
          refine ⟨_, va, rfl, ex_t R1.fh ha, k _ F1 H1 γ1 _ _ R1 e1 ⟨fun B F H σ γ i R e hi => ?_, fun B F H σ γ i x H' R e hi ⟨T, x1, hx, hT, hH, f1⟩ hz => ?_, fun B F H σ γ i R e hi => ?_⟩ h1⟩
          · have l1 : i < va.length := by rw [ra.length]; omega
            exact ⟨va, _, ex_t (e.trans R.fh) ha, List.getElem?_eq_getElem l1⟩
          · subst hx; subst hH
            obtain ⟨d1, q1, s1⟩ := P_getL ra.p (f1 va (ex_t (e.trans R.fh) ha))
            obtain ⟨R', ex, rp⟩ := R.newT hT (.cons (.int (i : Nat)) (.cons ((s1.mono e).zz hz) .nil))
            exact ⟨_, _, R', ex, rp, d1, q1, rfl⟩
          · exact ⟨va, ex_t (e.trans R.fh) ha, by rw [ra.length]; omega⟩
  · exact h1.elim
theorem i_enT {X : Cx} {B : Bs} {a : Expr} {ta : TA} {da : DA} {p pos : Pos} {elts : List Expr} {kk : Nat} {tpos : Pos} (hm : X.mg "enumerate" = none) (h : XA X B [a] ta da) (hg : Gl X "enumerate" := by rfl) (hs : starEach [a] X.env = [(false, eval a X.env)] := by rfl) :
    XI X B (.Tuple elts kk tpos) (.Call (.Name "enumerate" p) [a] [] pos) (iEnT X.K ta) (dIET da) := ⟨pi_enT hg hm h.pa hs, si_enT h.sa⟩
end DL

set_option Elab.async false
set_option linter.all false
set_option maxRecDepth 100000
set_option maxHeartbeats 2000000
/-! ### texts: the module's own, walked, joined; tests of dicts -/
namespace DL
open PySem PySem.Spec PyProof.Rows L2
open Evl (Ex ex_l ex_t)
theorem x_gstr {X : Cx} {B : Bs} {x z : Str} {t : Tok} {pos : Pos} (hm : X.mg x = some (.str z t)) (hg : Gl X x := by rfl) (hd : (x == ("__debug__" : Str)) = false := by decide) : XE X B (.Name x pos) (tC (.str z)) (dC (.str z)) := x_glob hg hm ⟨_, rfl⟩ (fun _ _ => .str z) hd
/-! for c in a text -/
def dIS (de : DE) (γ : Env) (r : Nat → (Nat → D → Prop) → Env → Prop) : Prop := de γ fun s γ1 => match s.data with
  | .str x => r x.cps.size (fun i d => ∃ c, x.cps[i]? = some c ∧ d = .str ⟨#[c]⟩) γ1
  | _ => False
theorem si_str {K : PySem.W.Frag} {B : Bs} {te : TE} {de : DE} (he : SE K B te de) : SI K B (iStr te) (dIS de) := fun F H σ γ W r R hq k => by
  refine he F H σ γ _ _ R hq fun v F1 H1 γ1 s R1 e1 o1 h1 => ?_
  split at h1
  · rename_i x es
    have rv := o1.rs R1
    rw [es] at rv
    refine ⟨x, rv.str, k _ F1 H1 γ1 _ _ R1 e1 ⟨fun B F H σ γ i R e hi => hi, fun B F H σ γ i y H' R e hi ⟨hH, c, hc, hy⟩ hz => ?_, fun B F H σ γ i R e hi => hi⟩ h1⟩
    subst hH; subst hy
    exact ⟨F, _, R, Evl.Ex.refl F, .str _, c, hc, rfl⟩
  · exact h1.elim
theorem i_str {X : Cx} {B : Bs} {tg e : Expr} {te : TE} {de : DE} (h : XE X B e te de) : XI X B tg e (iStr te) (dIS de) := ⟨pi_str h.pe, si_str h.se⟩
/-! sep.join(list) -/
def strsD : List D → Option (List Str)
  | [] => some []
  | .str x :: r => (strsD r).map (x :: ·)
  | _ :: _ => none
theorem strsD_map (xs : List Str) : strsD (xs.map D.str) = some xs := by
  induction xs with
  | nil => rfl
  | cons x xs ih => simp [strsD, ih]
theorem strsD_of : ∀ {ds : List D} {xs : List Str}, strsD ds = some xs → ds = xs.map D.str
  | [], xs, h => by cases h; rfl
  | d :: ds, xs, h => by
    cases d <;> first | (exfalso; simp [strsD] at h; done) | skip
    rename_i x
    simp only [strsD] at h
    obtain ⟨ys, h1, rfl⟩ := Option.map_eq_some_iff.mp h
    rw [strsD_of h1]
    rfl
def dJoin (de da : DE) (γ : Env) (q : RS → Env → Prop) : Prop := de γ fun s γ1 => match s.data with
  | .str a => da γ1 fun t γ2 => seqD t.data fun ds => ∃ ys, strsD ds = some ys ∧ (ys.map (·.length)).sum + ys.length * a.length ≤ 1000000 ∧ q (.val (.str (Txt.join a ys))) γ2
  | _ => False
def rJoin (K : PySem.W.Frag) : V → List V → Hp → VK → Prop := fun x xs H Q => ∃ a p, ∃ ys : List Str, x = .str a ∧ xs = [.ref p] ∧ (SqL K H p (ys.map V.str) ∨ SqT K H p (ys.map V.str)) ∧ (ys.map (·.length)).sum + ys.length * a.length ≤ 16777216 ∧ Q (.str (Txt.join a ys)) H
theorem se_join {K : PySem.W.Frag} {B : Bs} {te ta : TE} {de da : DE} (he : SE K B te de) (ha : SE K B ta da) : SE K B (tM1 (rJoin K) te ta) (dJoin de da) := fun F H σ γ Q q R hq k => by
  refine he F H σ γ _ _ R hq fun x F1 H1 γ1 s R1 e1 o1 h1 => ?_
  split at h1
  · rename_i a es
    have rx := o1.rs R1
    rw [es] at rx
    have hx := rx.str
    subst hx
    refine ⟨⟨a, rfl⟩, ha F1 H1 σ γ1 _ _ R1 h1 fun y F2 H2 γ2 t R2 e2 o2 h2 => ?_⟩
    obtain ⟨ds, hd, ys, hy, hl, hq⟩ := seqD_of h2
    obtain ⟨p, vs, rfl, hs, ra⟩ := (o2.rs R2).seq R2.fh hd
    rw [strsD_of hy] at ra
    rw [rp_strs ra] at hs
    exact ⟨a, p, ys, rfl, rfl, hs, Nat.le_trans hl (by decide), k _ F2 H2 γ2 (.val (.str (Txt.join a ys))) R2 (e1.trans e2) (Rp.str _) hq⟩
  · exact h1.elim
theorem x_join {X : Cx} {B : Bs} {o e : Expr} {te ta : TE} {de da : DE} {apos pos : Pos} (ho : XE X B o te de) (he : XE X B e ta da) (hs : starEach [e] X.env = [(false, eval e X.env)] := by rfl) (hbase : attributeBase o "join" X.env (eval o X.env) = eval o X.env := by rfl) (hline : (apos.endLine == pos.line) = true := by rfl) :
    XE X B (.Call (.Attribute o "join" apos) [e] [] pos) (tM1 (rJoin X.K) te ta) (dJoin de da) := ⟨pe_join ho.pe he.pe hs hbase hline, se_join ho.se he.se⟩
/-! tests -/
section
variable {X : Cx} {B : Bs} {a b : Expr} {ta tb : TE} {da db : DE} {pos : Pos}
theorem t_din (hu : X.A.units + 1 < cLine) (ha : XE X B a ta da) (hb : XE X B b tb db) (hm : behindInMarks .In b = false := by first | exact nomark _ | rfl) : XT X B (.Compare a [.In] [b] pos) (tB (tOp (rDIn false) ta tb)) (dB (d2 (fDIn false) da db)) := ⟨pt_cmp (pc_din hu ha.pe hb.pe) hm, st_B (se_op od_din ha.se hb.se)⟩
theorem t_dnin (hu : X.A.units + 1 < cLine) (ha : XE X B a ta da) (hb : XE X B b tb db) (hm : behindInMarks .NotIn b = false := by first | exact nomark _ | rfl) : XT X B (.Compare a [.NotIn] [b] pos) (tB (tOp (rDIn true) ta tb)) (dB (d2 (fDIn true) da db)) := ⟨pt_cmp (pc_dnotin hu ha.pe hb.pe) hm, st_B (se_op od_din ha.se hb.se)⟩
end
end DL
namespace DL
theorem hu1 {n : Nat} (h : n + 64 < PySem.cLine) : n + 1 < PySem.cLine := by omega
end DL

set_option Elab.async false
set_option linter.all false
set_option maxRecDepth 100000
set_option maxHeartbeats 2000000
/-! ### o.f where the place's K shows only by looking (inside a comprehension) -/
namespace DL
open PySem PySem.Spec PyProof.Rows L2
theorem x_fldK {X : Cx} {B : Bs} {e : Expr} {te : TE} {de : DE} {tab : FT} {pos : Pos} (f : Str) {K : PySem.W.Frag} (ht : FtOk K tab) (h : XE X B e te de) (hK : X.K = K := by rfl) (hb : attributeBase e f X.env (eval e X.env) = eval e X.env := by rfl) : XE X B (.Attribute e f pos) (tFld K te f) (d1 (fFld tab f) de) := by
  subst hK; exact x_fld f ht h hb
/-! ### defs with defaults, called with every parameter given -/
structure FunV (K : PySem.W.Frag) (x qual : Str) (st : Stmt) (f : Addr) (fd : FuncData) : Prop where
  ex : ∃ (oc : Value) (od : Option Addr) (dV kV doc pm : Value) (an : Option Addr) (cdv ct : Value) (osl : Array (Option Value)),
    fd = PySem.W.fnOf x qual (defArgs st) (defBody st) (defScope st) dV kV doc pm an cdv ct ∧ K.lookup f = some ⟨oc, od, .func fd, osl⟩ ∧ PySem.W.codeIn K cdv qual = true
  kp : PySem.W.keepIn K (.ref f) = true
theorem funV_mk {K : PySem.W.Frag} {x qual : Str} {st : Stmt} {f : Addr} {oc : Value} {od an : Option Addr} {osl : Array (Option Value)} {dV kV doc pm cdv ct : Value} (l : K.lookup f = some ⟨oc, od, .func (PySem.W.fnOf x qual (defArgs st) (defBody st) (defScope st) dV kV doc pm an cdv ct), osl⟩)
    (c : PySem.W.codeIn K cdv qual = true) (k : PySem.W.keepIn K (.ref f) = true) : FunV K x qual st f (PySem.W.fnOf x qual (defArgs st) (defBody st) (defScope st) dV kV doc pm an cdv ct) := ⟨⟨oc, od, dV, kV, doc, pm, an, cdv, ct, osl, rfl, l, c⟩, k⟩
theorem bindsV {K : PySem.W.Frag} {ps : List Str} {fd : FuncData} {T : Addr} {ocT : Value} {odT : Option Addr} {its : Array Value} {n : Nat} {slT : Array (Option Value)} (lT : K.lookup T = some ⟨ocT, odT, .seq its n, slT⟩)
    (h : ∀ us : List Value, us.length = ps.length → ∃ k, bindArgs fd ⟨us, []⟩ = seqItems? (.ref T) >>= k ∧ k (some its) = pure (ps.zip us)) : Binds K fd ps [] := fun s us X hl => by
  rw [List.append_nil] at hl ⊢
  obtain ⟨k, e1, e2⟩ := h us hl
  refine L2.BindsTo.of_looks fun M => ?_
  rw [e1]
  exact looks_items X lT rfl (.of_pure e2)
section
variable {P : Program} {w : World} {K : PySem.W.Frag} {mg : Str → Option Value} {base : Heap} {ct : Nat → Addr}
theorem FunV.ok {x qual : Str} {st : Stmt} {f : Addr} {fd : FuncData} {N ps : List Str} {k : Nat} {sp : Sp} (F : FunV K x qual st f fd) (S : FnScope N ps (defScope st)) (len : ∀ vs H Q E, sp vs H Q E → vs.length = ps.length)
    (hbody : ∀ (cdv : Value) (A : Around) (outer : List PySem.Env) (s : Shared) (H : Hp) (vs : List V) (Q : VK) (E : XK), Room k (A.deeper (envOfC qual (defScope st) s.heap.objs.size f cdv)) → sp vs H Q E →
      ∃ t, PSs (cxOf CX0 P w K mg base N qual (defScope st) f cdv A outer s H E).nox (defBody st) t ∧ t { nx := fun _ H' => Q .non H', rt := Q } (L2.start N vs) H) : FnOk P w K mg base CX0 (k + 1) f fd ps sp := by
  obtain ⟨oc, od, dV, kV, doc, pm, an, cdv, ct, osl, rfl, lk, hcd⟩ := F.ex
  refine fn_of lk hcd S len fun A outer s H vs Q E hr hsp => ?_
  obtain ⟨t, h, q⟩ := hbody cdv A outer s H vs Q E hr hsp
  exact ⟨t, h.nox, q⟩
theorem fn_cxV {x qual : Str} {st : Stmt} {f : Addr} {fd : FuncData} {N ps : List Str} {k : Nat} {sp : Sp} (F : FunV K x qual st f fd) (S : FnScope N ps (defScope st)) (len : ∀ vs H Q E, sp vs H Q E → vs.length = ps.length)
    (body : ∀ (cd : Value) (A : Around) (o : List PySem.Env) (s : Shared) (H : Hp) (vs : List V) (Q : VK) (E : XK), Room k (A.deeper (envOfC qual (defScope st) s.heap.objs.size f cd)) → sp vs H Q E →
      ∃ t, PSs (cxOf (L2N.CX P w) P w K mg base N qual (defScope st) f cd A o s H E) (defBody st) t ∧ t { nx := fun _ H' => Q .non H', rt := Q } (L2.start N vs) H) : FnOk P w K mg base (L2N.CX P w) (k + 1) f fd ps sp := by
  obtain ⟨_, _, _, _, _, _, _, cd, _, _, e, lk, hc⟩ := F.ex
  subst e
  exact fn_of lk hc S len fun A o s H vs Q E r h => body cd A o s H vs Q E r h
/-- a def that may raise -/
theorem fn_okXV {x qual : Str} {st : Stmt} {f : Addr} {fd : FuncData} {N ps : List Str} {k n : Nat} {fs : FSX} {ds : DX → DS} (F : FunV K x qual st f fd) (S : FnScope N ps (defScope st)) (hn : ps.length = n) (hN : n ≤ N.length)
    (body : ∀ (B : Bs) (W : WX) (xc : DX) (cdv : Value) (A : Around) (outer : List PySem.Env) (s : Shared) (H : Hp) (E : XK), Room k (A.deeper (envOfC qual (defScope st) s.heap.objs.size f cdv)) → XOk K ct B W xc →
      L2N.Takes (cxOf (L2N.CX P w) P w K mg base N qual (defScope st) f cdv A outer s H E) W → ∃ ts, XSs (cxOf (L2N.CX P w) P w K mg base N qual (defScope st) f cdv A outer s H E) B (defBody st) ts (ds xc))
    (h : ∀ as p x, as.length = n → fs as p x → ds (xcOf as x) (endsOf as p) (startG N.length as)) : FnOk P w K mg base (L2N.CX P w) (k + 1) f fd ps (spOfX K ct n fs) := by
  refine fn_cxV F S (fun vs H Q E h => h.1.trans hn.symm) fun cdv A outer s H vs Q E hr hsp => ?_
  obtain ⟨hl, F0, m, z, as, p, x, R0, hf, hq, he⟩ := hsp
  have ha : as.length = n := by have := R0.len; rw [List.length_map] at this; omega
  have xo : XOk K ct (entry F0 H m z vs) (fun cls d _ H => E cls d H) (xcOf as x) := fun F' H' σ' γ' nm dd xs R' xd h1 => by
    obtain ⟨zs, ho, hp⟩ := outP h1
    exact he nm xs dd zs F' H' hp (R0.outs R' ho) xd
  obtain ⟨ts, b⟩ := body (entry F0 H m z vs) _ _ cdv A outer s H E hr xo (L2N.takes_of rfl rfl rfl rfl)
  refine ⟨ts, b.ps, ?_⟩
  refine b.ss F0 H _ _ _ (endsOf as p) (R0.start (by rw [hl]; exact hN)) (h as p x ha hf) ⟨fun F' H' σ' γ' R' _ h1 => ?_, fun F' H' σ' γ' v r R' _ o ⟨hk, h1⟩ => ?_, fun _ _ _ _ _ _ z => z, fun _ _ _ _ _ _ z => z⟩
  · obtain ⟨zs, ho, hp⟩ := outP h1
    exact hq (.val .non) zs .non F' H' hp (R0.outs R' ho) .non trivial
  · obtain ⟨zs, ho, hp⟩ := outP h1
    have R2 := R0.outs R' ho
    refine hq r zs v F' H' hp R2 ?_ hk
    cases r with
    | val d => exact o
    | own j c => exact hk.elim
    | new c =>
      obtain ⟨a, rfl, N⟩ := o
      refine ⟨a, rfl, N.fa, N.ok, N.bn, N.bm, fun i p' c' h1 h2 => ?_⟩
      obtain ⟨_, ok⟩ := R2.ownObj h1 h2
      have e1 : H a = none := N.bn
      obtain ⟨_, h3⟩ := outs_get ho
      rcases h3 i _ h1 with ⟨p2, c0, c2, e2, _, _⟩ | ⟨_, n2⟩
      · obtain ⟨_, ok2⟩ := R0.ownObj e2 h2
        obtain ⟨o, ho, _⟩ := ok2.obj
        rw [e1] at ho; cases ho
      · exact n2 p' c' rfl
theorem fn_okV {x qual : Str} {st : Stmt} {f : Addr} {fd : FuncData} {N ps : List Str} {k n : Nat} {fs : FS} {ds : DS} (F : FunV K x qual st f fd) (S : FnScope N ps (defScope st)) (hn : ps.length = n) (hN : n ≤ N.length)
    (body : ∀ (B : Bs) (cdv : Value) (A : Around) (outer : List PySem.Env) (s : Shared) (H : Hp) (E : XK), Room k (A.deeper (envOfC qual (defScope st) s.heap.objs.size f cdv)) → ∃ ts, XSs (cxOf CX0 P w K mg base N qual (defScope st) f cdv A outer s H E).nox B (defBody st) ts ds)
    (h : ∀ as p, as.length = n → fs as p → ds (endsOf as p) (startG N.length as)) : FnOk P w K mg base CX0 (k + 1) f fd ps (spOf K n fs) := by
  refine F.ok S (fun vs H Q E h => h.1.trans hn.symm) fun cdv A outer s H vs Q E hr hsp => ?_
  obtain ⟨hl, F0, m, z, as, p, R0, hf, hq⟩ := hsp
  obtain ⟨ts, b⟩ := body (entry F0 H m z vs) cdv A outer s H E hr
  refine ⟨ts, b.ps, ?_⟩
  have ha : as.length = n := by have := R0.len; rw [List.length_map] at this; omega
  refine b.ss F0 H _ _ _ (endsOf as p) (R0.start (by rw [hl]; exact hN)) (h as p ha hf) ⟨fun F' H' σ' γ' R' _ h1 => ?_, fun F' H' σ' γ' v r R' _ o ⟨hk, h1⟩ => ?_, fun _ _ _ _ _ _ z => z, fun _ _ _ _ _ _ z => z⟩
  · obtain ⟨zs, ho, hp⟩ := outP h1
    exact hq (.val .non) zs .non F' H' hp (R0.outs R' ho) .non trivial
  · obtain ⟨zs, ho, hp⟩ := outP h1
    have R2 := R0.outs R' ho
    refine hq r zs v F' H' hp R2 ?_ hk
    cases r with
    | val d => exact o
    | own j c => exact hk.elim
    | new c =>
      obtain ⟨a, rfl, N⟩ := o
      refine ⟨a, rfl, N.fa, N.ok, N.bn, N.bm, fun i p' c' h1 h2 => ?_⟩
      obtain ⟨_, ok⟩ := R2.ownObj h1 h2
      have e1 : H a = none := N.bn
      obtain ⟨_, h3⟩ := outs_get ho
      rcases h3 i _ h1 with ⟨p2, c0, c2, e2, _, _⟩ | ⟨_, n2⟩
      · obtain ⟨_, ok2⟩ := R0.ownObj e2 h2
        obtain ⟨o, ho, _⟩ := ok2.obj
        rw [e1] at ho; cases ho
      · exact n2 p' c' rfl
end
end DL

set_option Elab.async false
set_option linter.all false
set_option maxRecDepth 100000
set_option maxHeartbeats 2000000
/-! ### x in o, by the class's own __contains__; promises that nobody asks -/
namespace DL
open PySem PySem.Spec PyProof.Rows L2
open Evl (Ex ex_l ex_t)
inductive CDisp (P : Program) (w : World) (K : PySem.W.Frag) (mg : Str → Option Value) (base : Heap) (km : Nat) (C : Addr) (sp : Sp) : Prop
  | mk {k : Nat} {f : Addr} {fd : FuncData} {ps : List Str} : PySem.W.findIn K (.ref C) "__contains__" = some (some (.ref f)) → PySem.W.isFn K (.ref f) = true → FnOk P w K mg base CX0 k f fd ps sp → k ≤ km → Binds K fd ps [] → CDisp P w K mg base km C sp
def tInO (P : Program) (w : World) (K : PySem.W.Frag) (mg : Str → Option Value) (base : Heap) (km : Nat) (neg : Bool) (ta tb : TE) : TE := fun σ H Q => ta σ H fun y H1 => tb σ H1 fun x H2 => ∃ a C dx fs sp, x = .ref a ∧ H2 a = some (.ins C dx fs) ∧ CDisp P w K mg base km C sp ∧
  sp [x, y] H2 (fun r H3 => ∃ b, r = .bl b ∧ Q (.bl (if neg then !b else b)) H3) E0
section
variable {X : Cx} {km : Nat} {a b : Expr} {ta tb : TE}
theorem pc_inO (ha : PE X a ta) (hb : PE X b tb) (hr : Room km X.A) : PC X .In a b (tInO X.prog X.w X.K X.mg X.base km false ta tb) := by
  refine ⟨fun pins s σ H Q I h => ?_⟩
  refine thn (ha.run pins s σ H _ I h) fun iv s1 ⟨y, H1, I1, ry, q1⟩ => thn (hb.run pins s1 σ H1 _ I1 q1) fun u s2 ⟨x, H2, I2, rx, p, C, dx, fs, sp, ex, ea, dp, q⟩ => ?_
  subst ex
  obtain rfl : u = Value.ref p := rx
  obtain ⟨hs, hf, F, hk, hbd⟩ := dp
  obtain ⟨mA, O, _⟩ := ins_get I2.hok ea
  obtain ⟨od, J, _⟩ := O.look
  obtain ⟨m, fr⟩ := I2.fr
  have cl := run_fnS (us := [.ref p, iv]) (vs := [.ref p, y]) F (hr.mono hk) hbd (fun _ _ _ _ _ h => pass0 _ _ _ _ _ h) I2 (.cons rfl (.cons ry .nil)) q
  refine PySem.W.in_K fr I2.mod.kin J hs hf (wpAny_mono cl (fun v s' ⟨x', H', I', r', b, eb, hq⟩ => ?_) fun _ _ e => e)
  subst eb
  obtain rfl : v = Value.bool b := r'
  exact wpAny_pure ⟨.bl b, H', I', rfl, hq⟩
theorem pc_ninO (ha : PE X a ta) (hb : PE X b tb) (hr : Room km X.A) : PC X .NotIn a b (tInO X.prog X.w X.K X.mg X.base km true ta tb) := by
  refine ⟨fun pins s σ H Q I h => ?_⟩
  refine thn (ha.run pins s σ H _ I h) fun iv s1 ⟨y, H1, I1, ry, q1⟩ => thn (hb.run pins s1 σ H1 _ I1 q1) fun u s2 ⟨x, H2, I2, rx, p, C, dx, fs, sp, ex, ea, dp, q⟩ => ?_
  subst ex
  obtain rfl : u = Value.ref p := rx
  obtain ⟨hs, hf, F, hk, hbd⟩ := dp
  obtain ⟨mA, O, _⟩ := ins_get I2.hok ea
  obtain ⟨od, J, _⟩ := O.look
  obtain ⟨m, fr⟩ := I2.fr
  have cl := run_fnS (us := [.ref p, iv]) (vs := [.ref p, y]) F (hr.mono hk) hbd (fun _ _ _ _ _ h => pass0 _ _ _ _ _ h) I2 (.cons rfl (.cons ry .nil)) q
  refine PySem.W.notIn_K fr I2.mod.kin J hs hf (wpAny_mono cl (fun v s' ⟨x', H', I', r', b, eb, hq⟩ => ?_) fun _ _ e => e)
  subst eb
  obtain rfl : v = Value.bool b := r'
  exact wpAny_pure ⟨.bl (!b), H', I', rfl, hq⟩
end
/-- the value first, then the thing -/
def dInO (neg : Bool) (tb : MT) (l : DA) (γ : Env) (q : RS → Env → Prop) : Prop := l γ fun rs γ1 => match rs with
  | [t, s] => (match s.data with
    | .obj C fl => ∃ fs, tb C = some fs ∧ (ownIx [s, t]).Nodup ∧ fs (argsOf 0 [s, t]) fun r as' => ∃ b, r = .val (.bl b) ∧ q (.val (.bl (if neg then !b else b))) (upds γ1 [s, t] as')
    | _ => False)
  | _ => False
theorem se_inO {P : Program} {w : World} {K : PySem.W.Frag} {mg : Str → Option Value} {base : Heap} {km : Nat} {B : Bs} {neg : Bool} {te tf : TE} {de df : DE} {tb : MT} (hd : ∀ C fs, tb C = some fs → CDisp P w K mg base km (ctOf K C) (spOf K 2 fs)) (he : SE K B te de) (hf : SE K B tf df) :
    SE K B (tInO P w K mg base km neg te tf) (dInO neg tb (dCons de (dCons df dNil))) := fun F H σ γ Q q R hq k => by
  have sl := sa_cons he (sa_cons hf (sa_nil (K := K) (B := B)))
  have := sl F H σ γ (fun vs H2 => ∃ y x, vs = [y, x] ∧ ∃ a C dx fs sp, x = .ref a ∧ H2 a = some (.ins C dx fs) ∧ CDisp P w K mg base km C sp ∧ sp [x, y] H2 (fun r H3 => ∃ b, r = .bl b ∧ Q (.bl (if neg then !b else b)) H3) E0) _ R hq fun vs F1 H1 γ1 rs R1 e1 o1 h1 => by
    split at h1
    · rename_i t s
      split at h1
      · rename_i C fl es
        obtain ⟨fs, ht, hn, h6⟩ := h1
        cases o1 with
        | cons o3 o2 => cases o2 with
          | cons o2 o4 => cases o4 with
            | nil =>
              rename_i y x
              have r := o2.rs R1
              rw [es] at r
              obtain ⟨a, dx, fv, rfl, q2, q3⟩ := r.obj R1.fh
              refine ⟨_, _, rfl, a, _, dx, fv, _, rfl, q2, hd C fs ht, ?_⟩
              have oo : Paired (RsOk K B F1 H1 σ γ1) [.ref a, y] [s, t] := .cons o2 (.cons o3 .nil)
              obtain ⟨m', hm, RE⟩ := R1.args (dvs := []) (dds := []) oo .nil hn
              simp only [List.append_nil, List.map_nil] at RE
              refine ⟨rfl, F1, m', _, _, _, RE, h6, fun r as' v F4 H4 ⟨b, rb, hp⟩ R4 ok hk => ?_⟩
              obtain ⟨R5, e5, ok5⟩ := R1.called oo hn (fun i v hv => hv) hm R4
              subst rb
              obtain rfl : v = .bl b := by
                have z := ok.rs R4
                exact z.bl
              exact ⟨b, rfl, k _ F4 H4 _ (.val (.bl (if neg then !b else b))) R5 (e1.trans e5) (Rp.bl _) hp⟩
      · exact h1.elim
    · exact h1.elim
  unfold tInO
  refine Eq.mp ?_ this
  unfold tCons tNil
  congr 1
  funext y H1
  congr 1
  funext x H2
  exact propext ⟨fun ⟨x', y', e, h⟩ => by cases e; exact h, fun h => ⟨y, x, rfl, h⟩⟩
section
variable {X : Cx} {B : Bs} {a b : Expr} {te tf : TE} {de df : DE} {km : Nat} {pos : Pos}
theorem x_inO (P : Program) (w : World) (K : PySem.W.Frag) (mg : Str → Option Value) (base : Heap) (hX : (X.prog, X.w, X.K, X.mg, X.base) = (P, w, K, mg, base)) (hr : Room km X.A) {tb : MT} (hd : ∀ C fs, tb C = some fs → CDisp P w K mg base km (ctOf K C) (spOf K 2 fs)) (ha : XE X B a te de) (hb : XE X B b tf df) (hm : behindInMarks .In b = false := by first | exact nomark _ | rfl) :
    XE X B (.Compare a [.In] [b] pos) (tInO P w K mg base km false te tf) (dInO false tb (dCons de (dCons df dNil))) := by
  cases hX
  exact ⟨pe_cmp (pc_inO ha.pe hb.pe hr) hm, se_inO hd ha.se hb.se⟩
theorem x_ninO (P : Program) (w : World) (K : PySem.W.Frag) (mg : Str → Option Value) (base : Heap) (hX : (X.prog, X.w, X.K, X.mg, X.base) = (P, w, K, mg, base)) (hr : Room km X.A) {tb : MT} (hd : ∀ C fs, tb C = some fs → CDisp P w K mg base km (ctOf K C) (spOf K 2 fs)) (ha : XE X B a te de) (hb : XE X B b tf df) (hm : behindInMarks .NotIn b = false := by first | exact nomark _ | rfl) :
    XE X B (.Compare a [.NotIn] [b] pos) (tInO P w K mg base km true te tf) (dInO true tb (dCons de (dCons df dNil))) := by
  cases hX
  exact ⟨pe_cmp (pc_ninO ha.pe hb.pe hr) hm, se_inO hd ha.se hb.se⟩
theorem t_inO (P : Program) (w : World) (K : PySem.W.Frag) (mg : Str → Option Value) (base : Heap) (hX : (X.prog, X.w, X.K, X.mg, X.base) = (P, w, K, mg, base)) (hr : Room km X.A) {tb : MT} (hd : ∀ C fs, tb C = some fs → CDisp P w K mg base km (ctOf K C) (spOf K 2 fs)) (ha : XE X B a te de) (hb : XE X B b tf df) (hm : behindInMarks .In b = false := by first | exact nomark _ | rfl) :
    XT X B (.Compare a [.In] [b] pos) (tB (tInO P w K mg base km false te tf)) (dB (dInO false tb (dCons de (dCons df dNil)))) := by
  cases hX
  exact ⟨pt_cmp (pc_inO ha.pe hb.pe hr) hm, st_B (se_inO hd ha.se hb.se)⟩
theorem t_ninO (P : Program) (w : World) (K : PySem.W.Frag) (mg : Str → Option Value) (base : Heap) (hX : (X.prog, X.w, X.K, X.mg, X.base) = (P, w, K, mg, base)) (hr : Room km X.A) {tb : MT} (hd : ∀ C fs, tb C = some fs → CDisp P w K mg base km (ctOf K C) (spOf K 2 fs)) (ha : XE X B a te de) (hb : XE X B b tf df) (hm : behindInMarks .NotIn b = false := by first | exact nomark _ | rfl) :
    XT X B (.Compare a [.NotIn] [b] pos) (tB (tInO P w K mg base km true te tf)) (dB (dInO true tb (dCons de (dCons df dNil)))) := by
  cases hX
  exact ⟨pt_cmp (pc_ninO ha.pe hb.pe hr) hm, st_B (se_inO hd ha.se hb.se)⟩
end
/-- nobody asks -/
theorem fn_void {P : Program} {w : World} {K : PySem.W.Frag} {mg : Str → Option Value} {base : Heap} {CX : CXT} {k n : Nat} {f : Addr} {fd : FuncData} {ps : List Str} : FnOk P w K mg base CX k f fd ps (spOf K n fun _ _ => False) where
  len := fun vs H Q E h => by
    obtain ⟨_, _, _, _, _, _, _, z, _⟩ := h
    exact z.elim
  run := fun A outer s H args us vs Q E _ _ _ _ h => by
    obtain ⟨_, _, _, _, _, _, _, z, _⟩ := h
    exact z.elim
/-! xs.count(i) -/
def mCount (ds as : List D) (q : D → Prop) : Prop := match as with
  | [.int y] => ∃ ns : List Int, ds = ns.map D.int ∧ q (.int (ns.count y : Nat))
  | _ => False
theorem rd_count {K : PySem.W.Frag} : RdD K (rCntI K) mCount := fun z F H a vs ds xs as Q q eFH ha ra rx hf k => by
  unfold mCount at hf
  split at hf
  · obtain ⟨x, rfl, r1⟩ := one_rs rx.p
    cases r1
    obtain ⟨ns, rfl, h3⟩ := hf
    have ev := rp_ints ra
    subst ev
    exact ⟨a, _, _, rfl, rfl, Evl.sq_of ha, k _ _ (.int _) h3⟩
  · exact hf.elim
end DL

set_option Elab.async false
set_option linter.all false
set_option maxRecDepth 100000
set_option maxHeartbeats 2000000
/-! ### C.m(..), a classmethod that may raise -/
namespace DL
open PySem PySem.Spec PyProof.Rows L2
open Evl (Ex ex_l ex_t)
def tCM (C : Addr) (sp : Sp) (E : L2.St → XK) (t : TA) : TE := fun σ H Q => t σ H fun vs H2 => sp (.ref C :: vs) H2 Q (E σ)
section
variable {X : Cx} {CX : CXT} {k : Nat} {C p g : Addr} {mc : Value} {fd : FuncData} {ps : List Str} {sp : Sp} {E : L2.St → XK} {e : Expr} {es : List Expr} {x m : Str} {pos apos np : Pos} {t : TA} {pl : Sem Bool}
theorem run_fnC {f : Addr} {pins : List (Addr × Obj)} {σ : L2.St} {H : Hp} {s : Shared} {Q : VK} {us : List Value} {vs : List V} (F : FnOk X.prog X.w X.K X.mg X.base CX k f fd ps sp) (hr : Room k X.A) (hb : Binds X.K fd ps []) (hx : ∀ σ, PassesAt CX X σ (E σ))
    (I : Inv X pins σ H s) (r : Vals vs us) (h : sp vs H Q (E σ)) : codeAny (model X.prog X.w) X.A (.call (.ref f) ⟨us, []⟩) (fun r s' => match r with | .ok (.ret v) => EP X pins σ Q v s' | .ok _ => False | .error e => X.xe e s') s := by
  have hl : (us ++ []).length = ps.length := by rw [List.append_nil, ← r.length]; exact F.len _ _ _ _ h
  have hb' := hb s us I.kIn hl
  rw [List.append_nil] at hb'
  refine codeAny_mono (F.run X.A X.stack s H ⟨us, []⟩ us vs Q (E σ) hr I.env0 hb' r h) fun r s' hq => ?_
  cases r with
  | error e => exact hx σ pins H s e s' I hq
  | ok fl =>
    cases fl with
    | ret u => exact I.after hq
    | next => exact False.elim hq
    | brk => exact False.elim hq
    | cont => exact False.elim hq
theorem run_cmS {q : Addr} {pins : List (Addr × Obj)} {σ : L2.St} {H : Hp} {s : Shared} {Q : VK} {us : List Value} {vs : List V} (F : FnOk X.prog X.w X.K X.mg X.base CX k g fd ps sp) (hr : Room k X.A) (hb : Binds X.K fd ps []) (hx : ∀ σ, PassesAt CX X σ (E σ))
    (I : Inv X ((q, PySem.W.methodObj (.ref g) (.ref C)) :: pins) σ H s) (r : Vals vs us) (h : sp (.ref C :: vs) H Q (E σ)) : wpAny (model X.prog X.w) X.A (call (.ref q) us) (EP X pins σ Q) X.xe s := by
  have z : wpAny (model X.prog X.w) X.A (call (.ref q) us) (EP X ((q, PySem.W.methodObj (.ref g) (.ref C)) :: pins) σ Q) X.xe s :=
    wpAny_call (PySem.W.method_call (ClX.pin_at I) (run_fnC (us := .ref C :: us) (vs := .ref C :: vs) F hr hb hx I (.cons rfl r) h))
  exact thn z fun _ _ y => ClX.unpinE y
theorem pe_cmS {te : TE} {o : Expr} (he : PE X o te) (r : ClX.CRead X.K C mc) (c : ClX.CMet X.K C mc m p g) (F : FnOk X.prog X.w X.K X.mg X.base CX k g fd ps sp) (hr : Room k X.A) (hb : Binds X.K fd ps []) (hx : ∀ σ, PassesAt CX X σ (E σ)) (ha : PA X (e :: es) t)
    (hst : starEach (e :: es) X.env = (false, eval e X.env) :: starEach es X.env := by rfl) (hpl : (backTo pos (starEach es X.env)).any (·.1) = false := by rfl)
    (ht : eval (.Call (.Attribute o m apos) (e :: es) [] pos) X.env = (do
      let ov ← eval o X.env
      standAt apos.atName
      let (f, first) ← holding [ov] (getMethod ov m pl)
      callWith pos f first (backTo pos (starEach (e :: es) X.env)) (backToKw pos (keywordEach [] X.env))) := by rfl) :
    PE X (.Call (.Attribute o m apos) (e :: es) [] pos) (fun σ H Q => te σ H fun x H1 => x = .ref C ∧ tCM C sp E t σ H1 Q) := by
  refine ⟨fun pins s σ H Q I h => ?_⟩
  refine PySem.W.methodCall_KW (pl := pl) (thn (he.run pins s σ H _ I h) fun u s1 ⟨x, H1, I1, rx, ex, q⟩ => ?_) ht
  subst ex
  obtain rfl : u = Value.ref C := rx
  refine ClX.getmethcm_ok I1 r c fun s2 I2 => ?_
  refine ClX.callwith_cm I2 (ClX.base_none I1 (Nat.le_refl _)) c.fi (thn (ha.run pos _ s2 σ H1 _ I2 q) fun us s3 ⟨vs, H2, I3, rv, q2⟩ => ⟨⟨ClX.pin_at I3, I3.kIn⟩, ?_⟩) hst hpl
  exact run_cmS F hr hb hx I3 rv q2
end
def dCMX (xc : DX) (C : String) (n : Nat) (fs : FSX) (da : DA) (γ : Env) (q : RS → Env → Prop) : Prop := da γ fun rs γ1 => (ownIx rs).Nodup ∧ rs.length + 1 = n ∧
  fs (argsOf 0 (RS.val (.kls C) :: rs)) (fun r as' => q r (upds γ1 (RS.val (.kls C) :: rs) as')) fun nm xs as' => xc nm xs (upds γ1 (RS.val (.kls C) :: rs) as')
theorem se_cmX {K : PySem.W.Frag} {B : Bs} {ct : Nat → Addr} {C : String} {n : Nat} {fs : FSX} {W : WX} {xc : DX} {ta : TA} {da : DA} (h : SA K B ta da) (xo : XOk K ct B W xc) :
    SE K B (fun σ H Q => tC (.ref (ctOf K C)) σ H fun x H1 => x = .ref (ctOf K C) ∧ tCM (ctOf K C) (spOfX K ct n fs) (WE W) ta σ H1 Q) (dCMX xc C n fs da) := fun F H σ γ Q q R hq k => by
  refine ⟨rfl, h F H σ γ _ _ R hq fun vs F1 H1 γ1 rs R1 e1 o1 ⟨h1, h2, h3⟩ => ?_⟩
  have oo : Paired (RsOk K B F1 H1 σ γ1) (.ref (ctOf K C) :: vs) (RS.val (.kls C) :: rs) := .cons (Rp.kls C) o1
  have cc := call_core (W := WE W σ) (ct := ct) (n := n) (fs := fs) (dvs := []) (dds := []) (q := q) (Q := Q) .nil R1 oo (fun F' H' γ' nm dd fs R' xd hx => xo F' H' σ γ' nm dd fs R' xd hx) (by simpa [ownIx] using h1) (by simpa using h2) (by simpa using h3) fun v F' H' γ' s' R' e' o' hq => k v F' H' γ' s' R' (e1.trans e') o' hq
  rw [List.append_nil] at cc
  exact cc
section
variable {X : Cx} {B : Bs} {ct : Nat → Addr} {a : Expr} {es : List Expr} {ta : TA} {da : DA} {k n : Nat} {C : String} {mc : Value} {p g : Addr} {fd : FuncData} {ps : List Str} {fs : FSX} {x m : Str} {np apos pos : Pos} {W : WX} {xc : DX} {pl : Sem Bool}
theorem x_cmX (K : PySem.W.Frag) (hK : X.K = K) (xo : XOk X.K ct B W xc) (tk : L2N.Takes X W) (r : ClX.CRead X.K (ctOf X.K C) mc) (c : ClX.CMet X.K (ctOf X.K C) mc m p g) (G : FnOk X.prog X.w X.K X.mg X.base (L2N.CX X.prog X.w) k g fd ps (spOfX X.K ct n fs)) (hr : Room k X.A) (hb : Binds X.K fd ps []) (hm : X.mg x = some (.ref (ctOf X.K C))) (h : XA X B (a :: es) ta da)
    (hg : Gl X x := by rfl) (hdb : (x == ("__debug__" : Str)) = false := by decide) (hst : starEach (a :: es) X.env = (false, eval a X.env) :: starEach es X.env := by rfl) (hpl : (backTo pos (starEach es X.env)).any (·.1) = false := by rfl)
    (ht : eval (.Call (.Attribute (.Name x np) m apos) (a :: es) [] pos) X.env = (do
      let ov ← eval (.Name x np) X.env
      standAt apos.atName
      let (f, first) ← holding [ov] (getMethod ov m pl)
      callWith pos f first (backTo pos (starEach (a :: es) X.env)) (backToKw pos (keywordEach [] X.env))) := by rfl) :
    XE X B (.Call (.Attribute (.Name x np) m apos) (a :: es) [] pos) (fun σ H Q => tC (.ref (ctOf K C)) σ H fun x H1 => x = .ref (ctOf K C) ∧ tCM (ctOf K C) (spOfX K ct n fs) (WE W) ta σ H1 Q) (dCMX xc C n fs da) := by
  subst hK
  have o : XE X B (.Name x np) (tC (.ref (ctOf X.K C))) (dC (.kls C)) := x_glob hg hm rfl (fun z F => Rp.kls (K := ⟨X.K, z⟩) C) hdb
  exact ⟨pe_cmS (pl := pl) o.pe r c G hr hb (fun σ => L2N.passAt tk σ) h.pa hst hpl ht, se_cmX h.sa xo⟩
theorem se_cmN {K : PySem.W.Frag} {B : Bs} {ct : Nat → Addr} {C : String} {n : Nat} {fs : FSX} {ta : TA} {da : DA} (h : SA K B ta da) :
    SE K B (fun σ H Q => tC (.ref (ctOf K C)) σ H fun x H1 => x = .ref (ctOf K C) ∧ tCM (ctOf K C) (spOfX K ct n fs) (fun _ => E0) ta σ H1 Q) (dCMX (fun _ _ _ => False) C n fs da) := fun F H σ γ Q q R hq k => by
  refine ⟨rfl, h F H σ γ _ _ R hq fun vs F1 H1 γ1 rs R1 e1 o1 ⟨h1, h2, h3⟩ => ?_⟩
  have oo : Paired (RsOk K B F1 H1 σ γ1) (.ref (ctOf K C) :: vs) (RS.val (.kls C) :: rs) := .cons (Rp.kls C) o1
  have cc := call_core (W := E0) (ct := ct) (n := n) (fs := fs) (dvs := []) (dds := []) (q := q) (Q := Q) (xc := fun _ _ _ => False) .nil R1 oo (fun F' H' γ' nm dd fs R' xd hx => hx) (by simpa [ownIx] using h1) (by simpa using h2) (by simpa using h3) fun v F' H' γ' s' R' e' o' hq => k v F' H' γ' s' R' (e1.trans e') o' hq
  rw [List.append_nil] at cc
  exact cc
theorem x_cmN (K : PySem.W.Frag) (hK : X.K = K) (r : ClX.CRead X.K (ctOf X.K C) mc) (c : ClX.CMet X.K (ctOf X.K C) mc m p g) (G : FnOk X.prog X.w X.K X.mg X.base (L2N.CX X.prog X.w) k g fd ps (spOfX X.K ct n fs)) (hr : Room k X.A) (hb : Binds X.K fd ps []) (hm : X.mg x = some (.ref (ctOf X.K C))) (h : XA X B (a :: es) ta da)
    (hg : Gl X x := by rfl) (hdb : (x == ("__debug__" : Str)) = false := by decide) (hst : starEach (a :: es) X.env = (false, eval a X.env) :: starEach es X.env := by rfl) (hpl : (backTo pos (starEach es X.env)).any (·.1) = false := by rfl)
    (ht : eval (.Call (.Attribute (.Name x np) m apos) (a :: es) [] pos) X.env = (do
      let ov ← eval (.Name x np) X.env
      standAt apos.atName
      let (f, first) ← holding [ov] (getMethod ov m pl)
      callWith pos f first (backTo pos (starEach (a :: es) X.env)) (backToKw pos (keywordEach [] X.env))) := by rfl) :
    XE X B (.Call (.Attribute (.Name x np) m apos) (a :: es) [] pos) (fun σ H Q => tC (.ref (ctOf K C)) σ H fun x H1 => x = .ref (ctOf K C) ∧ tCM (ctOf K C) (spOfX K ct n fs) (fun _ => E0) ta σ H1 Q) (dCMX (fun _ _ _ => False) C n fs da) := by
  subst hK
  have o : XE X B (.Name x np) (tC (.ref (ctOf X.K C))) (dC (.kls C)) := x_glob hg hm rfl (fun z F => Rp.kls (K := ⟨X.K, z⟩) C) hdb
  exact ⟨pe_cmS (pl := pl) o.pe r c G hr hb (fun σ pins H s e s' => passN pins σ H s e s') h.pa hst hpl ht, se_cmN h.sa⟩
end
end DL

set_option Elab.async false
set_option linter.all false
set_option maxRecDepth 100000
set_option maxHeartbeats 2000000
/-! ### C(..) whose __init__ may raise, the class by its name or in a slot -/
namespace DL
open PySem PySem.Spec PyProof.Rows L2
open Evl (Ex ex_l ex_t)
def tMakeX (C : Addr) (sp : Sp) (dvs : List V) (E : L2.St → XK) (t : TA) : TE := fun σ H Q => t σ H fun vs H1 => ∀ x dx, H1 x = none → H1 dx = none → dx ≠ x →
  sp (.ref x :: (vs ++ dvs)) (upd (upd H1 dx (.own x)) x (.ins C dx [])) (fun v H2 => v = .non ∧ Q (.ref x) H2) (E σ)
section
variable {X : Cx} {CX : CXT} {k i : Nat} {C f : Addr} {fd : FuncData} {ps : List Str} {sp : Sp} {dvs : List V} {ds : List Value} {E : L2.St → XK} {e : Expr} {es : List Expr} {x : Str} {p pos : Pos} {t : TA}
theorem run_makeS {pins : List (Addr × Obj)} {σ : L2.St} {H : Hp} {s : Shared} {Q : VK} {us : List Value} {vs : List V} (M : Mk X.K C f) (F : FnOk X.prog X.w X.K X.mg X.base CX k f fd ps sp) (hr : Room (k + 1) X.A) (hb : Binds X.K fd ps ds) (hd : Vals dvs ds)
    (hx : ∀ σ, PassesAt CX X σ (E σ)) (I : Inv X pins σ H s) (r : Vals vs us)
    (h : ∀ x dx, H x = none → H dx = none → dx ≠ x → sp (.ref x :: (vs ++ dvs)) (upd (upd H dx (.own x)) x (.ins C dx [])) (fun v H2 => v = .non ∧ Q (.ref x) H2) (E σ)) :
    wpAny (model X.prog X.w) X.A (call (.ref C) us) (EP X pins σ Q) X.xe s := by
  have hq := h (s.heap.objs.size + 1) s.heap.objs.size (I.hok.fresh (Nat.le_succ _)) (I.hok.fresh (Nat.le_refl _)) (Nat.ne_of_lt (Nat.lt_succ_self _))
  have I2 := Inv.made (C := C) I
  have r2 : Vals (V.ref (s.heap.objs.size + 1) :: (vs ++ dvs)) (Value.ref (s.heap.objs.size + 1) :: (us ++ ds)) := .cons rfl (r.append hd)
  have hl : (Value.ref (s.heap.objs.size + 1) :: us ++ ds).length = ps.length := by
    have e := r2.length
    rw [F.len _ _ _ _ hq] at e
    exact e.symm
  refine wpAny_call (make_map (f := f) I.kIn M.makes M.init (beq_iff_eq.mp M.fn) (codeAny_mono (F.run _ X.stack _ _ ⟨Value.ref (s.heap.objs.size + 1) :: us, []⟩ (Value.ref (s.heap.objs.size + 1) :: (us ++ ds)) _ _ (E σ) (hr.make C us [])
    (I2.env0.make C us []) (hb _ (Value.ref (s.heap.objs.size + 1) :: us) I2.kIn hl) r2 hq) fun r s' hq' => ?_))
  cases r with
  | error e => exact hx σ pins _ _ e s' I2 hq'
  | ok fl =>
    cases fl with
    | ret u =>
      obtain ⟨v, H', I3, rv, ev, q3⟩ := I2.after hq'
      subst ev
      exact ⟨rv, ⟨V.ref (s.heap.objs.size + 1), H', I3, rfl, q3⟩⟩
    | next => exact False.elim hq'
    | brk => exact False.elim hq'
    | cont => exact False.elim hq'
theorem pe_makeS (M : Mk X.K C f) (F : FnOk X.prog X.w X.K X.mg X.base CX k f fd ps sp) (hr : Room (k + 1) X.A) (hg : Gl X x) (hm : X.mg x = some (.ref C)) (hb : Binds X.K fd ps ds) (hd : Vals dvs ds) (hx : ∀ σ, PassesAt CX X σ (E σ))
    (ha : PA X (e :: es) t) (hdb : (x == ("__debug__" : Str)) = false := by decide) (he : starEach (e :: es) X.env = (false, eval e X.env) :: starEach es X.env := by rfl) (hpl : (backTo pos (starEach es X.env)).any (·.1) = false := by rfl) :
    PE X (.Call (.Name x p) (e :: es) [] pos) (tMakeX C sp dvs E t) := by
  refine ⟨fun pins s σ H Q I h => ?_⟩
  refine wpAny_Call_Name_kw (ld_glob I hg hm ?_ hdb)
  refine PySem.W.callWith_K (h₀ := X.base) I.ok.mod.kin M.kp (thn (ha.run pos pins s σ H _ I h) fun us s1 ⟨vs, H1, I1, r, q⟩ => ⟨I1.kIn, ?_⟩) he hpl
  exact run_makeS M F hr hb hd hx I1 r q
/-- the class stands in the i-th slot -/
theorem pe_makeL (M : Mk X.K C f) (F : FnOk X.prog X.w X.K X.mg X.base CX k f fd ps sp) (hr : Room (k + 1) X.A) (hN : X.N[i]? = some x) (hv : Vis X.env.scope x) (hb : Binds X.K fd ps ds) (hd : Vals dvs ds) (hx : ∀ σ, PassesAt CX X σ (E σ))
    (ha : PA X (e :: es) t) (hdb : (x == ("__debug__" : Str)) = false := by decide) (hcd : (x == ("__classdict__" : Str)) = false := by decide) (he : starEach (e :: es) X.env = (false, eval e X.env) :: starEach es X.env := by rfl) (hpl : (backTo pos (starEach es X.env)).any (·.1) = false := by rfl) :
    PE X (.Call (.Name x p) (e :: es) [] pos) (fun σ H Q => σ[i]? = some (some (.ref C)) ∧ tMakeX C sp dvs E t σ H Q) := by
  refine ⟨fun pins s σ H Q I h => ?_⟩
  obtain ⟨hs, ht⟩ := h
  refine wpAny_Call_Name_kw (thn ((pe_var (pos := p) hN hv hdb hcd).run pins s σ H (fun v H1 => v = .ref C ∧ H1 = H) I ⟨.ref C, hs, rfl, rfl⟩) fun u s1 ⟨v, H1, I1, r1, q1⟩ => ?_)
  obtain ⟨rfl, rfl⟩ := q1
  cases r1
  refine PySem.W.callWith_K (h₀ := X.base) I.ok.mod.kin M.kp (thn (ha.run pos pins s1 σ _ _ I1 ht) fun us s2 ⟨vs, H2, I2, r, q⟩ => ⟨I2.kIn, ?_⟩) he hpl
  exact run_makeS M F hr hb hd hx I2 r q
end
def dMakeX (xc : DX) (C : String) (n : Nat) (fs : FSX) (dds : List D) (da : DA) (γ : Env) (q : RS → Env → Prop) : Prop := da γ fun rs γ1 => allV rs ∧ rs.length + dds.length + 1 = n ∧
  fs (.own (some 0) (.ins C []) :: ((rs.map RS.data).map Sx.val ++ dds.map Sx.val)) (fun r as' => r = .val .non ∧ match as' with
    | .own _ (.ins C' fs') :: _ => C' = C ∧ q (.new (.ins C fs')) γ1
    | _ => False) fun nm xs as' => match as' with
    | .own _ (.ins C' fs') :: _ => C' = C ∧ xc nm xs γ1
    | _ => False
theorem se_makeX {K : PySem.W.Frag} {B : Bs} {ct : Nat → Addr} {C : String} {n : Nat} {fs : FSX} {dvs : List V} {dds : List D} {W : WX} {xc : DX} {ta : TA} {da : DA} (h : SA K B ta da) (od : Paired (fun v d => ∀ z F, Rp ⟨K, z⟩ F v d) dvs dds) (xo : XOk K ct B W xc) : SE K B (tMakeX (ctOf K C) (spOfX K ct n fs) dvs (WE W) ta) (dMakeX xc C n fs dds da) := fun F H σ γ Q q R hq k => by
  refine h F H σ γ _ _ R hq fun vs F1 H1 γ1 rs R1 e1 o1 ⟨h0, h2, h3⟩ x dx hx hdx ne => ?_
  have all : RpAll (B.kz K) F1 (vs ++ dvs) (rs.map RS.data ++ dds) := RpAll.of (P_app (allV_rp o1 h0).p (P_mono (fun v d z => z _ _) od))
  let Z : ZN (upd (upd H1 dx (.own x)) x (.ins (ctOf K C) dx [])) := ⟨B.z, fun a ha => by
    obtain ⟨o, e⟩ := R1.znp a ha
    have n1 : a ≠ x := fun z => by subst z; rw [hx] at e; cases e
    have n2 : a ≠ dx := fun z => by subst z; rw [hdx] at e; cases e
    exact ⟨o, by rw [upd_ne n1, upd_ne n2]; exact e⟩⟩
  have RE := make_entry (C := C) R1.fh all hx hdx ne Z rfl
  rw [List.map_append] at RE
  refine ⟨by simp only [List.length_cons, List.length_append]; rw [P_len o1, P_len od]; omega, F1, _, Z, _, _, _, RE, h3, fun r as' v F3 H3 ⟨hr, hp⟩ R3 ok hk => ?_, fun nm xs dd as' F2 H2 hp R2 xd => ?_⟩
  · subst hr
    split at hp
    · rename_i p C' fs' rest
      obtain ⟨rfl, hp⟩ := hp
      obtain ⟨R4, e4, o4⟩ := make_exit R1 hx hdx ne rfl R3
      have ok' : Rp _ F3 v .non := ok
      cases ok'
      exact ⟨rfl, k _ F3 H3 γ1 _ R4 (e1.trans e4) o4 hp⟩
    · exact hp.elim
  · split at hp
    · rename_i p C' fs' rest
      obtain ⟨rfl, hp⟩ := hp
      obtain ⟨R4, e4, o4⟩ := make_exit R1 hx hdx ne rfl R2
      exact xo F2 H2 σ γ1 nm dd xs R4 xd hp
    · exact hp.elim
section
variable {X : Cx} {B : Bs} {ct : Nat → Addr} {a : Expr} {es : List Expr} {ta : TA} {da : DA} {k n i : Nat} {C : String} {f : Addr} {fd : FuncData} {ps : List Str} {fs : FSX} {x : Str} {p pos : Pos} {dvs : List V} {dds : List D} {ds : List Value} {W : WX} {xc : DX}
theorem x_makeX (K : PySem.W.Frag) (hK : X.K = K) (xo : XOk X.K ct B W xc) (tk : L2N.Takes X W) (M : Mk X.K (ctOf X.K C) f) (G : FnOk X.prog X.w X.K X.mg X.base (L2N.CX X.prog X.w) k f fd ps (spOfX X.K ct n fs)) (hr : Room (k + 1) X.A) (hm : X.mg x = some (.ref (ctOf X.K C))) (hb : Binds X.K fd ps ds) (hd : Vals dvs ds) (od : Paired (fun v d => ∀ z F, Rp ⟨X.K, z⟩ F v d) dvs dds) (h : XA X B (a :: es) ta da)
    (hg : Gl X x := by rfl) (hdb : (x == ("__debug__" : Str)) = false := by decide) (he : starEach (a :: es) X.env = (false, eval a X.env) :: starEach es X.env := by rfl) (hpl : (backTo pos (starEach es X.env)).any (·.1) = false := by rfl) :
    XE X B (.Call (.Name x p) (a :: es) [] pos) (tMakeX (ctOf K C) (spOfX K ct n fs) dvs (WE W) ta) (dMakeX xc C n fs dds da) := by
  subst hK
  exact ⟨pe_makeS M G hr hg hm hb hd (fun σ => L2N.passAt tk σ) h.pa hdb he hpl, se_makeX h.sa od xo⟩
end
def dMakeLX (i : Nat) (xc : DX) (C : String) (n : Nat) (fs : FSX) (dds : List D) (da : DA) (γ : Env) (q : RS → Env → Prop) : Prop := look γ i = .val (.kls C) ∧ dMakeX xc C n fs dds da γ q
theorem se_makeLX {K : PySem.W.Frag} {B : Bs} {ct : Nat → Addr} {C : String} {n i : Nat} {fs : FSX} {dvs : List V} {dds : List D} {W : WX} {xc : DX} {ta : TA} {da : DA} (h : SA K B ta da) (od : Paired (fun v d => ∀ z F, Rp ⟨K, z⟩ F v d) dvs dds) (xo : XOk K ct B W xc) :
    SE K B (fun σ H Q => σ[i]? = some (some (.ref (ctOf K C))) ∧ tMakeX (ctOf K C) (spOfX K ct n fs) dvs (WE W) ta σ H Q) (dMakeLX i xc C n fs dds da) := fun F H σ γ Q q R ⟨hl, hq⟩ k => by
  obtain ⟨v, hs, r⟩ := R.val hl
  cases r
  exact ⟨hs, se_makeX h od xo F H σ γ Q q R hq k⟩
section
variable {X : Cx} {B : Bs} {ct : Nat → Addr} {a : Expr} {es : List Expr} {ta : TA} {da : DA} {k n i : Nat} {C : String} {f : Addr} {fd : FuncData} {ps : List Str} {fs : FSX} {x : Str} {p pos : Pos} {dvs : List V} {dds : List D} {ds : List Value} {W : WX} {xc : DX}
theorem x_makeLX (i : Nat) (K : PySem.W.Frag) (hK : X.K = K) (xo : XOk X.K ct B W xc) (tk : L2N.Takes X W) (M : Mk X.K (ctOf X.K C) f) (G : FnOk X.prog X.w X.K X.mg X.base (L2N.CX X.prog X.w) k f fd ps (spOfX X.K ct n fs)) (hr : Room (k + 1) X.A) (hb : Binds X.K fd ps ds) (hd : Vals dvs ds) (od : Paired (fun v d => ∀ z F, Rp ⟨X.K, z⟩ F v d) dvs dds) (h : XA X B (a :: es) ta da)
    (hN : X.N[i]? = some x := by rfl) (hv : Vis X.env.scope x := by first | exact Or.inl rfl | exact Or.inr (Or.inl rfl) | exact Or.inr (Or.inr rfl)) (hdb : (x == ("__debug__" : Str)) = false := by decide) (hcd : (x == ("__classdict__" : Str)) = false := by decide) (he : starEach (a :: es) X.env = (false, eval a X.env) :: starEach es X.env := by rfl) (hpl : (backTo pos (starEach es X.env)).any (·.1) = false := by rfl) :
    XE X B (.Call (.Name x p) (a :: es) [] pos) (fun σ H Q => σ[i]? = some (some (.ref (ctOf K C))) ∧ tMakeX (ctOf K C) (spOfX K ct n fs) dvs (WE W) ta σ H Q) (dMakeLX i xc C n fs dds da) := by
  subst hK
  exact ⟨pe_makeL M G hr hN hv hb hd (fun σ => L2N.passAt tk σ) h.pa hdb hcd he hpl, se_makeLX h.sa od xo⟩
end
/-- the defaults ds fill up -/
theorem bindsD {K : PySem.W.Frag} {ps : List Str} {fd : FuncData} {T : Addr} {ocT : Value} {odT : Option Addr} {its : Array Value} {n : Nat} {slT : Array (Option Value)} {ds : List Value} (lT : K.lookup T = some ⟨ocT, odT, .seq its n, slT⟩)
    (h : ∀ us : List Value, (us ++ ds).length = ps.length → ∃ k, bindArgs fd ⟨us, []⟩ = seqItems? (.ref T) >>= k ∧ k (some its) = pure (ps.zip (us ++ ds))) : Binds K fd ps ds := fun s us X hl => by
  obtain ⟨k, e1, e2⟩ := h us hl
  refine L2.BindsTo.of_looks fun M => ?_
  rw [e1]
  exact looks_items X lT rfl (.of_pure e2)
/-- a kept empty tuple -/
theorem nilT {K : PySem.W.Frag} {a : Addr} (h : SqT K (fun _ => none) a []) : ∀ z F, Rp ⟨K, z⟩ F (.ref a) (.tup []) := fun z F => .tup (ex_t (H := fun _ => none) (fun _ _ h => by cases h) h) .nil
section
variable {X : Cx} {B : Bs} {ct : Nat → Addr} {a : Expr} {es : List Expr} {ta : TA} {da : DA} {k n : Nat} {C : String} {f : Addr} {fd : FuncData} {ps : List Str} {fs : FSX} {x : Str} {p pos : Pos} {dvs : List V} {dds : List D} {ds : List Value}
theorem x_makeND (K : PySem.W.Frag) (hK : X.K = K) (M : Mk X.K (ctOf X.K C) f) (G : FnOk X.prog X.w X.K X.mg X.base (L2N.CX X.prog X.w) k f fd ps (spOfX X.K ct n fs)) (hr : Room (k + 1) X.A) (hm : X.mg x = some (.ref (ctOf X.K C))) (hb : Binds X.K fd ps ds) (hd : Vals dvs ds) (od : Paired (fun v d => ∀ z F, Rp ⟨X.K, z⟩ F v d) dvs dds) (h : XA X B (a :: es) ta da)
    (hg : Gl X x := by rfl) (hdb : (x == ("__debug__" : Str)) = false := by decide) (he : starEach (a :: es) X.env = (false, eval a X.env) :: starEach es X.env := by rfl) (hpl : (backTo pos (starEach es X.env)).any (·.1) = false := by rfl) :
    XE X B (.Call (.Name x p) (a :: es) [] pos) (tMake (ctOf K C) (spOfX K ct n fs) dvs E0 ta) (dMakeN C n fs dds da) := by
  subst hK
  exact ⟨pe_make M G hr hg hm hb hd passN h.pa hdb he hpl, se_makeN h.sa od⟩
end
end DL

set_option Elab.async false
set_option linter.all false
set_option maxRecDepth 100000
set_option maxHeartbeats 2000000
/-! ### a list or a tuple walked -/
namespace DL
open PySem PySem.Spec PyProof.Rows L2
open Evl (Ex ex_l ex_t)
def iSeq (K : PySem.W.Frag) (tl : TE) : TI := fun σ H R => tl σ H fun x H1 => ∃ a, x = .ref a ∧ (((∃ xs, SqL K H1 a xs) ∧ R (Itl K a) H1) ∨ ((∃ xs, SqT K H1 a xs) ∧ R (Itt K a) H1))
theorem pi_seq {X : Cx} {tg l : Expr} {tl : TE} (hl : PE X l tl) : PI X tg l (iSeq X.K tl) := by
  refine ⟨fun pins s σ H R I h => ?_⟩
  refine thn (hl.run pins s σ H _ I h) fun v s1 ⟨x, H1, I1, r1, q1⟩ => ?_
  obtain ⟨a, e, q1⟩ := q1
  subst e
  cases r1
  rcases q1 with ⟨⟨xs, hq⟩, q⟩ | ⟨⟨xs, hq⟩, q⟩
  · obtain ⟨its, rv, p, hz⟩ := I1.list hq
    refine wpAny_pyIter_list p.isList ?_
    refine ⟨s1.heap.objs.size, [s1.heap.objs.size], _, _, H1, rfl, I1.kept (t' := s1.toks) fun b o e => Heap.get?_push_of_some _ e, turn_list a _, ⟨_, Heap.get?_push_size _ rfl, rfl, rfl⟩, fun b hb => ?_, q⟩
    have e : b = s1.heap.objs.size := by simpa using hb
    subst e
    exact I1.fpOk (Nat.le_refl _) (I1.hok.fresh (Nat.le_refl _))
  · obtain ⟨its, rv, p, hz⟩ := I1.tuple hq
    refine wpAny_pyIter_tuple (show s1.heap.IsTuple a its.toArray from p) ?_
    refine ⟨s1.heap.objs.size, [s1.heap.objs.size], _, _, H1, rfl, I1.kept (t' := s1.toks) fun b o e => Heap.get?_push_of_some _ e, turn_tuple a _, ⟨_, Heap.get?_push_size _ rfl, rfl, rfl⟩, fun b hb => ?_, q⟩
    have e : b = s1.heap.objs.size := by simpa using hb
    subst e
    exact I1.fpOk (Nat.le_refl _) (I1.hok.fresh (Nat.le_refl _))
def dIQ (de : DE) (γ : Env) (r : Nat → (Nat → D → Prop) → Env → Prop) : Prop := de γ fun s γ1 => s.kept ∧ match s.data with
  | .lst ds => r ds.length (fun i d => ds[i]? = some d) γ1
  | .tup ds => r ds.length (fun i d => ds[i]? = some d) γ1
  | _ => False
theorem si_seq {K : PySem.W.Frag} {B : Bs} {te : TE} {de : DE} (he : SE K B te de) : SI K B (iSeq K te) (dIQ de) := fun F H σ γ W r R hq k => by
  refine he F H σ γ _ _ R hq fun x F1 H1 γ1 s R1 e1 o1 ⟨hk, h1⟩ => ?_
  obtain ⟨F2, R2, e2, o2⟩ := o1.fz R1
  have rp := o2.kp hk
  split at h1
  · rename_i ds es
    rw [es] at rp
    cases rp with
    | lst ha ra => exact ⟨_, rfl, .inl ⟨⟨_, Evl.sq_of (R2.fh _ _ ha)⟩, k _ F2 H1 γ1 _ _ R2 (e1.trans e2) (jo_list (Evl.sq_of ha) ra) h1⟩⟩
  · rename_i ds es
    rw [es] at rp
    cases rp with
    | tup ha ra => exact ⟨_, rfl, .inr ⟨⟨_, ex_t R2.fh ha⟩, k _ F2 H1 γ1 _ _ R2 (e1.trans e2) (jo_tup ha ra) h1⟩⟩
  · exact h1.elim
theorem i_seq {X : Cx} {B : Bs} {tg e : Expr} {te : TE} {de : DE} (h : XE X B e te de) : XI X B tg e (iSeq X.K te) (dIQ de) := ⟨pi_seq h.pe, si_seq h.se⟩
/-- statements that are never reached -/
def dVoid : DS := fun _ _ => False
theorem ss_void {X : Cx} {B : Bs} {ss : List Stmt} : XSs X B ss (fun _ _ _ => False) dVoid := ⟨⟨fun _ _ _ _ _ _ h => h.elim⟩, fun _ _ _ _ _ _ _ h _ => h.elim⟩
theorem _root_.L2H.RoomH.units {k : Nat} {A : Around} (r : L2H.RoomH k A) : A.units + 64 < PySem.cLine := by have := r.un; omega
end DL

set_option Elab.async false
set_option linter.all false
set_option maxRecDepth 100000
set_option maxHeartbeats 2000000
/-! ### o(..), o an own class's instance -/
namespace DL
open PySem PySem.Spec PyProof.Rows L2
open Evl (Ex ex_l ex_t)
theorem Fun_fi {K : PySem.W.Frag} {x qual : Str} {st : Stmt} {f : Addr} {fd : FuncData} (F : Fun K x qual st f fd) : PySem.W.fnIn K f = true := by
  obtain ⟨oc, od, kV, doc, pm, an, cdv, ct, osl, rfl, lk, hcd⟩ := F.ex
  unfold PySem.W.fnIn
  rw [lk]
inductive ODispC (P : Program) (w : World) (K : PySem.W.Frag) (mg : Str → Option Value) (base : Heap) (CX : CXT) (km : Nat) (C : Addr) (sp : Sp) : Prop
  | mk {k : Nat} {f : Addr} {fd : FuncData} {ps : List Str} : Meth K C "__call__" f → PySem.W.fnIn K f = true → FnOk P w K mg base CX k f fd ps sp → k ≤ km → Binds K fd ps [] → ODispC P w K mg base CX km C sp
def tCallOP (P : Program) (w : World) (K : PySem.W.Frag) (mg : Str → Option Value) (base : Heap) (CX : CXT) (km : Nat) (E : L2.St → XK) (tf : TE) (t : TA) : TE := fun σ H Q => tf σ H fun y H1 => ∃ a, y = V.ref a ∧ t σ H1 fun vs H2 => ∃ C dx fs sp, H2 a = some (.ins C dx fs) ∧ ODispC P w K mg base CX km C sp ∧ sp (V.ref a :: vs) H2 Q (E σ)
section
variable {X : Cx} {CX : CXT} {km : Nat} {fe e : Expr} {es : List Expr} {pos : Pos} {tf : TE} {t : TA} {E : L2.St → XK}
theorem pe_callOP (hf : PE X fe tf) (hr : Room km X.A) (hx : ∀ σ, PassesAt CX X σ (E σ)) (ha : PA X (e :: es) t)
    (ht : eval (.Call fe (e :: es) [] pos) X.env = (do callWith pos (← eval fe X.env) [] (backTo pos (starEach (e :: es) X.env)) (backToKw pos (keywordEach [] X.env))) := by rfl)
    (he : starEach (e :: es) X.env = (false, eval e X.env) :: starEach es X.env := by rfl) (hpl : (backTo pos (starEach es X.env)).any (·.1) = false := by rfl) : PE X (.Call fe (e :: es) [] pos) (tCallOP X.prog X.w X.K X.mg X.base CX km E tf t) := by
  refine ⟨fun pins s σ H Q I h => ?_⟩
  refine Call_ (thn (hf.run pins s σ H _ I h) fun u s1 ⟨y, H1, I1, ry, a, ey, q⟩ => ?_) ht
  subst ey
  obtain rfl : u = Value.ref a := ry
  refine StX.callO_with (thn (ha.run pos pins s1 σ H1 _ I1 q) fun us s2 ⟨vs, H2, I2, r, C, dx, fs, sp, hi, dp, q2⟩ => ?_) he hpl
  obtain ⟨m, fi, F, hk, hb⟩ := dp
  obtain ⟨mA, O, _⟩ := ins_get I2.hok hi
  obtain ⟨od, J, _⟩ := O.look
  exact ⟨⟨C, _, _, J, rfl⟩, wpAny_call (PySem.W.kco_code I2.kIn J rfl m.at_ m.fn fi (run_fnC (us := .ref a :: us) (vs := .ref a :: vs) F (hr.mono hk) hb hx I2 (.cons rfl r) q2))⟩
end
def dCallOX (xc : DX) (n : Nat) (tb : MTX) (de : DE) (da : DA) (γ : Env) (q : RS → Env → Prop) : Prop := de γ fun s γ1 => match s with
  | .val (.obj C fl) => ∃ fs, tb C = some fs ∧ da γ1 fun rs γ2 => (ownIx rs).Nodup ∧ rs.length + 1 = n ∧ fs (argsOf 0 (.val (.obj C fl) :: rs)) (fun r as' => q r (upds γ2 (.val (.obj C fl) :: rs) as')) fun nm xs as' => xc nm xs (upds γ2 (.val (.obj C fl) :: rs) as')
  | _ => False
theorem se_callOX {P : Program} {w : World} {K : PySem.W.Frag} {mg : Str → Option Value} {base : Heap} {CX : CXT} {km : Nat} {B : Bs} {n : Nat} {te : TE} {de : DE} {ta : TA} {da : DA} {ct : Nat → Addr} {W : L2.St → XK} {xc : DX} {tb : MTX} (hd : ∀ C fs, tb C = some fs → ODispC P w K mg base CX km (ctOf K C) (spOfX K ct n fs))
    (xo : ∀ (F' H' : Hp) (σ : L2.St) (γ' : Env) nm dd fs, Rep K B F' H' σ γ' → XdOk K B F' dd fs → xc nm fs γ' → W σ (.ref (ct nm)) dd H') (he : SE K B te de) (ha : SA K B ta da) : SE K B (tCallOP P w K mg base CX km W te ta) (dCallOX xc n tb de da) := fun F H σ γ Q q R hq k => by
  refine he F H σ γ _ _ R hq fun x F1 H1 γ1 s R1 e1 o1 h1 => ?_
  split at h1
  · rename_i C fl
    obtain ⟨fs, ht, h1⟩ := h1
    have o1 : Rp (B.kz K) F1 x (.obj C fl) := o1
    obtain ⟨a, ea, _⟩ : ∃ a, x = .ref a ∧ True := by cases o1; exact ⟨_, rfl, trivial⟩
    subst ea
    refine ⟨a, rfl, ?_⟩
    refine ha F1 H1 σ γ1 _ _ R1 h1 fun vs F3 H3 γ3 rs R3 e3 o3 ⟨h4, h5, h6⟩ => ?_
    have o4 : RsOk K B F3 H3 σ γ3 (.ref a) (.val (.obj C fl)) := o1.mono e3
    obtain ⟨a', dx, fv, ea, q2, q3⟩ := (o4.rs R3).obj R3.fh
    cases ea
    have oo : Paired (RsOk K B F3 H3 σ γ3) (.ref a :: vs) (RS.val (.obj C fl) :: rs) := .cons o4 o3
    have cc := call_core (W := W σ) (ct := ct) (n := n) (fs := fs) (dvs := []) (dds := []) (q := q) .nil R3 oo (fun F' H' γ' nm dd fs R' xd hx => xo F' H' σ γ' nm dd fs R' xd hx) (by simpa [ownIx] using h4) (by simp; omega) (by simpa using h6) fun v F' H' γ' s' R' e' o' hq => k v F' H' γ' s' R' ((e1.trans e3).trans e') o' hq
    rw [List.append_nil] at cc
    exact ⟨_, dx, fv, _, q2, hd C fs ht, cc⟩
  · exact h1.elim
section
variable {X : Cx} {km : Nat} {B : Bs} {o a : Expr} {es : List Expr} {pos : Pos} {te : TE} {de : DE} {ta : TA} {da : DA} {n : Nat}
theorem x_callOX (P : Program) (w : World) (K : PySem.W.Frag) (mg : Str → Option Value) (base : Heap) (hX : (X.prog, X.w, X.K, X.mg, X.base) = (P, w, K, mg, base)) (hr : Room km X.A) {ct : Nat → Addr} {W : WX} {xc : DX} {tb : MTX} (xo : XOk K ct B W xc) (tk : L2N.Takes X W) (hd : ∀ C fs, tb C = some fs → ODispC P w K mg base (L2N.CX P w) km (ctOf K C) (spOfX K ct n fs)) (ho : XE X B o te de) (h : XA X B (a :: es) ta da)
    (ht : eval (.Call o (a :: es) [] pos) X.env = (do callWith pos (← eval o X.env) [] (backTo pos (starEach (a :: es) X.env)) (backToKw pos (keywordEach [] X.env))) := by rfl)
    (hst : starEach (a :: es) X.env = (false, eval a X.env) :: starEach es X.env := by rfl) (hpl : (backTo pos (starEach es X.env)).any (·.1) = false := by rfl) :
    XE X B (.Call o (a :: es) [] pos) (tCallOP P w K mg base (L2N.CX P w) km (WE W) te ta) (dCallOX xc n tb de da) := by
  cases hX
  exact ⟨pe_callOP ho.pe hr (fun σ => L2N.passAt tk σ) h.pa ht hst hpl, se_callOX hd (fun F' H' σ γ' nm dd fs R' xd hx => xo F' H' σ γ' nm dd fs R' xd hx) ho.se h.sa⟩
end
end DL

set_option Elab.async false
set_option linter.all false
set_option maxRecDepth 100000
set_option maxHeartbeats 2000000
namespace DL
open PySem PySem.Spec PyProof.Rows L2
open Evl (Ex ex_l ex_t)
/-! ### slices of texts -/
def fSlS : D → Option Int → Option Int → (RS → Prop) → Prop
  | .str z, lo, hi, q => z.length ≤ 1000000 ∧ q (.val (.str (Txt.slice z lo hi)))
  | _, _, _, _ => False
theorem sd_str {K : PySem.W.Frag} : SlD K C8.rSlX fSlS := fun B F H σ γ x d lo hi Q q R rx hf k => by
  unfold fSlS at hf
  split at hf
  · exact ⟨_, rx.str, sz_le hf.1, vk R k (.str _) hf.2⟩
  · exact hf.elim
/-! ### xs.count(b), xs.index(b): truth values -/
def rCntB (K : PySem.W.Frag) : V → List V → Hp → VK → Prop := fun x xs H Q => ∃ (p : Addr) (bs : List Bool) (b : Bool), x = .ref p ∧ xs = [.bl b] ∧ SqL K H p (bs.map V.bl) ∧ Q (.int (bs.count b : Nat)) H
theorem bl_flat (bs : List Bool) : (bs.map V.bl).all flatV = true := by induction bs <;> simp_all [flatV]
theorem cntU {b : Bool} : ∀ {us : List Value} {bs : List Bool}, Vals (bs.map V.bl) us → us.countP (eqU (.bl b)) = bs.count b
  | _, [], .nil => rfl
  | u :: us, c :: bs, .cons r t => by
    have ih := cntU (b := b) t
    have e : eqU (.bl b) u = (c == b) := eqU_of r rfl
    rw [List.countP_cons, List.count_cons, ih, e]
theorem mt_lcountB {X : Cx} : MtR X "list.count" (rCntB X.K) := by
  intro pins s σ H x xs v us Q I rx rxs h
  obtain ⟨p, bs, b, ex, exs, hs, q⟩ := h
  subst ex exs
  obtain rfl : v = Value.ref p := rx
  obtain ⟨u, rfl, ru⟩ := rxs.one
  obtain ⟨its, rv, ⟨o, n, ho, hc, hdn, hd⟩, hlen⟩ := I.list hs
  obtain ⟨cls, dd, data, sl⟩ := o
  have hc : cls = .type "list" := hc
  have hd : data = .seq its.toArray n := hd
  subst hc hd
  have ec : its.toArray.toList.countP (eqU (.bl b)) = bs.count b := cntU rv
  refine call_meets PySem.F.slot_list_count ⟨_, ho, rfl⟩ PySem.F.entry_list_count (PySem.F.args_list_count_2 _ _) (SeqAt.list_countAt p its.toArray n dd sl u (eqU (.bl b))) ⟨ho, fun y hy => ?_, ?_⟩
  · exact mem_eqAt ru rfl rv (bl_flat bs) y (by simpa using hy)
  · rw [ec]
    exact ⟨.int (bs.count b : Nat), H, I.tok _, ⟨_, rfl⟩, q⟩
def mCountB (ds as : List D) (q : D → Prop) : Prop := match as with
  | [.bl y] => ∃ bs : List Bool, ds = bs.map D.bl ∧ q (.int (bs.count y : Nat))
  | _ => False
theorem rd_countB {K : PySem.W.Frag} : RdD K (rCntB K) mCountB := fun z F H a vs ds xs as Q q eFH ha ra rx hf k => by
  unfold mCountB at hf
  split at hf
  · obtain ⟨x, rfl, r1⟩ := one_rs rx.p
    cases r1
    obtain ⟨bs, rfl, h3⟩ := hf
    have ev := rp_bls ra
    subst ev
    exact ⟨a, _, _, rfl, rfl, Evl.sq_of ha, k _ _ (.int _) h3⟩
  · exact hf.elim
def mIndexB (ds as : List D) (q : D → Prop) : Prop := match as with
  | [.bl y] => ∃ (bs : List Bool) (j : Nat), ds = bs.map D.bl ∧ bs[j]? = some y ∧ (∀ m, m < j → bs[m]? ≠ some y) ∧ q (.int (j : Nat))
  | _ => False
theorem rd_indexB {K : PySem.W.Frag} : RdD K (rIndex K) mIndexB := fun z F H a vs ds xs as Q q eFH ha ra rx hf k => by
  unfold mIndexB at hf
  split at hf
  · rename_i y
    obtain ⟨x, rfl, r1⟩ := one_rs rx.p
    cases r1
    obtain ⟨bs, j, rfl, h1, h2, h3⟩ := hf
    have ev := rp_bls ra
    subst ev
    refine ⟨a, _, .bl y, j, .bl y, rfl, rfl, Evl.sq_of ha, rfl, bl_flat bs, by rw [List.getElem?_map, h1]; rfl, by simp [eqV], fun m z' hm hz => ?_, k _ _ (.int _) h3⟩
    rw [List.getElem?_map] at hz
    obtain ⟨c, hc, rfl⟩ := Option.map_eq_some_iff.mp hz
    have ne : c ≠ y := fun e => h2 m hm (by rw [hc, e])
    simpa [eqV] using ne
  · exact hf.elim
theorem x_countB {X : Cx} {B : Bs} {o e : Expr} {es : List Expr} {te : TE} {de : DE} {ta : TA} {da : DA} {apos cpos : Pos} (K : PySem.W.Frag) (hK : X.K = K) (ho : XE X B o te de) (h : XA X B (e :: es) ta da)
    (hbase : attributeBase o "count" X.env (eval o X.env) = eval o X.env := by rfl)
    (hfew : ((backTo cpos (starEach (e :: es) X.env)).all (fun x => !x.1) && (backToKw cpos (keywordEach [] X.env)).all (fun x => x.1.isSome) && decide ((e :: es).length + ([] : List Keyword).length + (if ([] : List Keyword).isEmpty then 0 else 1) < 30)) = true := by rfl)
    (hline : (apos.endLine == cpos.line) = true := by rfl) (hs : starEach (e :: es) X.env = (false, eval e X.env) :: starEach es X.env := by rfl) (hplain : (backTo cpos (starEach es X.env)).any (·.1) = false := by rfl) :
    XE X B (.Call (.Attribute o "count" apos) (e :: es) [] cpos) (tBM K "list" (rCntB K) te ta) (dRd mCountB de da) := by
  subst hK
  exact x_rd (fun p q => pe_bm PySem.F.plainAttrs_list PySem.F.slot_list_count PySem.F.type_list_count mt_lcountB p q hbase hfew hline hs hplain) rd_countB ho h
theorem x_indexB {X : Cx} {B : Bs} {o e : Expr} {es : List Expr} {te : TE} {de : DE} {ta : TA} {da : DA} {apos cpos : Pos} (K : PySem.W.Frag) (hK : X.K = K) (ho : XE X B o te de) (h : XA X B (e :: es) ta da)
    (hbase : attributeBase o "index" X.env (eval o X.env) = eval o X.env := by rfl)
    (hfew : ((backTo cpos (starEach (e :: es) X.env)).all (fun x => !x.1) && (backToKw cpos (keywordEach [] X.env)).all (fun x => x.1.isSome) && decide ((e :: es).length + ([] : List Keyword).length + (if ([] : List Keyword).isEmpty then 0 else 1) < 30)) = true := by rfl)
    (hline : (apos.endLine == cpos.line) = true := by rfl) (hs : starEach (e :: es) X.env = (false, eval e X.env) :: starEach es X.env := by rfl) (hplain : (backTo cpos (starEach es X.env)).any (·.1) = false := by rfl) :
    XE X B (.Call (.Attribute o "index" apos) (e :: es) [] cpos) (tBM K "list" (rIndex K) te ta) (dRd mIndexB de da) := by
  subst hK
  exact x_rd (fun p q => pe_bm PySem.F.plainAttrs_list PySem.F.slot_list_index PySem.F.type_list_index mt_index p q hbase hfew hline hs hplain) rd_indexB ho h
/-! ### C.F, a number of the class, by the class's name -/
def dCCon (C : String) (i : Int) (γ : Env) (q : RS → Env → Prop) : Prop := q (.val (.int i)) γ
theorem x_ccon {X : Cx} {B : Bs} {x : Str} {p pos : Pos} {C : String} {f : Str} {i : Int} {u : Value} (r : ClX.CRead X.K (ctOf X.K C) (.type "type")) (k : ClX.CVal X.K (ctOf X.K C) (.type "type") f (.int i) u) (hm : X.mg x = some (.ref (ctOf X.K C)))
    (hg : Gl X x := by rfl) (hdb : (x == ("__debug__" : Str)) = false := by decide) (hb : attributeBase (.Name x p) f X.env (eval (.Name x p) X.env) = eval (.Name x p) X.env := by rfl) :
    XE X B (.Attribute (.Name x p) f pos) (ClX.tCVal X.K (tC (.ref (ctOf X.K C))) f) (dCCon C i) := by
  have o : XE X B (.Name x p) (tC (.ref (ctOf X.K C))) (dC (.kls C)) := x_glob hg hm rfl (fun z F => Rp.kls (K := ⟨X.K, z⟩) C) hdb
  exact ⟨ClX.pe_cval o.pe hb, fun F H σ γ Q q R hq kk => ⟨_, _, _, _, rfl, r, k, kk _ F H γ (.val (.int i)) R (Evl.Ex.refl F) (Rp.int i) hq⟩⟩
/-! ### isinstance(e, ValueError) -/
theorem kit_tyV {K : PySem.W.Frag} {D : Addr} (h : PySem.W.subIn K (.ref D) (.type "ValueError") = some true) : PySem.W.kitOne K (.ref D) (.type "ValueError") = some true := by
  unfold PySem.W.kitOne
  rw [if_neg (by simp)]
  unfold PySem.W.kitCls
  have m : PySem.W.kitMeta "ValueError" = true := by decide +kernel
  simp only [m, if_true]
  exact h
def rIsXT (K : PySem.W.Frag) (a : Addr) (cls : Value) (d : Option Addr) : List V → Hp → VK → Prop := fun xs H Q => ∃ (D : Addr), xs = [.ref a, .ty "ValueError"] ∧ cls = .ref D ∧ ExcC K D ∧ (d = none ∨ ∃ dd fv, d = some dd ∧ H dd = some (.xd fv)) ∧ PySem.W.kitOne K (.ref D) (.type "ValueError") = some true ∧ Q (.bl true) H
theorem call_isXT {X : Cx} {a : Addr} {oe : Obj} {cls : Value} {d : Option Addr} {pn : List (Addr × Obj)} (hz : L2N.Zn cls d oe) (hf : ∃ vs, oe.data = .fields vs) : CallR (X.suite a ((a, oe) :: pn)) (.builtin "isinstance") (rIsXT X.K a cls d) := fun {pins s σ H xs us Q} I r h => by
  obtain ⟨D, rfl, hD, C, hd, e, q⟩ := h
  cases r with
  | cons rx rr => cases rr with
    | cons rt rr =>
      cases rr
      cases rx
      cases rt
      obtain ⟨hget, _⟩ := I.pin (a, oe) (List.mem_append_left _ List.mem_cons_self)
      obtain ⟨vs, hv⟩ := hf
      obtain ⟨cdD, hcD, _⟩ := PySem.W.any_some C.hd
      have hcl : (PySem.W.clsIn X.K D).isSome = true := by rw [hcD]; rfl
      have nc : PySem.W.notCls oe = true := by unfold PySem.W.notCls; rw [hv] <;> rfl
      have fin : ∀ {od : Option Obj}, PySem.W.InstAt s.heap a oe D od → wpAny (model (X.suite a ((a, oe) :: pn)).prog (X.suite a ((a, oe) :: pn)).w) (X.suite a ((a, oe) :: pn)).A (call (.builtin "isinstance") [.ref a, .type "ValueError"]) (EP (X.suite a ((a, oe) :: pn)) pins σ Q) (X.suite a ((a, oe) :: pn)).xe s := fun J =>
        PySem.W.kia_one (PySem.W.kitx_exc hcl C.hg C.hk C.hs C.ha C.hn C.ht C.hm) I.kIn J e (fun z => nomatch z) fun tk => ⟨.bl true, H, I.kept (t' := tk) fun _ _ z => z, rfl, q⟩
      rcases hd with hd | ⟨dd, fv, hd, hx⟩
      · exact fin (od := none) ⟨hget, hz.zc.1.trans hD, nc, by rw [hz.zc.2, hd]; trivial⟩
      · have ok : ObjOk X.prog X.w H s.heap dd (.xd fv) := I.hok dd _ hx
        obtain ⟨mA, hns, _⟩ := ok
        obtain ⟨od, ho, _⟩ := lookIn_ns hns
        exact fin (od := some od) ⟨hget, hz.zc.1.trans hD, nc, by rw [hz.zc.2, hd]; exact ho⟩
def dIsEV (kit : Nat → Nat → Option Bool) (i : Nat) (a : Addr) (nm : Nat) (γ : Env) (q : RS → Env → Prop) : Prop := look γ i = .val (.ref a) ∧ (kit nm 0).isSome = true ∧ q (.val (.bl true)) γ
theorem x_isEV {X : Cx} {B : Bs} {ct : Nat → Addr} {a : Addr} {oe : Obj} {cls : Value} {d : Option Addr} {pn : List (Addr × Obj)} {nm : Nat} {x : Str} {fs : Xf} {kit : Nat → Nat → Option Bool} {p p1 p2 pos : Pos} (i : Nat) (hz : L2N.Zn cls d oe) (hf : ∃ vs, oe.data = .fields vs) (hcls : cls = .ref (ct nm)) (xd : XdOk X.K B B.F d fs)
    (hkit : ∀ nm, (kit nm 0).isSome = true → ExcC X.K (ct nm) ∧ PySem.W.kitOne X.K (.ref (ct nm)) (.type "ValueError") = some true) (hm : X.mg "isinstance" = none) (ht : X.mg "ValueError" = none)
    (hN : X.N[i]? = some x := by rfl) (hv : Vis X.env.scope x := by first | exact Or.inl rfl | exact Or.inr (Or.inl rfl) | exact Or.inr (Or.inr rfl)) (hd : (x == ("__debug__" : Str)) = false := by decide) (hcd : (x == ("__classdict__" : Str)) = false := by decide)
    (hg : Gl X "isinstance" := by rfl) (hgt : Gl X "ValueError" := by rfl) (hbt : bootBuiltins "ValueError" = some (.type "ValueError") := by decide +kernel)
    (s1 : starEach (.Name x p1 :: [.Name "ValueError" p2]) X.env = (false, eval (.Name x p1) X.env) :: starEach [.Name "ValueError" p2] X.env := by rfl) (s2 : starEach (.Name "ValueError" p2 :: []) X.env = (false, eval (.Name "ValueError" p2) X.env) :: starEach [] X.env := by rfl) (hpl : (backTo pos (starEach [.Name "ValueError" p2] X.env)).any (·.1) = false := by rfl) :
    XE (X.suite a ((a, oe) :: pn)) B (.Call (.Name "isinstance" p) [.Name x p1, .Name "ValueError" p2] [] pos) (tCB (rIsXT X.K a cls d) (tCons (tVar i) (tCons (tC (.ty "ValueError")) tNil))) (dIsEV kit i a nm) :=
  ⟨pe_callB (X := X.suite a ((a, oe) :: pn)) (call_isXT hz hf) hg hm (by decide +kernel) (pa_cons (pe_var (X := X.suite a ((a, oe) :: pn)) hN hv hd hcd) (pa_cons (pe_bltn (X := X.suite a ((a, oe) :: pn)) hgt ht hbt rfl (by decide) (by decide)) pa_nil s2) s1) (by decide) (by decide) s1 hpl, fun F H σ γ Q q R ⟨h1, h2, h3⟩ k => by
  obtain ⟨T, hk⟩ := hkit nm h2
  obtain ⟨v, hs, r⟩ := R.val h1
  cases r
  have hx : d = none ∨ ∃ dd fv, d = some dd ∧ H dd = some (.xd fv) := by
    cases d with
    | none => exact .inl rfl
    | some dd =>
      cases fs with
      | none => exact xd.elim
      | some l =>
        obtain ⟨fv, x1, _⟩ := xd
        exact .inr ⟨dd, fv, rfl, R.fh _ _ (R.b2 _ _ x1)⟩
  exact ⟨_, hs, ct nm, rfl, hcls, T, hx, hk, k _ F H γ (.val (.bl true)) R (Evl.Ex.refl F) (.bl true) h3⟩⟩
end DL

set_option Elab.async false
set_option linter.all false
set_option maxRecDepth 100000
set_option maxHeartbeats 2000000
/-! A comprehension without tests, and all(..), where an exception is handled. Own work. -/
namespace DL
open PySem PySem.Spec PyProof.Rows L2
open L2H (Hot1 HotC PIH TurnH)
/-- a comprehension's block where an exception is handled: what is pinned stays pinned -/
abbrev hotBlk (X : Cx) (s : Shared) (H : Hp) (sc : Scope) (ce : PySem.Env) (fp : List Addr) : Cx := { X.blk s H sc ce fp with pn := X.pn }
section
variable {X : Cx} {s0 : Shared} {H0 : Hp} {sc : Scope} {ce : PySem.Env} {fp : List Addr} {τ : L2.St}
theorem hot_pins {H : Hp} {s : Shared} (J : Inv (X.blk s0 H0 sc ce fp) [] τ H s)
    (h : ∀ p ∈ X.pn, s.heap.get? p.1 = some p.2 ∧ H p.1 = none ∧ p.1 ≠ ce.locals ∧ p.1 ∉ frs X.stack ∧ ∀ v, p.2.data ≠ .cell v) : Inv (hotBlk X s0 H0 sc ce fp) [] τ H s where
  ok := by have k := J.ok; cases k; constructor <;> assumption
  os := J.os
  bare := J.bare
  base := J.base
  loc := J.loc
  cell := J.cell
  free := J.free
  freeC := J.freeC
  pin := fun p hp => h p (by simpa using hp)
  hok := J.hok
  len := J.len
/-- between two turns: the block, the iterator's place, its objects untracked -/
structure Mid (X : Cx) (s0 : Shared) (H0 : Hp) (sc : Scope) (ce : PySem.Env) (fp : List Addr) (τ : L2.St) (tn : Nat → Heap → Prop) (i : Nat) (H : Hp) (s : Shared) : Prop where
  here : Inv (hotBlk X s0 H0 sc ce fp) [] τ H s
  turn : tn i s.heap
  off : ∀ b ∈ fp, H b = none
/-- the iterator's objects are none of the pinned ones -/
def Apart (X : Cx) (fp : List Addr) : Prop := ∀ b ∈ fp, ∀ p ∈ X.pn, p.1 ≠ b
theorem foot {H : Hp} {s : Shared} (J : Inv (hotBlk X s0 H0 sc ce fp) [] τ H s) (ap : Apart X fp) (off : ∀ b ∈ fp, H b = none) : ∀ b ∈ fp, FpOk (hotBlk X s0 H0 sc ce fp) [] H b := by
  intro b hb
  have k := J.ok.exf b hb
  refine ⟨off b hb, k.1, J.ok.exfs b hb, .inl hb, k.2, fun p hp => ap b hb p (by simpa using hp)⟩
/-- a turn's end is a new middle -/
theorem Mid.next {H' : Hp} {s s' : Shared} {τ' : L2.St} {vs : List Nat} {tg : Expr} {It' : It} {it : Addr} {tn : Nat → Heap → Prop} {i : Nat} (T : TurnH X.prog X.w X.K tg It' fp it tn) (st : tn i s.heap)
    (J : Inv (hotBlk X s0 H0 sc ce fp) ([] ++ pinsAt fp s.heap) τ' H' s') (hw : wipe τ' vs = τ) : Mid X s0 H0 sc ce fp τ tn i H' s' := by
  have held : ∀ b ∈ fp, ∀ o, s.heap.get? b = some o → s'.heap.get? b = some o ∧ H' b = none := fun b hb o e => by
    have q := J.pin (b, o) (List.mem_append.mpr (.inr (by simpa using mem_pinsAt hb e)))
    exact ⟨q.1, q.2.1⟩
  have free : Inv (hotBlk X s0 H0 sc ce fp) [] τ' H' s' := J.unpinned
  refine ⟨free.weak (by rw [← hw, wipe_length]) fun j v e => ?_, T.keep i _ _ st fun b hb o e => (held b hb o e).1, fun b hb => ?_⟩
  · rw [← hw] at e
    exact (wipe_some e).1
  · obtain ⟨o, e, _⟩ := T.obj i _ st b hb
    exact (held b hb o e).2
/-- the end of the walk: the block is left -/
theorem Mid.leave {pins : List (Addr × Obj)} {σ : L2.St} {H1 : Hp} {s1 : Shared} (I : Inv X pins σ H0 s0) (hf : ∀ b ∈ fp, FpOk X pins H0 b) (hL : ce.locals = s0.heap.objs.size)
    (J : Inv (hotBlk X s0 H0 sc ce fp) [] τ H1 s1) : Inv X pins σ H1 s1 ∧ (∃ m, s1.heap.Ns s0.heap.objs.size m) ∧ FpOk X pins H1 s0.heap.objs.size := by
  have fr : H1 s0.heap.objs.size = none := by
    have q : H1 ce.locals = none := J.free
    rwa [hL] at q
  obtain ⟨m, hm, _⟩ := J.loc
  have hm : s1.heap.Ns ce.locals m := hm
  rw [hL] at hm
  refine ⟨I.call' (ch := fp) J.os J.base J.hok J.bare fun b hb => ?_, ⟨m, hm⟩, I.fpOk (Nat.le_refl _) fr⟩
  obtain ⟨_, a, _, c, d, e⟩ := hf b hb
  exact ⟨c, a, d, e⟩
variable {elt tg iter : Expr} {pos : Pos} {g : TG} {te : TE}
/-- the walk of the block: from a middle to the end -/
theorem hot_walk {D it : Addr} {It' : It} {tn : Nat → Heap → Prop} {vs : List Nat} {W : Nat → Nat → Hp → Prop} {P : Hp → Prop} {R : Result → Shared → Prop} {i m : Nat} {H : Hp} {s : Shared}
    (hc : HotC X) (T : TurnH X.prog X.w X.K tg It' fp it tn) (ap : Apart X fp) (hg : PG (hotBlk X s0 H0 sc ce fp) tg g) (he : PE (hotBlk X s0 H0 sc ce fp) elt te)
    (turns : ∀ i m H, W i m H → (It'.stop i H ∧ P H) ∨ (It'.go i H ∧ ∃ Nx : Hp → Prop, (∀ H', Nx H' → ∃ m', m' < m ∧ W (i + 1) m' H') ∧ ∀ x H', It'.yld i H x H' → g x τ H' fun σ2 H2 => wipe σ2 vs = τ ∧ tYes σ2 H2 fun b H3 =>
      if b = true then te σ2 H3 fun y H4 => ∃ acc, H4 D = some (.lst acc) ∧ acc.length < sizeLine ∧ Nx (upd H4 D (.lst (acc ++ [y]))) else Nx H3))
    (done : ∀ H1 s1, Inv (hotBlk X s0 H0 sc ce fp) [] τ H1 s1 → P H1 → R (.ok .next) s1)
    (start : Mid X s0 H0 sc ce fp τ tn i H s) (w : W i m H) : codeAny (model X.prog X.w) X.A (.compLoop (.ListComp elt [⟨tg, iter, [], 0⟩] sc pos) 0 (.ref it) (.ref D) ce) R s := by
  have hcb : HotC (hotBlk X s0 H0 sc ce fp) := hc
  refine compLoop_any (fun m s => ∃ i H, Mid X s0 H0 sc ce fp τ tn i H s ∧ W i m H) (fun m s hm => ?_) m ⟨i, H, start, w⟩
  clear start w
  obtain ⟨i, H, M, w⟩ := hm
  have F := foot M.here ap M.off
  rcases turns i m H w with ⟨end_, p⟩ | ⟨more, Nx, dec, go⟩
  · exact thnF (T.done (hotBlk X s0 H0 sc ce fp) rfl rfl rfl hcb i [] s τ H (fun _ _ => False) M.here F M.turn end_) fun r s1 ⟨hr, J⟩ => by
      cases hr
      exact done H s1 J p
  · refine thnF (T.item (hotBlk X s0 H0 sc ce fp) rfl rfl rfl hcb i [] s τ H (fun _ _ => False) M.here F M.turn more) fun r s1 ⟨u, hr, nx⟩ => ?_
    cases hr
    refine thnF nx fun _ s2 ⟨x, H2, J2, rx, yx, st2, off2⟩ => ?_
    have J2p := J2.pinned (foot J2 ap off2) (T.obj _ _ st2)
    refine thnF (hg.run _ s2 τ H2 x u _ J2p rx (go x H2 yx)) fun _ s3 ⟨σ3, H3, J3, hw3, q3⟩ => ?_
    refine wpAny_tests_nil ?_
    have q3 : te σ3 H3 _ := q3
    show wpAny _ X.A (eval elt ce) _ _ _
    refine thnF (he.run _ s3 σ3 H3 _ J3 q3) fun v s4 ⟨y, H4, J4, ry, acc, hD, small, nx4⟩ => ?_
    refine app_ok (X := hotBlk X s0 H0 sc ce fp) J4 hD small ry fun s5 J5 => ?_
    obtain ⟨m5, lt5, w5⟩ := dec _ nx4
    exact ⟨m5, lt5, i + 1, _, Mid.next (vs := vs) T st2 J5 hw3, w5⟩
end
section
variable {X : Cx}
theorem pe_lcH {elt tg iter : Expr} {scope : Scope} {own : List (Str × Nat)} {pos : Pos} {wi : TI} {g : TG} {te : TE} (hc : HotC X) (nd : X.N.Nodup) (walk : PIH X tg iter wi) (blk : BlkOk X.N X.env.scope scope own)
    (hg : ∀ (s : Shared) (H : Hp) (C : Addr) (cl : List (Str × Addr)) (fp : List Addr), PG (hotBlk X s H scope (compEnvC scope cl C X.env) fp) tg g)
    (he : ∀ (s : Shared) (H : Hp) (C : Addr) (cl : List (Str × Addr)) (fp : List Addr), PE (hotBlk X s H scope (compEnvC scope cl C X.env) fp) elt te)
    (hs : ∀ x, foldedSetIterable iter X.env x = pure x := by intro _; rfl) : PE X (.ListComp elt [⟨tg, iter, [], 0⟩] scope pos) (tLc wi g tYes te (own.map (·.2))) := by
  constructor
  intro pins s σ H Q I want
  have caught : ∀ y ∈ scope.names, y.2 = .free → ∃ c, X.env.cells.lookup y.1 = some c := by
    intro y hy hk
    exact I.ok.has y.1 (blk.free y hy hk)
  rw [eval_ListComp]
  have places : ∀ y ∈ scope.names, y.2 = .local → scope.names.lookup y.1 = some .local := fun y hy hk => hk ▸ blk.uniq y hy
  refine wpAny_comprehension_free (use := none) rfl hs (closure_ok caught) blk.kind places ?_
  refine thn (walk.run pins s σ H _ I want) fun xv sA hA => thn hA fun itv sB hB => ?_
  obtain ⟨it, fp, tn, It', HB, rfl, IB, T, stB, fB, need⟩ := hB
  refine wpAny_newObj_type (newEnv_comp ?_) (Nat.zero_le sizeLine)
  -- the new list stands at D, the block's names at C
  obtain ⟨D, eD⟩ : ∃ D, D = sB.heap.objs.size := ⟨_, rfl⟩
  rw [← eD]
  obtain ⟨W, ⟨m0, w0⟩, turns⟩ := need D (IB.hok.fresh (Nat.le_of_eq eD.symm))
  obtain ⟨sC, eC⟩ : ∃ t : Shared, t = { sB with heap := sB.heap.push { cls := .type "list", data := .seq ([] : List Value).toArray } } := ⟨_, rfl⟩
  have kC : ∀ b o, sB.heap.get? b = some o → sC.heap.get? b = some o := fun b o e => by rw [eC]; exact Heap.get?_push_of_some _ e
  have IC : Inv X pins σ (upd HB D (.lst [])) sC := by
    have new : ObjOk X.prog X.w (upd HB D (.lst [])) sC.heap D (.lst []) := ⟨Nat.zero_le _, [], 0, .nil, by rw [eC, eD]; exact Heap.get?_push_size _ rfl⟩
    rw [eC] at kC new ⊢
    exact IB.laid (t' := sB.toks) kC (Nat.le_of_eq eD.symm) new
  have lC : sC.heap.objs.size = sB.heap.objs.size + 1 := by rw [eC]; exact Heap.size_push ..
  have inB : ∀ b ∈ fp, b < sB.heap.objs.size := fun b hb => let ⟨_, e, _⟩ := T.obj 0 _ stB b hb; Heap.lt_size e
  have fC : ∀ b ∈ fp, FpOk X pins (upd HB D (.lst [])) b ∧ b < sC.heap.objs.size := fun b hb => by
    obtain ⟨q0, q⟩ := fB b hb
    have lt := inB b hb
    exact ⟨⟨by rw [upd_ne (Nat.ne_of_lt (by rw [eD]; exact lt))]; exact q0, q⟩, by rw [lC]; exact Nat.lt_succ_of_lt lt⟩
  have ap : Apart X fp := fun b hb p hp => (fB b hb).2.2.2.2.2 p (List.mem_append_left _ hp)
  rw [← eC]
  obtain ⟨cl, ecl⟩ : ∃ cl, cl = cellsFrom (sC.heap.objs.size + 1) scope.names (cloFrom X.env.cells scope.names []) := ⟨_, rfl⟩
  have J0 := block_start IC blk nd fC
  rw [← ecl] at J0
  obtain ⟨sD, eDD⟩ : ∃ t : Shared, t = { sC with heap := pushCells (sC.heap.push { cls := .type "dict", data := .dict #[] }) scope.names } := ⟨_, rfl⟩
  have kD : ∀ b o, sC.heap.get? b = some o → sD.heap.get? b = some o := fun b o e => by
    rw [eDD]
    exact pushCells_keeps _ _ _ _ (Heap.get?_push_of_some _ e)
  rw [← eDD] at J0
  have J := hot_pins J0 fun p hp => by
    obtain ⟨q1, q2, q3, q4, q5⟩ := IC.pin p (List.mem_append_left _ hp)
    exact ⟨kD _ _ q1, q2, Nat.ne_of_lt (Heap.lt_size q1), fun hm => (List.mem_cons.mp (IC.stkSub _ hm)).elim q3 q4, q5⟩
  have st0 : tn 0 sD.heap := T.keep 0 _ _ stB fun b _ o e => kD b o (kC b o e)
  have M : Mid X sC (upd HB D (.lst [])) scope (compEnvC scope cl sC.heap.objs.size X.env) fp (wipe σ (own.map (·.2))) tn 0 (upd HB D (.lst [])) sD := ⟨J, st0, fun b hb => (fC b hb).1.1⟩
  have go : codeAny (model X.prog X.w) X.A (.compLoop (.ListComp elt [⟨tg, iter, [], 0⟩] scope pos) 0 (.ref it) (.ref D) (compEnvC scope cl sC.heap.objs.size X.env)) (compPost (model X.prog X.w) X.A X.xe none (EP X pins σ Q) (.ref D) sC.heap.objs.size) sD :=
    hot_walk (vs := own.map (·.2)) hc T ap (hg _ _ _ _ _) (he _ _ _ _ _) turns (fun H1 s1 J1 p => by
      obtain ⟨I1, ⟨nm, hnm⟩, f0, f1, f2, f3, f4, f5⟩ := Mid.leave IC (fun b hb => (fC b hb).1) rfl J1
      refine ⟨nm, hnm, fun h' same => ⟨.ref D, H1, I1.turned (t' := s1.toks) (fun b o nb e => ?_) f0 f1 f3 f4 f5, rfl, p⟩⟩
      rw [same.2 b nb]
      exact e) M w0
  rw [ecl] at go
  rw [eDD] at go
  exact codeAny_compStart_list go (T.self X.A 0 _ _ _ (by rw [eDD] at st0; exact st0) go)
end
/-! ### all(..) -/
section
variable {prog : Program} {w : World} {A : Around} {E : Value → Shared → Prop} {s : Shared} {x1 : Addr}
/-- a StopIteration is made and raised while x1 is handled: what was there is kept -/
theorem stop_hot {α : Type} {Q : α → Shared → Prop} (hot : HotX.HotAt A x1 s.heap)
    (out : ∀ (e : Addr) (h : Heap), (∀ b o, s.heap.get? b = some o → h.get? b = some o) → (∃ o, h.get? e = some o ∧ o.cls = .type "StopIteration") → E (.ref e) { s with heap := h }) :
    wpAny (model prog w) A (newExc (.type "StopIteration") [] >>= fun e => (raiseNew e : Sem α)) Q E s := by
  have two : ∀ {o1 o2 : Obj} b o, s.heap.get? b = some o → ((s.heap.push o1).push o2).get? b = some o := fun b o q => Heap.get?_push_of_some _ (Heap.get?_push_of_some _ q)
  obtain ⟨hh, o, vs, at1, dt1, cx1⟩ := hot
  unfold newExc newTuple
  refine wpAny_bind (wpAny_bind (wpAny_newObj_type (wpAny_bind (m := firstArgMember (.type "StopIteration") []) (wpAny_of_eq (a := Value.none) (by first | rfl | (unfold firstArgMember; rfl)) (wpAny_newObj_type ?_ (by size_fits)))) (by size_fits)))
  refine HotX.raiseNew_hot ⟨hh, o, vs, two _ _ at1, dt1, cx1⟩ (Nat.ne_of_lt (Heap.lt_size (Heap.get?_push_of_some _ at1))) (Heap.get?_push_size _ rfl) rfl (by rw [Array.size_append]; exact Nat.lt_of_lt_of_le (by decide : 2 < 6) (Nat.le_add_right 6 _)) (out _ _ (fun b u q => ?_) ⟨_, Heap.get?_update_self _ (Heap.get?_push_size _ rfl) rfl, rfl⟩)
  rw [Heap.get?_update_other _ _ (Nat.ne_of_gt (Heap.lt_size (Heap.get?_push_of_some _ q)))]
  exact two b u q
theorem list_done_hot {it l : Addr} {i : Nat} {items : Array Value} {Q : Option Value → Shared → Prop} (hot : HotX.HotAt A x1 s.heap) (other : x1 ≠ it) (li : s.heap.IsListIter it l i) (ls : s.heap.IsList l items) (past : items[i]? = none)
    (k : ∀ h, (∀ b o, b ≠ it → s.heap.get? b = some o → h.get? b = some o) → Q none { s with heap := h }) : wpAny (model prog w) A (pyNext (.ref it)) Q E s := by
  have ty := li.typeIs
  obtain ⟨oi, hi, _, di⟩ := li
  obtain ⟨ol, hl, _, _, dl⟩ := ls
  have fld : ∀ {A' : Around} {j : Nat} {v : Value} {Q' : Value → Shared → Prop} {E' : Value → Shared → Prop}, (#[Value.ref l, Value.int i 0])[j]? = some v → Q' v s → wpAny (model prog w) A' (field (.ref it) j) Q' E' s := fun h q => wpAny_field hi di h q
  have body := entry_listiter_next
  unfold pyNext
  refine wpAny_bind (wpAny_attempt (wpAny_callSpecial?_slot ty slot_listiter_next (wpAny_call_entry slot_listiter_next ty body ?_ (args_listiter_next _))))
  show wpAny _ _ (field (.ref it) 0 >>= fun x => _) _ _ s
  refine wpAny_bind (fld rfl ?_)
  dsimp only
  have nn : ((#[Value.ref l, Value.int (↑i) 0][0] : Value) == Value.none) = false := rfl
  simp only [nn, Bool.false_eq_true, ↓reduceIte]
  refine wpAny_bind (fld rfl (wpAny_bind (wpAny_seqItems hl dl ?_)))
  simp only [Int.toNat_natCast, past]
  refine wpAny_bind (wpAny_rule (wpAny_bind (wpAny_setField hi di (by simp) ?_)))
  have keep : ∀ b o, b ≠ it → s.heap.get? b = some o → (s.heap.update it (Obj.mapFields (·.setIfInBounds 0 .none))).get? b = some o := fun b o ne q => by
    rw [Heap.get?_update_other _ _ (Ne.symm ne)]
    exact q
  obtain ⟨hh, o1, vs, at1, d1, c1⟩ := hot
  refine stop_hot (A := A.in1) ⟨hh, o1, vs, keep _ _ other at1, d1, c1⟩ fun e h up ⟨oe, he, ce⟩ => ?_
  exact wpAny_bind (wpAny_isInstance (b := true) ⟨oe, he, ce⟩ isSubtype_stop (wpAny_pure (k h fun b o ne q => up b o (keep b o ne q))))
/-- the walk of a list, x1 handled -/
theorem list_walk_hot (hh : A.handled = some (.ref x1)) {it l : Addr} (nl : l ≠ it) (n1 : x1 ≠ it) (items : Array Value) :
    Walks prog w A it [it, l, x1] [it] items.size (fun j v => items[j]? = some v) (fun j h => HotX.HotAt A x1 h ∧ h.IsListIter it l j ∧ h.IsList l items) := by
  constructor
  · intro b hb
    exact List.mem_cons.mpr (.inl (List.mem_singleton.mp hb))
  · rintro j h h' ⟨⟨_, o, vs, e, d, c⟩, li, ls⟩ keep
    exact ⟨⟨hh, o, vs, keep x1 (by simp) o e, d, c⟩, li.at (keep it (by simp)), ls.at (keep l (by simp))⟩
  · rintro j s Q E lt ⟨⟨_, o, vs, e, d, c⟩, li, ls⟩ k
    refine wpAny_pyNext_list_item li ls (Array.getElem?_eq_getElem lt) fun h li' same => ?_
    have all := same.extBut
    exact k _ h s.toks (Array.getElem?_eq_getElem lt) ⟨⟨hh, o, vs, all x1 o n1 e, d, c⟩, li', ls.extBut all nl⟩ fun b u nb q => all b u (fun z => nb (z ▸ List.mem_singleton.mpr rfl)) q
  · rintro s Q E ⟨hot, li, ls⟩ k
    exact list_done_hot hot n1 li ls (Array.getElem?_eq_none (Nat.le_refl _)) fun h up => k h s.toks fun b u nb q => up b u (fun z => nb (z ▸ List.mem_singleton.mpr rfl)) q
  · rintro j s Q E ⟨_, li, _⟩ q
    exact wpAny_pyIter_listiter li q
end
theorem cr_allH {X : Cx} (hc : HotC X) : CallR X (.builtin "all") (rAll X.K) := by
  rintro pins s σ H _ us Q I r ⟨a, bs, rfl, sq, q⟩
  obtain ⟨p, ⟨hh, vs, dp, cp⟩, mp⟩ := hc
  have atp := (I.pin p (List.mem_append.mpr (.inl mp))).1
  have ap : p.1 ≠ s.heap.objs.size := Nat.ne_of_lt (Heap.lt_size atp)
  obtain ⟨its, rv, pl, _⟩ := I.list sq
  have eb := rv.bls
  rw [Vals.ref1 r]
  refine call_all_walk (iter_any pl.isList fun t et ⟨li, ls⟩ na => ?_)
  subst et
  refine ⟨_, _, _, _, _, _, _, rfl, list_walk_hot (A := X.A.in1) (x1 := p.1) hh na ap its.toArray, ⟨⟨hh, p.2, vs, Heap.get?_push_of_some _ atp, dp, cp⟩, li, ls⟩, truth_bools eb, fun h tk up => ?_⟩
  have same : ∀ b u, s.heap.get? b = some u → h.get? b = some u := fun b u e => up b u (fun z => Nat.lt_irrefl _ (List.mem_singleton.mp z ▸ Heap.lt_size e)) (Heap.get?_push_of_some _ e)
  have val : (List.range its.toArray.size).all (fun j => bs.getD j false) = bs.all id := by
    rw [← L2.all_range, eb]
    simp
  exact ⟨.bl (bs.all id), H, I.kept same, congrArg Value.bool val, q⟩
section
variable {X : Cx} {B : Bs} {elt tg iter a : Expr} {scope : Scope} {p pos : Pos} {wi : TI} {di : DI} {g : TG} {dg : DG} {te : TE} {de : DE} {ta : TA} {da : DA} {ix : List Nat}
structure XIH (X : Cx) (B : Bs) (tg iter : Expr) (wi : TI) (di : DI) : Prop where
  pi : PIH X tg iter wi
  si : SI X.K B wi di
theorem i_r1H (hm : X.mg "range" = none) (h : XA X B [a] ta da) (hg : Gl X "range" := by rfl) (hs : starEach [a] X.env = [(false, eval a X.env)] := by rfl) : XIH X B tg (.Call (.Name "range" p) [a] [] pos) (iRng1 ta) (dIR1 da) := ⟨L2H.pi_range1H hg hm h.pa hs, si_range1 h.sa⟩
/-- the tests (none) stand in the list of arguments for the printed text's sake -/
theorem x_lcH (own : List (Str × Nat)) (hc : HotC X) (nd : X.N.Nodup) (hi : XIH X B tg iter wi di) (blk : BlkOk X.N X.env.scope scope own)
    (hg : ∀ (B : Bs) (s : Shared) (H : Hp) (C : Addr) (cl : List (Str × Addr)) (fp : List Addr), XG (hotBlk X s H scope (compEnvC scope cl C X.env) fp) B tg g dg ix)
    (ht : ∀ (B : Bs) (s : Shared) (H : Hp) (C : Addr) (cl : List (Str × Addr)) (fp : List Addr), XTs (hotBlk X s H scope (compEnvC scope cl C X.env) fp) B [] tYes dYes)
    (he : ∀ (B : Bs) (s : Shared) (H : Hp) (C : Addr) (cl : List (Str × Addr)) (fp : List Addr), XE (hotBlk X s H scope (compEnvC scope cl C X.env) fp) B elt te de) (hix : ∀ i ∈ ix, i ∈ own.map (·.2)) (hs : ∀ x, foldedSetIterable iter X.env x = pure x := by intro _; rfl) :
    XE X B (.ListComp elt [⟨tg, iter, [], 0⟩] scope pos) (tLc wi g tYes te (own.map (·.2))) (dLc di dg dYes de (own.map (·.2))) where
  pe := pe_lcH hc nd hi.pi blk (fun s H C cl fp => (hg B s H C cl fp).pg) (fun s H C cl fp => (he B s H C cl fp).pe) hs
  se := se_lc hi.si (fun B => (hg B X.s_0 X.H_0 0 [] []).sg) (fun B => (ht B X.s_0 X.H_0 0 [] []).st) (fun B => (he B X.s_0 X.H_0 0 [] []).se) hix
end
end DL

set_option Elab.async false
set_option linter.all false
set_option maxRecDepth 100000
set_option maxHeartbeats 2000000
/-! ### dicts once more: get with a default, a copy, clear; reversed(range(n)); len(set(xs)) -/
namespace DL
open PySem PySem.Spec PyProof.Rows L2
open Evl (Ex ex_l ex_t)
def dDGet2 (dd dk dx : DE) (γ : Env) (q : RS → Env → Prop) : Prop := dd γ fun s γ1 => match s.data with
  | .dct kd => dk γ1 fun t γ2 => dx γ2 fun u γ3 => s.ok γ3 ∧ u.kept ∧ ∃ k, keyD t.data = some k ∧ q (.val ((vlk kd k).getD u.data)) γ3
  | _ => False
section
variable {K : PySem.W.Frag} {B : Bs}
theorem se_dget2 {td tk tx : TE} {dd dk dx : DE} (hd : SE K B td dd) (hk : SE K B tk dk) (hx : SE K B tx dx) : SE K B (tDGet2 td tk tx) (dDGet2 dd dk dx) := fun F H σ γ Q q R hq k => by
  refine hd F H σ γ _ _ R hq fun x F1 H1 γ1 s R1 e1 o1 h1 => ?_
  obtain ⟨F2, R2, e2, o2⟩ := o1.fz R1
  split at h1
  · rename_i kd es
    have rx := o2.rs R2
    rw [RS.fz_data, es] at rx
    obtain ⟨a, kv, rfl, ha, ra⟩ := rx.dct R2.fh
    refine ⟨a, rfl, .inl ⟨kv, .of ha⟩, hk F2 H1 σ γ1 _ _ R2 h1 fun y F3 H3 γ3 t R3 e3 o3 h3 => hx F3 H3 σ γ3 _ _ R3 h3 fun z F4 H4 γ4 u R4 e4 o4 ⟨h4, hu, kk, hkk, hq⟩ => ?_⟩
    have hy := key_v hkk (o3.rs R3)
    subst hy
    obtain ⟨F5, R5, e5, o5⟩ := o4.fz R4
    have rz := kept_rp o5 hu
    have ox := (o2.later ((e3.trans e4).trans e5) R5 (fz_ok s γ4 h4) (fz_idem s)).rs R5
    rw [RS.fz_data, es] at ox
    obtain ⟨a', kv', ea, ha', ra'⟩ := ox.dct R5.fh
    cases ea
    refine ⟨_, DGet.k ha', ?_⟩
    have ex : Ex F F5 := (((e1.trans e2).trans e3).trans e4).trans e5
    rcases ks_val (k := kk) ra' with ⟨z1, z2⟩ | ⟨v, d, g1, g2, g3⟩
    · rw [z1]
      rw [z2] at hq
      exact k _ F5 H4 γ4 (.val _) R5 ex rz hq
    · rw [g1]
      rw [g2] at hq
      exact k _ F5 H4 γ4 (.val _) R5 ex g3 hq
  · exact h1.elim
/-! dict(d) -/
def fDict : List D → (RS → Prop) → Prop
  | [.dct kd], q => q (.new (.dct kd))
  | _, _ => False
theorem cd_dict : CallD K (fun xs H Q => ∃ (a : Addr) (kvs : List (Key × V)), xs = [.ref a] ∧ Rd H a (.dK kvs) ∧ ∀ p, H p = none → Q (.ref p) (upd H p (.dK kvs))) fDict := fun B F H σ γ xs ds Q q R rx hf k => by
  unfold fDict at hf
  split at hf
  · obtain ⟨x, rfl, r⟩ := one_rs rx
    obtain ⟨a, kv, rfl, ha, ra⟩ := r.dct R.fh
    refine ⟨a, kv, rfl, .of ha, fun p hp => ?_⟩
    obtain ⟨R', o⟩ := R.newK hp ra
    exact k _ F _ _ R' (Evl.Ex.refl F) o hf
  · exact hf.elim
/-! d.clear() -/
def dDClear (j : Nat) (γ : Env) (q : RS → Env → Prop) : Prop := match look γ j with
  | .own p (.dct _) => q (.val .non) (put γ j (.own p (.dct [])))
  | _ => False
theorem se_dclear {j : Nat} : SE K B (tBM0 K "dict" rDClear (tVar j)) (dDClear j) := fun F H σ γ Q q R hq k => by
  unfold dDClear at hq
  split at hq
  · rename_i p kd hl
    obtain ⟨a, hs, _, _, kv, ha, _⟩ := R.own hl
    exact ⟨_, hs, .inr (.inr (.inl ⟨rfl, .inl ⟨kv, ha⟩⟩)), a, kv, rfl, rfl, ha, k _ F _ _ (.val .non) (R.writeK hl hs ha .nil) (Evl.Ex.refl F) .non hq⟩
  · exact hq.elim
/-! reversed(range(n)) -/
def dIRR (dn : DE) (γ : Env) (r : Nat → (Nat → D → Prop) → Env → Prop) : Prop := dn γ fun s γ1 => match s.data with
  | .int n => -1000000000000 ≤ n ∧ n ≤ 1000000000000 ∧ r n.toNat (fun i d => d = .int (n - 1 - i)) γ1
  | _ => False
theorem si_revR {te : TE} {de : DE} (h : SE K B te de) : SI K B (iRevR (tRg1 te)) (dIRR de) := fun F H σ γ W r R hq k => by
  refine h F H σ γ _ _ R hq fun v F1 H1 γ1 s R1 e1 o1 h1 => ?_
  split at h1
  · rename_i n es
    obtain ⟨b1, b2, h2⟩ := h1
    have rv := o1.rs R1
    rw [es] at rv
    refine ⟨n, rv.int, by decide, by decide, by omega, by omega, ?_⟩
    have e0 : (n - 0).toNat = n.toNat := by omega
    rw [e0]
    by_cases c : 0 ≤ n
    · have ee : (0 : Int) + ((n.toNat : Nat) : Int) - 1 = n - 1 := by omega
      rw [ee]
      refine k _ F1 H1 γ1 _ _ R1 e1 jo_rangeC ?_
      have ey : (fun (i : Nat) (d : D) => d = .int (n - 1 + (i : Int) * (-1))) = fun i d => d = .int (n - 1 - i) := by
        funext i d
        rw [show n - 1 + (i : Int) * (-1) = n - 1 - i by omega]
      rw [ey]
      exact h2
    · have en : n.toNat = 0 := by omega
      rw [en] at h2 ⊢
      exact k _ F1 H1 γ1 0 _ R1 e1 ⟨fun _ _ _ _ _ i _ _ lt => absurd lt (Nat.not_lt_zero _), fun _ _ _ _ _ i _ _ _ _ lt => absurd lt (Nat.not_lt_zero _), fun _ _ _ _ _ i _ _ _ => Nat.zero_le i⟩ h2
  · exact h1.elim
/-! len(set(xs)), xs numbers of which none comes twice -/
def dLenSet (de : DE) (γ : Env) (q : RS → Env → Prop) : Prop := de γ fun s γ1 => match s.data with
  | .lst ds => ∃ ns : List Int, ds = ns.map D.int ∧ ns.Nodup ∧ ns.length ≤ 4000 ∧ q (.val (.int ns.length)) γ1
  | _ => False
theorem se_lenSet {te : TE} {de : DE} (h : SE K B te de) : SE K B (RZ.tLenSetI K te) (dLenSet de) := fun F H σ γ Q q R hq k => by
  refine h F H σ γ _ _ R hq fun v F1 H1 γ1 s R1 e1 o1 h1 => ?_
  split at h1
  · rename_i ds es
    obtain ⟨ns, rfl, nd, ln, hq⟩ := h1
    have rv := o1.rs R1
    rw [es] at rv
    obtain ⟨a, vs, rfl, ha, ra⟩ := rv.lst R1.fh
    have ev := rp_ints ra
    subst ev
    exact ⟨a, ns, rfl, Evl.sq_of ha, nd, ln, k _ F1 H1 γ1 (.val _) R1 e1 (.int _) hq⟩
  · exact h1.elim
end
section
variable {X : Cx} {B : Bs} {o e f : Expr} {to te tf : TE} {d de df : DE} {apos pos p p2 q : Pos} {tg : Expr}
theorem x_dget2 (hu : X.A.units + 1 < cLine) (ho : XE X B o to d) (he : XE X B e te de) (hf : XE X B f tf df) (m : M2 X o "get" apos e f pos := by exact ⟨rfl, rfl, rfl, rfl⟩) : XE X B (.Call (.Attribute o "get" apos) [e, f] [] pos) (tDGet2 to te tf) (dDGet2 d de df) := ⟨pe_dget2 hu ho.pe he.pe hf.pe m, se_dget2 ho.se he.se hf.se⟩
theorem x_dclear (j : Nat) {x : Str} {xp : Pos} (hN : X.N[j]? = some x := by rfl) (hv : Vis X.env.scope x := by first | exact Or.inl rfl | exact Or.inr (Or.inl rfl) | exact Or.inr (Or.inr rfl)) (hd : (x == ("__debug__" : Str)) = false := by decide)
    (hcd : (x == ("__classdict__" : Str)) = false := by decide) (hbase : attributeBase (.Name x xp) "clear" X.env (eval (.Name x xp) X.env) = eval (.Name x xp) X.env := by rfl) (hline : (apos.endLine == pos.line) = true := by rfl) :
    XE X B (.Call (.Attribute (.Name x xp) "clear" apos) [] [] pos) (tBM0 X.K "dict" rDClear (tVar j)) (dDClear j) := ⟨pe_dclear (pe_var hN hv hd hcd) hbase hline, se_dclear⟩
theorem i_revR (hm : X.mg "reversed" = none) (hm2 : X.mg "range" = none) (he : XE X B e te de) (hg : Gl X "reversed" := by rfl) (hg2 : Gl X "range" := by rfl) (hs : starEach [e] X.env = (false, eval e X.env) :: starEach [] X.env := by rfl)
    (hs2 : starEach [.Call (.Name "range" p2) [e] [] q] X.env = (false, eval (.Call (.Name "range" p2) [e] [] q) X.env) :: starEach [] X.env := by rfl) :
    XI X B tg (.Call (.Name "reversed" p) [.Call (.Name "range" p2) [e] [] q] [] pos) (iRevR (tRg1 te)) (dIRR de) := ⟨pi_revR hg hm (prg_1 hg2 hm2 he.pe hs) hs2, si_revR he.se⟩
theorem x_lenSet (hm : X.mg "len" = none) (hm2 : X.mg "set" = none) (he : XE X B e te de) (hg : Gl X "len" := by rfl) (hg2 : Gl X "set" := by rfl) (hc : X.calm = true := by rfl) (na : starEach [e] X.env = (false, eval e X.env) :: starEach [] X.env := by rfl) :
    XE X B (.Call (.Name "len" p) [.Call (.Name "set" p2) [e] [] q] [] pos) (RZ.tLenSetI X.K te) (dLenSet de) := ⟨RZ.pe_lenSetI hg hm hg2 hm2 he.pe hc na, se_lenSet he.se⟩
end
end DL

set_option Elab.async false
set_option linter.all false
set_option maxRecDepth 100000
set_option maxHeartbeats 2000000
/-! ### max(xs, default=d) of numbers; three comparisons in a row -/
namespace DL
open PySem PySem.Spec PyProof.Rows L2
open Evl (Ex ex_l ex_t)
def mxd : List Int → Int → Int
  | [], d => d
  | n :: r, _ => r.foldl max n
theorem reads_ints {h : Heap} : ∀ {ns : List Int} {us : List Value}, Vals (ns.map V.int) us → ∃ as, ReadsAll h us (ns.map PyData.int) as
  | [], _, .nil => ⟨[], .nil⟩
  | n :: ns, _, .cons r t => by
    obtain ⟨k, rfl⟩ := r
    obtain ⟨as, q⟩ := reads_ints t
    exact ⟨_, .cons (.int n k) q⟩
theorem depth_intsD : ∀ ns : List Int, PyData.depthAll (ns.map PyData.int) = 0
  | [] => by simp [PyData.depthAll]
  | n :: ns => by
    rw [List.map_cons, PyData.depthAll, depth_intsD ns]
    simp [PyData.depth]
def rMaxDf (K : PySem.W.Frag) : List V → List V → Hp → VK → Prop := fun vs zs H Q => ∃ (a : Addr) (ns : List Int) (d : Int), vs = [.ref a] ∧ zs = [.int d] ∧ SqL K H a (ns.map V.int) ∧ Q (.int (mxd ns d)) H
theorem cr_maxDf {X : Cx} (hc : X.calm = true) (hu : X.A.units + 1 < cLine) : CallRK X (.builtin "max") [("default" : Str)] (rMaxDf X.K) := by
  rintro pins s σ H xs zs us ws Q I r rz ⟨a, ns, d, rfl, rfl, sq, q⟩
  obtain ⟨its, rv, pl, _⟩ := I.list sq
  obtain ⟨as, rd⟩ := reads_ints (h := s.heap) rv
  rw [Vals.ref1 r]
  cases rz with
  | cons rd0 t =>
  cases t
  obtain ⟨td, rfl⟩ := rd0
  have al : PySem.W.AlikeAll (ns.map PyData.int) := ⟨fun x hx y hy => by
    obtain ⟨i, _, rfl⟩ := List.mem_map.mp hx
    obtain ⟨j, _, rfl⟩ := List.mem_map.mp hy
    rfl, fun x hx => by
    obtain ⟨i, _, rfl⟩ := List.mem_map.mp hx
    exact fun z => by cases z⟩
  refine PySem.W.max_list_default (A := X.A) (I.ok.hd hc) pl.isList rd al (by rw [depth_intsD]; exact hu) (fun e h tk up => ?_) (fun y ys i v h tk bs e _ rv up => ?_)
  · have : ns = [] := List.map_eq_nil_iff.mp e
    subst this
    exact ⟨.int d, H, I.kept up, ⟨td, rfl⟩, q⟩
  · cases ns with
    | nil => cases e
    | cons n r =>
      cases e
      rw [PySem.W.maxD_ints] at rv
      cases rv with
      | int _ k => exact ⟨.int _, H, I.kept up, ⟨k, rfl⟩, q⟩
def dMaxD (da : DE) (dz : DE) (γ : Env) (q : RS → Env → Prop) : Prop := da γ fun s γ1 => match s.data with
  | .lst ds => dz γ1 fun t γ2 => s.ok γ2 ∧ ∃ (ns : List Int) (d : Int), ds = ns.map D.int ∧ t.data = .int d ∧ q (.val (.int (mxd ns d))) γ2
  | _ => False
theorem se_maxD {K : PySem.W.Frag} {B : Bs} {ta tz : TE} {da dz : DE} (ha : SE K B ta da) (hz : SE K B tz dz) : SE K B (tCKw (rMaxDf K) (tCons ta tNil) (tCons tz tNil)) (dMaxD da dz) := fun F H σ γ Q q R hq k => by
  refine ha F H σ γ _ _ R hq fun x F1 H1 γ1 s R1 e1 o1 h1 => ?_
  obtain ⟨F2, R2, e2, o2⟩ := o1.fz R1
  split at h1
  · rename_i ds es
    refine hz F2 H1 σ γ1 _ _ R2 h1 fun z F3 H3 γ3 t R3 e3 o3 ⟨h3, ns, d, en, et, hq⟩ => ?_
    have ox := (o2.later e3 R3 (fz_ok s γ3 h3) (fz_idem s)).rs R3
    rw [RS.fz_data, es] at ox
    obtain ⟨a, vs, rfl, hl, ra⟩ := ox.lst R3.fh
    subst en
    have ev := rp_ints ra
    subst ev
    have rz := o3.rs R3
    rw [et] at rz
    have ez := rz.int
    subst ez
    exact ⟨a, ns, d, rfl, rfl, Evl.sq_of hl, k _ F3 H3 γ3 (.val _) R3 ((e1.trans e2).trans e3) (.int _) hq⟩
  · exact h1.elim
theorem x_maxD {X : Cx} {B : Bs} {e z : Expr} {te tz : TE} {de dz : DE} {p pos kp : Pos} (hu : X.A.units + 1 < cLine) (hm : X.mg "max" = none) (he : XE X B e te de) (hz : XE X B z tz dz) (hc : X.calm = true := by rfl) (hg : Gl X "max" := by rfl) (hv : bootBuiltins "max" = some (.builtin "max") := by decide +kernel)
    (hs : starEach (e :: []) X.env = (false, eval e X.env) :: starEach [] X.env := by rfl)
    (h1 : backTo pos (starEach (e :: []) X.env) = (false, eval e X.env) :: backTo pos (starEach [] X.env) := by rfl) (h2 : (backTo pos (starEach (e :: []) X.env)).any (·.1) = false := by rfl)
    (h3 : (backToKw pos (keywordEach [⟨some ("default" : Str), z, kp⟩] X.env)).all (·.1.isSome) = true := by rfl) (h4 : (backToKw pos (keywordEach [⟨some ("default" : Str), z, kp⟩] X.env)).any (·.1.isNone) = false := by rfl)
    (h5 : (backToKw pos (keywordEach [⟨some ("default" : Str), z, kp⟩] X.env)).filterMap (·.1) = [("default" : Str)] := by rfl) :
    XE X B (.Call (.Name "max" p) [e] [⟨some ("default" : Str), z, kp⟩] pos) (tCKw (rMaxDf X.K) (tCons te tNil) (tCons tz tNil)) (dMaxD de dz) :=
  ⟨pe_callBK (cr_maxDf hc hu) hg hm hv (pa_cons he.pe pa_nil hs) (pk_cons hz.pe pk_nil) (by decide) (by decide) h1 h2 h3 h4 h5, se_maxD he.se hz.se⟩
end DL

set_option Elab.async false
set_option linter.all false
set_option maxRecDepth 100000
set_option maxHeartbeats 2000000
/-! ### a <= b <= c < d of numbers, as a test -/
namespace DL
open PySem PySem.Spec PyProof.Rows L2
open Evl (Ex ex_l ex_t)
/-- the comparison of two numbers that an operator makes -/
def rCI (f : Int → Int → Bool) : R2 := fun x y H Q => ∃ i j, x = .int i ∧ y = .int j ∧ Q (.bl (f i j)) H
def tCh3 (r1 r2 r3 : R2) (ta tb tc td : TE) : TT := fun σ H Q => ta σ H fun x H1 => tb σ H1 fun y H2 => r1 x y H2 fun z H3 => ∃ k, z = .bl k ∧ (if k = true then tc σ H3 fun x' H4 => r2 y x' H4 fun z H5 => ∃ k, z = .bl k ∧
  (if k = true then td σ H5 fun y' H6 => r3 x' y' H6 fun z H7 => ∃ k, z = .bl k ∧ Q k H7 else Q false H5) else Q false H3)
section
variable {X : Cx} {a b c d : Expr} {pos : Pos} {ta tb tc td : TE} {o1 o2 o3 : CmpOp} {r1 r2 r3 : R2}
theorem pt_ch3 (h1 : OpR X (compareOp o1) r1) (h2 : OpR X (compareOp o2) r2) (h3 : OpR X (compareOp o3) r3) (ha : PE X a ta) (hb : PE X b tb) (hc : PE X c tc) (hd : PE X d td) (hm : lastMarks [o1, o2, o3] [b, c, d] = false) :
    PT X (.Compare a [o1, o2, o3] [b, c, d] pos) (tCh3 r1 r2 r3 ta tb tc td) := by
  constructor
  intro pins s σ H Q I want
  refine isTrue_chain (thn (ha.run pins s σ H _ I want) fun v1 t1 ⟨x1, H1, J1, e1, q1⟩ => test_link (thn (hb.run pins t1 σ H1 _ J1 q1) fun v2 t2 ⟨x2, H2, J2, e2, q2⟩ => thn (h1 pins t2 σ H2 x1 x2 v1 v2 _ J2 e1 e2 q2) fun v3 t3 ⟨x3, H3, J3, e3, k, ek, q3⟩ => ?_)) hm
  subst ek
  cases e3
  refine wpAny_truthy_bool ?_
  cases k
  · exact ite_ff ⟨H3, J3, q3⟩
  refine ite_tt (test_link (thn (hc.run pins t3 σ H3 _ J3 q3) fun v4 t4 ⟨x4, H4, J4, e4, q4⟩ => thn (h2 pins t4 σ H4 x2 x4 v2 v4 _ J4 e2 e4 q4) fun v5 t5 ⟨x5, H5, J5, e5, k, ek, q5⟩ => ?_))
  subst ek
  cases e5
  refine wpAny_truthy_bool ?_
  cases k
  · exact ite_ff ⟨H5, J5, q5⟩
  refine ite_tt (test_last (thn (hd.run pins t5 σ H5 _ J5 q5) fun v6 t6 ⟨x6, H6, J6, e6, q6⟩ => thn (h3 pins t6 σ H6 x4 x6 v4 v6 _ J6 e4 e6 q6) fun v7 t7 ⟨x7, H7, J7, e7, k, ek, q7⟩ => ?_))
  subst ek
  cases e7
  exact wpAny_truthy_bool ⟨H7, J7, q7⟩
end
/-- what the comparison tells of two numbers -/
def CI (K : PySem.W.Frag) (r : R2) (f : Int → Int → Bool) : Prop := ∀ (i j : Int) (H : Hp) (Q : VK), Q (.bl (f i j)) H → r (.int i) (.int j) H Q
def dCh3 (f g h : Int → Int → Bool) (da db dc dd : DE) (γ : Env) (q : Bool → Env → Prop) : Prop := da γ fun s γ1 => db γ1 fun t γ2 => ∃ i j, s.data = .int i ∧ t.data = .int j ∧ (f i j = true → dc γ2 fun u γ3 => ∃ k, u.data = .int k ∧ (g j k = true → dd γ3 fun v γ4 => ∃ l, v.data = .int l ∧ q (h k l) γ4) ∧ (g j k = false → q false γ3)) ∧ (f i j = false → q false γ2)
theorem st_ch3 {K : PySem.W.Frag} {B : Bs} {ta tb tc td : TE} {da db dc dd : DE} {r1 r2 r3 : R2} {f g h : Int → Int → Bool} (h1 : CI K r1 f) (h2 : CI K r2 g) (h3 : CI K r3 h) (ha : SE K B ta da) (hb : SE K B tb db) (hc : SE K B tc dc) (hd : SE K B td dd) : ST K B (tCh3 r1 r2 r3 ta tb tc td) (dCh3 f g h da db dc dd) := fun F H σ γ Q q R hq k => by
  have num : ∀ {F H γ v s i}, Rep K B F H σ γ → RsOk K B F H σ γ v s → s.data = .int i → v = .int i := fun R o e => by
    have r := o.rs R
    rw [e] at r
    exact r.int
  refine ha F H σ γ _ _ R hq fun x F1 H1 γ1 s R1 e1 o1 q1 => hb F1 H1 σ γ1 _ _ R1 q1 fun y F2 H2 γ2 t R2 e2 o2 ⟨i, j, es, et, qt, qf⟩ => ?_
  rw [num R1 o1 es, num R2 o2 et]
  refine h1 i j _ _ ⟨_, rfl, ?_⟩
  cases c1 : f i j with
  | false => exact k _ F2 H2 γ2 R2 (e1.trans e2) (qf c1)
  | true =>
    refine hc F2 H2 σ γ2 _ _ R2 (qt c1) fun z F3 H3 γ3 u R3 e3 o3 ⟨l, eu, qt2, qf2⟩ => ?_
    rw [num R3 o3 eu]
    refine h2 j l _ _ ⟨_, rfl, ?_⟩
    cases c2 : g j l with
    | false => exact k _ F3 H3 γ3 R3 ((e1.trans e2).trans e3) (qf2 c2)
    | true =>
      refine hd F3 H3 σ γ3 _ _ R3 (qt2 c2) fun w F4 H4 γ4 v R4 e4 o4 ⟨m, ev, q4⟩ => ?_
      rw [num R4 o4 ev]
      exact h3 l m _ _ ⟨_, rfl, k _ F4 H4 γ4 R4 (((e1.trans e2).trans e3).trans e4) q4⟩
section
variable {X : Cx} {B : Bs} {a b c d : Expr} {pos : Pos} {ta tb tc td : TE} {da db dc dd : DE} {o1 o2 o3 : CmpOp} {r1 r2 r3 : R2} {f g h : Int → Int → Bool}
theorem t_ch3 (p1 : OpR X (compareOp o1) r1) (p2 : OpR X (compareOp o2) r2) (p3 : OpR X (compareOp o3) r3) (h1 : CI X.K r1 f) (h2 : CI X.K r2 g) (h3 : CI X.K r3 h) (ha : XE X B a ta da) (hb : XE X B b tb db) (hc : XE X B c tc dc) (hd : XE X B d td dd)
    (hm : lastMarks [o1, o2, o3] [b, c, d] = false := by with_unfolding_all rfl) : XT X B (.Compare a [o1, o2, o3] [b, c, d] pos) (tCh3 r1 r2 r3 ta tb tc td) (dCh3 f g h da db dc dd) :=
  ⟨pt_ch3 p1 p2 p3 ha.pe hb.pe hc.pe hd.pe hm, st_ch3 h1 h2 h3 ha.se hb.se hc.se hd.se⟩
end
theorem ci_le {K : PySem.W.Frag} : CI K (rI0 fun i j => .bl (decide (i ≤ j))) fun i j => decide (i ≤ j) := fun i j H Q q => ⟨i, j, rfl, rfl, q⟩
theorem ci_lt {K : PySem.W.Frag} : CI K (rI0 fun i j => .bl (decide (i < j))) fun i j => decide (i < j) := fun i j H Q q => ⟨i, j, rfl, rfl, q⟩
end DL

set_option Elab.async false
set_option linter.all false
set_option maxRecDepth 100000
set_option maxHeartbeats 4000000
namespace DL
open PySem PySem.Spec PyProof.Rows L2
section
variable {P : Program} {w : World} {A : Around} {E : Value → Shared → Prop} {s : Shared}
theorem type_made {T newId initId : String} {args : List Value} {Q1 Q : Value → Shared → Prop} (ft : TypeCalled T newId initId) (takes : checkTypeCall T ⟨args, []⟩ = pure ()) (new : codeAny (model P w) A.in1 (.call (.builtin newId) ⟨.type T :: args, []⟩) (wants Q1 E) s)
    (init : ∀ obj t, Q1 obj t → t.TypeIs obj T ∧ codeAny (model P w) A.in1 (.call (.builtin initId) ⟨obj :: args, []⟩) (wants (fun r t2 => r = .none ∧ Q obj t2) E) t) : wpAny (model P w) A (call (.type T) args) Q E s := by
  have entry := F.entry_type_call
  have weigh := weight_type_call_type T args []
  obtain ⟨_, _, mro⟩ := ft.mro
  have f1 := ft.made
  have f2 := ft.notType
  have f3 := ft.canCreate
  have f4 := ft.sub
  refine wpAny_call (codeAny_of_tree (show wpAny _ _ (callAny (.type T) _) _ _ _ from wpAny_pure ⟨Code.quiet_builtin _ (by decide +kernel), codeAny_builtin entry ?_⟩))
  rw [Around.under_plain weigh rfl]
  repeat (any_goals (first | assumption | wp_step))
  refine codeAny_mono new fun r t hr => ?_
  rcases r with e | f
  · exact hr
  cases f with
  | ret obj =>
    have hm := init obj t hr
    have at0 := hm.1
    have g1 := ft.init.lookup
    have g2 := ft.init.bind obj
    repeat (any_goals (first | assumption | wp_step))
    refine codeAny_mono hm.2 fun r2 t2 done => ?_
    rcases r2 with e | f2
    · exact done
    cases f2 with
    | ret x =>
      obtain ⟨rfl, q⟩ := done
      exact wpAny_pure (wpAny_pure q)
    | _ => exact done.elim
  | _ => exact hr.elim
theorem set_of_list {l : Addr} {items : Array Value} {ns : List Int} {Q : Value → Shared → Prop} (hh : A.handled = none) (hl : s.heap.IsList l items) (hi : IntsAre items.toList ns) (few : ns.length + 1 < scanBound)
    (k : ∀ (h : Heap) (tk c : Nat), SetR w h s.heap.objs.size (fun j => decide (j ∈ ns)) c → c ≤ ns.length → (∀ b o, s.heap.get? b = some o → h.get? b = some o) → Q (.ref s.heap.objs.size) { s with heap := h, toks := tk }) :
    wpAny (model P w) A (call (.type "set") [.ref l]) Q E s := by
  refine type_made (Q1 := fun obj t => obj = .ref s.heap.objs.size ∧ t = { s with heap := s.heap.push { cls := .type "set", dict := none, data := .set #[] 0 (.fresh 0 0 (!w.params.followText "set-order")) } }) F.called_set (F.typeCall_set_1 (.ref l)) (code_set_led1 (.ref l) ⟨rfl, rfl⟩) ?_
  rintro obj t ⟨rfl, rfl⟩
  refine ⟨⟨_, Heap.get?_push_size _ rfl, rfl⟩, ?_⟩
  have gs : (s.heap.push { cls := .type "set", dict := none, data := .set #[] 0 (.fresh 0 0 (!w.params.followText "set-order")) }).get? s.heap.objs.size = some { cls := .type "set", dict := none, data := .set #[] 0 (.fresh 0 0 (!w.params.followText "set-order")) } := Heap.get?_push_size _ rfl
  have ty : Shared.TypeIs { s with heap := s.heap.push { cls := .type "set", dict := none, data := .set #[] 0 (.fresh 0 0 (!w.params.followText "set-order")) } } (.ref s.heap.objs.size) "set" := ⟨_, gs, rfl⟩
  obtain ⟨⟨oc, od, odt, osl⟩, gl, cl, nl, dl⟩ := id hl
  cases cl
  cases dl
  have gl1 := Heap.get?_push_of_some { cls := .type "set", dict := none, data := .set #[] 0 (.fresh 0 0 (!w.params.followText "set-order")) } gl
  have noD : (Value.type "list" == Value.type "dict") = false := by decide
  have s1 := F.sub_list_set
  have s2 := F.sub_list_frozenset
  refine codeAny_call_builtin F.called_set.init.plain F.entry_set_init (check_set_init_1 ty ?_)
  unfold Builtin.«set.__init__» noKeywords Builtin.Frozenset.updateFrom
  generalize hp : pyIter = walk
  wp_walk
  subst hp
  have ne1 : l ≠ s.heap.objs.size := Nat.ne_of_lt (Heap.lt_size gl)
  obtain ⟨z, ez⟩ : ∃ z, z = (s.heap.push { cls := .type "set", dict := none, data := .set #[] 0 (.fresh 0 0 (!w.params.followText "set-order")) }).objs.size := ⟨_, rfl⟩
  have sz : z = s.heap.objs.size + 1 := ez.trans (Heap.size_push ..)
  have ll : l < s.heap.objs.size := Heap.lt_size gl
  refine wpAny_pyIter_list ⟨_, gl1, rfl, nl, rfl⟩ (wpAny_bind (wpAny_runValue ?_))
  rw [← ez]
  have small : items.size = ns.length := by
    have q := IntsAre.length hi
    rwa [Array.length_toList] at q
  have val : ∀ (i : Nat) (v : Value), items[i]? = some v → ∃ k t, ns[i]? = some k ∧ v = .int k t := fun i v hv => by
    have lt : i < ns.length := by rw [← small]; exact (Array.getElem?_eq_some_iff.mp hv).1
    obtain ⟨t, e⟩ := IntsAre.int_at hi i v (by rw [Array.getElem?_toList]; exact hv)
    refine ⟨ns[i], t, List.getElem?_eq_getElem lt, ?_⟩
    rw [e]
    congr 1
    rw [List.getD_eq_getElem?_getD, List.getElem?_eq_getElem lt]
    rfl
  have three : A.in1.in1.in1.handled = none := hh
  refine set_update_ints ((Walks.list three z l (by rw [sz]; exact Nat.ne_of_lt (Nat.lt_succ_of_lt ll)) items).toS) s.heap.objs.size (by rw [sz]; simp only [List.mem_cons, List.not_mem_nil, or_false, not_or]; exact ⟨Nat.ne_of_lt (Nat.lt_succ_self _), Nat.ne_of_gt ll⟩) ns small few val items.size 0 _ (by omega) (Nat.zero_le _) ⟨⟨_, by rw [ez]; exact Heap.get?_push_size _ rfl, rfl, rfl⟩, ⟨_, Heap.get?_push_of_some _ gl1, rfl, nl, rfl⟩⟩
    ⟨0, Nat.le_refl 0, setR_new_at (Heap.get?_push_of_some _ gs)⟩ fun s' c mv cn R => ?_
  rw [mv.eq_with]
  rw [small] at cn
  refine wpAny_pure (wpAny_pure ⟨rfl, k s'.heap s'.toks c R cn fun b o e => ?_⟩)
  have lb : b < s.heap.objs.size := Heap.lt_size e
  refine mv.heap b o (fun hm => ?_) (Heap.get?_push_of_some _ (Heap.get?_push_of_some _ e))
  rcases List.mem_cons.mp hm with q | hm
  · exact Nat.ne_of_lt lb q
  · have q := List.mem_singleton.mp hm
    rw [sz] at q
    exact Nat.ne_of_lt (Nat.lt_succ_of_lt lb) q
end
section
variable {X : Cx}
/-! set(xs), xs a list of ints; sorted(set(xs)) as one expression: no data stand for a set -/
def rSetL (K : PySem.W.Frag) (w : World) : List V → Hp → VK → Prop := fun vs H Q => ∃ (l : Addr) (ns : List Int), vs = [V.ref l] ∧ SqL K H l (ns.map V.int) ∧ ns.length < 64 ∧
  ∀ (p : Addr) (c : Nat), c ≤ ns.length → H p = none → Q (.ref p) (upd H p (SetO w p (fun j => decide (j ∈ ns)) c))
theorem cr_setL (hc : X.calm = true) : CallR X (.type "set") (rSetL X.K X.w) := by
  intro pins s σ H vs us Q I r h
  obtain ⟨l, ns, rfl, hq, few, q⟩ := h
  rw [Vals.ref1 r]
  obtain ⟨its, rv, pl, hz⟩ := I.list hq
  refine set_of_list (I.ok.hd hc) pl.isList (by simpa using ints_of_vals rv) (by unfold scanBound; omega) fun h2 tk c R cn old => ?_
  exact ⟨.ref _, _, I.laid (t' := tk) old (Nat.le_refl _) (setO_new R), rfl, q _ c cn (I.hok.fresh (Nat.le_refl _))⟩
end
theorem asc_uniq {xs ys : List Int} (hx : xs.Pairwise (· < ·)) (hy : ys.Pairwise (· < ·)) (h : ∀ k, k ∈ xs ↔ k ∈ ys) : xs = ys := by
  have nx : xs.Nodup := hx.imp fun a => Int.ne_of_lt a
  have ny : ys.Nodup := hy.imp fun a => Int.ne_of_lt a
  have pm : xs.Perm ys := (List.perm_ext_iff_of_nodup nx ny).mpr h
  exact pm.eq_of_pairwise (fun a b _ _ c d => absurd (Int.lt_trans c d) (Int.lt_irrefl a)) hx hy
def dSorSet (de : DE) (γ : Env) (q : RS → Env → Prop) : Prop := de γ fun s γ1 => match s.data with
  | .lst ds => ∃ ns ms : List Int, ds = ns.map D.int ∧ ns.length < 64 ∧ ms.Pairwise (· < ·) ∧ (∀ k, k ∈ ms ↔ k ∈ ns) ∧ q (.new (.lst (ms.map D.int))) γ1
  | _ => False
section
variable {K : PySem.W.Frag} {B : Bs}
theorem se_sorSet {w : World} {te : TE} {de : DE} (h : SE K B te de) : SE K B (tCB (rSortedSet w) (tCons (tCB (rSetL K w) (tCons te tNil)) tNil)) (dSorSet de) := fun F H σ γ Q q R hq k => by
  refine h F H σ γ _ _ R hq fun v F1 H1 γ1 s R1 e1 o1 h1 => ?_
  split at h1
  · rename_i ds es
    obtain ⟨ns, ms, rfl, ln, asc, mem, hq⟩ := h1
    have rv := o1.rs R1
    rw [es] at rv
    obtain ⟨a, vs, rfl, ha, ra⟩ := rv.lst R1.fh
    have ev := rp_ints ra
    subst ev
    refine ⟨a, ns, rfl, Evl.sq_of ha, ln, fun p c cn hp => ?_⟩
    refine ⟨p, _, c, rfl, upd_same .., by omega, fun xs p2 ax mx lx hp2 => ?_⟩
    have ex : xs = ms := asc_uniq ax asc fun k => by rw [mx, mem]; exact decide_eq_true_iff
    subst ex
    have R2 := R1.alloc (SetO w p (fun j => decide (j ∈ ns)) c) hp
    obtain ⟨R3, o⟩ := R2.newL hp2 (vs := xs.map V.int) (ds := xs.map D.int) (ints_rp xs)
    exact k _ F1 _ γ1 _ R3 e1 o hq
  · exact h1.elim
end
section
variable {X : Cx} {B : Bs} {e : Expr} {te : TE} {de : DE} {p p2 q pos : Pos}
theorem x_sorSet (hm : X.mg "sorted" = none) (hm2 : X.mg "set" = none) (he : XE X B e te de) (hg : Gl X "sorted" := by rfl) (hg2 : Gl X "set" := by rfl) (hc : X.calm = true := by rfl) (na : starEach [e] X.env = (false, eval e X.env) :: starEach [] X.env := by rfl)
    (na2 : starEach [.Call (.Name "set" p2) [e] [] q] X.env = (false, eval (.Call (.Name "set" p2) [e] [] q) X.env) :: starEach [] X.env := by rfl) :
    XE X B (.Call (.Name "sorted" p) [.Call (.Name "set" p2) [e] [] q] [] pos) (tCB (rSortedSet X.w) (tCons (tCB (rSetL X.K X.w) (tCons te tNil)) tNil)) (dSorSet de) :=
  ⟨pe_callB (cr_sortedSet hc) hg hm boot_sorted (pa_cons (pe_callTy (cr_setL hc) hg2 hm2 boot_set (pa_cons he.pe pa_nil na) (he := na)) pa_nil na2) (he := na2), se_sorSet he.se⟩
end
end DL

set_option Elab.async false
set_option linter.all false
set_option maxRecDepth 100000
set_option maxHeartbeats 4000000
namespace DL
open PySem PySem.Spec PyProof.Rows L2 PySem.F
open Evl (Ex ex_l ex_t)
/-! for x, y, z in zip(xs, ys, zs) of three lists -/
theorem zip3_typed (a b c : Value) : checkTypeCall "zip" ⟨[a, b, c], []⟩ = pure () := by kernel_rfl
theorem zip3_new_ok (a b c : Value) : checkBuiltinCall "zip.__new__" ⟨[.type "zip", a, b, c], []⟩ = pure () := by kernel_rfl
theorem obj_init_ok4 (a b c d : Value) : argsOk "object.__init__" ⟨[a, b, c, d], []⟩ := by
  unfold argsOk; rw [signature?_of (id := "object.__init__") (n := ['_', '_', 't', 'i', 'n', 'i', '_', '_']) (o := ['t', 'c', 'e', 'j', 'b', 'o']) (by kernel_rfl) owner_object]; kernel_rfl
theorem at_push {h : Heap} {o : Obj} {n : Nat} (e : h.objs.size = n) (alive : o.isFreed = false := by rfl) : (h.push o).get? n = some o := by
  subst e
  exact Heap.get?_push_size _ alive
theorem got_up {h : Heap} {a : Addr} {o u : Obj} (e : h.get? a = some o) : (h.push u).get? a = some o := Heap.get?_push_of_some u e
/-- what stands behind zip(a, b, c): three iterators at n, n+1, n+2, two tuples, the zip -/
structure Zipped (h h2 : Heap) (a b c : Addr) : Prop where
  i1 : h2.IsListIter h.objs.size a 0
  i2 : h2.IsListIter (h.objs.size + 1) b 0
  i3 : h2.IsListIter (h.objs.size + 2) c 0
  ti : IsTupOf3 h2 (h.objs.size + 3) (.ref h.objs.size) (.ref (h.objs.size + 1)) (.ref (h.objs.size + 2))
  to : IsTupOf3 h2 (h.objs.size + 4) .none .none .none
  z : IsZip h2 (h.objs.size + 5) (h.objs.size + 3) (h.objs.size + 4) .none
  old : ∀ b o, h.get? b = some o → h2.get? b = some o
theorem zip3_makes (a b c : Addr) (xs ys zs : Array Value) :
    Meets (Builtin.«zip.__new__» ⟨[.type "zip", .ref a, .ref b, .ref c], []⟩) (fun _ R s => s.heap.IsList a xs ∧ s.heap.IsList b ys ∧ s.heap.IsList c zs ∧ ∀ h2, Zipped s.heap h2 a b c → R (.ok (.ret (.ref (s.heap.objs.size + 5)))) { s with heap := h2 }) :=
  .of_wp fun prog w A R s h => by
    obtain ⟨h0, g, d, tk, os⟩ := s
    obtain ⟨la, lb, lc, q⟩ := h
    have zz := sub_zip
    have lb2 := Heap.IsList.push lb { cls := .type "list_iterator", data := .fields #[.ref a, .int 0 0] }
    have lc2 := Heap.IsList.push (Heap.IsList.push lc { cls := .type "list_iterator", data := .fields #[.ref a, .int 0 0] }) { cls := .type "list_iterator", data := .fields #[.ref b, .int 0 0] }
    have la' : Heap.IsList (Shared.heap ⟨h0, g, d, tk, os⟩) a xs := la
    have lb' : Heap.IsList (Shared.heap ⟨h0.push { cls := .type "list_iterator", data := .fields #[.ref a, .int 0 0] }, g, d, tk, os⟩) b ys := lb2
    have lc' : Heap.IsList (Shared.heap ⟨(h0.push { cls := .type "list_iterator", data := .fields #[.ref a, .int 0 0] }).push { cls := .type "list_iterator", data := .fields #[.ref b, .int 0 0] }, g, d, tk, os⟩) c zs := lc2
    wp_walk using wpAny_pyIter_list la', wpAny_pyIter_list lb', wpAny_pyIter_list lc'
    have n1 : (h0.push { cls := .type "list_iterator", data := .fields #[.ref a, .int 0 0] }).objs.size = h0.objs.size + 1 := Heap.size_push ..
    have n2 : ((h0.push { cls := .type "list_iterator", data := .fields #[.ref a, .int 0 0] }).push { cls := .type "list_iterator", data := .fields #[.ref b, .int 0 0] }).objs.size = h0.objs.size + 2 := by rw [Heap.size_push, n1]
    refine ⟨_, rfl, ?_⟩
    simp only [Heap.size_push, List.map, Array.toList_push, List.append_assoc, Nat.add_assoc]
    have up : ∀ {h : Heap} {o : Obj} {k n : Nat}, h.objs.size = n + k → (h.push o).objs.size = n + (k + 1) := fun e => by rw [Heap.size_push, e]; omega
    refine q _ { i1 := ⟨_, got_up (got_up (got_up (got_up (got_up (at_push rfl))))), rfl, rfl⟩, i2 := ⟨_, got_up (got_up (got_up (got_up (at_push n1)))), rfl, rfl⟩, i3 := ⟨_, got_up (got_up (got_up (at_push n2))), rfl, rfl⟩, ti := got_up (got_up (at_push (up n2))), to := got_up (at_push (up (up n2))), z := at_push (up (up (up n2))), old := fun b o e => got_up (got_up (got_up (got_up (got_up (got_up e))))) }
section
variable {P : Program} {w : World} {A : Around} {E : Value → Shared → Prop} {s : Shared}
theorem zip3_call {a b c : Addr} {xs ys zs : Array Value} {Q : Value → Shared → Prop} (ha : s.heap.IsList a xs) (hb : s.heap.IsList b ys) (hc : s.heap.IsList c zs)
    (k : ∀ h2, Zipped s.heap h2 a b c → Q (.ref (s.heap.objs.size + 5)) { s with heap := h2 }) : wpAny (model P w) A (call (.type "zip") [.ref a, .ref b, .ref c]) Q E s :=
  callType_new F.called_zip (by decide) (zip3_typed ..) (zip3_new_ok ..) (fun o => obj_init_ok4 o ..) F.entry_zip_new (zip3_makes a b c xs ys zs) ⟨ha, hb, hc, fun h2 q => ⟨⟨_, q.z, rfl⟩, k h2 q⟩⟩
/-- a list's iterator from its k-th turn on -/
theorem drawsFrom (hh : A.handled = none) (it l : Addr) (ne : l ≠ it) (items : Array Value) (k : Nat) :
    Draws P w A it [it, l] (max k items.size) (fun i v => items[i]? = some v) (fun i h => h.IsListIter it l i ∧ h.IsList l items ∧ k ≤ i) where
  live := fun i h st => by
    obtain ⟨⟨o, ho, _⟩, _⟩ := st
    exact ⟨o, ho⟩
  frame := fun i h h2 st q => ⟨st.1.at fun o e => q it (by simp) o e, st.2.1.at fun o e => q l (by simp) o e, st.2.2⟩
  item := fun i s Q E lt st q => by
    have li : i < items.size := by
      have := st.2.2
      omega
    refine wpAny_nextOf_list_item st.1 st.2.1 (x := items[i]) (Array.getElem?_eq_getElem li) fun h2 mv same => ?_
    exact q _ h2 s.toks (Array.getElem?_eq_getElem li) ⟨mv, st.2.1.extBut same.extBut ne, Nat.le_succ_of_le st.2.2⟩ same
  done := fun s Q E st q => wpAny_nextOf_list_end hh st.1 st.2.1 (by simp; omega) q
end
theorem out2 {x p q : Addr} (h1 : x ≠ p) (h2 : x ≠ q) : x ∉ [p, q] := by
  simp only [List.mem_cons, List.not_mem_nil, or_false, not_or]
  exact ⟨h1, h2⟩
theorem sep3 (n a b c : Nat) (ha : a < n) (hb : b < n) (hc : c < n) : ZipSep3 (n + 5) (n + 3) (n + 4) n (n + 1) (n + 2) [n, a] [n + 1, b] [n + 2, c] := by
  have f : ∀ i j : Nat, i ≠ j → (n + i : Nat) ≠ n + j := by omega
  have lo : ∀ i x : Nat, x < n → (n + i : Nat) ≠ x := by omega
  have o : ∀ (i j x : Nat), i ≠ j → x < n → @Not ((n + i : Nat) ∈ ([n + j, x] : List Addr)) := fun i j x e l => out2 (f i j e) (lo i x l)
  exact ⟨ f 3 5 (by decide), f 4 5 (by decide), f 3 4 (by decide), f 3 0 (by decide), (List.mem_cons_self ..), o 5 0 a (by decide) ha, o 4 0 a (by decide) ha,
    f 3 1 (by decide), (List.mem_cons_self ..), o 5 1 b (by decide) hb, o 4 1 b (by decide) hb, f 3 2 (by decide), (List.mem_cons_self ..), o 5 2 c (by decide) hc, o 4 2 c (by decide) hc,
    o 0 1 b (by decide) hb, o 0 2 c (by decide) hc, o 1 0 a (by decide) ha, o 1 2 c (by decide) hc, o 2 0 a (by decide) ha, o 2 1 b (by decide) hb ⟩
/-- the three lists as they stand at each turn, the items in new tuples -/
def It3 (K : PySem.W.Frag) (a b c : Addr) : It where
  go := fun i H => ∃ xs ys zs : List V, SqL K H a xs ∧ SqL K H b ys ∧ SqL K H c zs ∧ i < xs.length ∧ i < ys.length ∧ i < zs.length
  yld := fun i H v H2 => ∃ (T : Addr) (x y z : V), v = .ref T ∧ H T = none ∧ H2 = upd H T (.tup [x, y, z]) ∧ (∀ l, SqL K H a l → l[i]? = some x) ∧ (∀ l, SqL K H b l → l[i]? = some y) ∧ ∀ l, SqL K H c l → l[i]? = some z
  stop := fun i H => ∃ xs ys zs : List V, SqL K H a xs ∧ SqL K H b ys ∧ SqL K H c zs ∧ (xs.length ≤ i ∨ ys.length ≤ i ∨ zs.length ≤ i)
theorem vals_back : ∀ {vs : List V} {us : List Value} {i : Nat} {u : Value}, Vals vs us → us[i]? = some u → ∃ v, RelV v u ∧ vs[i]? = some v
  | _, _, i, u, .nil, h => by cases i <;> cases h
  | _, _, 0, u, .cons r t, h => ⟨_, by cases h; exact r, rfl⟩
  | _, _, i + 1, u, .cons r t, h => vals_back (i := i) t h
def tn3 (n a b c : Nat) (i : Nat) (h : Heap) : Prop := IsZip h (n + 5) (n + 3) (n + 4) .none ∧ IsTupOf3 h (n + 3) (.ref n) (.ref (n + 1)) (.ref (n + 2)) ∧ (∃ x y z, IsTupOf3 h (n + 4) x y z) ∧ h.IsListIter n a i ∧ h.IsListIter (n + 1) b i ∧ h.IsListIter (n + 2) c i
def fp3 (n : Nat) : List Addr := [n + 5, n + 3, n + 4, n, n + 1, n + 2]
theorem fp3_cases {n : Nat} {p : Addr → Prop} (h0 : p n) (h1 : p (n + 1)) (h2 : p (n + 2)) (h3 : p (n + 3)) (h4 : p (n + 4)) (h5 : p (n + 5)) : ∀ b ∈ fp3 n, p b := by
  simp only [fp3, List.forall_mem_cons]
  exact ⟨h5, h3, h4, h0, h1, h2, fun b z => nomatch z⟩
theorem not_fp3 {n b : Nat} (h : b ∉ fp3 n) : b ≠ n + 5 ∧ b ≠ n + 4 ∧ b ≠ n ∧ b ≠ n + 1 ∧ b ≠ n + 2 := by
  simp only [fp3, List.mem_cons, List.not_mem_nil, or_false, not_or] at h
  exact ⟨h.1, h.2.2.1, h.2.2.2.1, h.2.2.2.2.1, h.2.2.2.2.2⟩
theorem tn3_at {n a b c i : Nat} {h h2 : Heap} (st : tn3 n a b c i h) (k : ∀ x ∈ fp3 n, ∀ o, h.get? x = some o → h2.get? x = some o) : tn3 n a b c i h2 := by
  obtain ⟨hz, ti, ⟨x, y, z, to⟩, j1, j2, j3⟩ := st
  have m : ∀ q, q ∈ fp3 n → ∀ o, h.get? q = some o → h2.get? q = some o := k
  exact ⟨m _ (by simp [fp3]) _ hz, m _ (by simp [fp3]) _ ti, ⟨x, y, z, m _ (by simp [fp3]) _ to⟩, j1.at fun o e => m _ (by simp [fp3]) o e, j2.at fun o e => m _ (by simp [fp3]) o e, j3.at fun o e => m _ (by simp [fp3]) o e⟩
theorem tn3_obj {n a b c i : Nat} {h : Heap} (st : tn3 n a b c i h) : ∀ b ∈ fp3 n, ∃ o, h.get? b = some o ∧ ∀ v, o.data ≠ .cell v := by
  obtain ⟨hz, ti, ⟨x, y, z, to⟩, ⟨o1, e1, _, d1⟩, ⟨o2, e2, _, d2⟩, ⟨o3, e3, _, d3⟩⟩ := st
  refine fp3_cases ⟨o1, e1, fun v q => ?_⟩ ⟨o2, e2, fun v q => ?_⟩ ⟨o3, e3, fun v q => ?_⟩ ⟨_, ti, fun v q => nomatch q⟩ ⟨_, to, fun v q => nomatch q⟩ ⟨_, hz, fun v q => nomatch q⟩
  · rw [d1] at q; cases q
  · rw [d2] at q; cases q
  · rw [d3] at q; cases q
theorem turn3 {P : Program} {w : World} {K : PySem.W.Frag} {elts : List Expr} {kk : Nat} {tpos : Pos} {n a b c : Nat} (ha : a < n) (hb : b < n) (hc : c < n) : Turn P w K (.Tuple elts kk tpos) (It3 K a b c) (fp3 n) (n + 5) (tn3 n a b c) where
  mem := by simp [fp3]
  obj := fun i h st => tn3_obj st
  keep := fun i h h2 st k => tn3_at st k
  item := by
    intro X hP hw hK calm i pins s σ H E I hf st hg
    subst hP hw hK
    have live := tn3_obj st
    obtain ⟨hz, ti, ⟨x0, y0, z0, to⟩, j1, j2, j3⟩ := st
    obtain ⟨xs, ys, zs, q1, q2, q3, l1, l2, l3⟩ := hg
    obtain ⟨u1, r1, p1, _⟩ := I.list q1
    obtain ⟨u2, r2, p2, _⟩ := I.list q2
    obtain ⟨u3, r3, p3, _⟩ := I.list q3
    have hh : X.A.in1.handled = none := I.ok.hd calm
    have ea := r1.length
    have eb := r2.length
    have ec := r3.length
    have S := sep3 n a b c ha hb hc
    refine wpAny_pyNext_zipD3_item S (drawsFrom hh n a (Nat.ne_of_lt ha) u1.toArray i) (drawsFrom hh (n + 1) b (Nat.ne_of_lt (Nat.lt_succ_of_lt hb)) u2.toArray i) (drawsFrom hh (n + 2) c (Nat.ne_of_lt (Nat.lt_succ_of_lt (Nat.lt_succ_of_lt hc))) u3.toArray i)
      hz ti to ⟨j1, p1.isList, Nat.le_refl i⟩ ⟨j2, p2.isList, Nat.le_refl i⟩ ⟨j3, p3.isList, Nat.le_refl i⟩ (by simp; omega) (by simp; omega) (by simp; omega) fun v1 v2 v3 h2 tk e1 e2 e3 hz2 to2 s1 s2 s3 new _ old => ?_
    have size : s.heap.objs.size ≠ n + 5 := Nat.ne_of_gt (Heap.lt_size hz)
    refine ⟨_, rfl, wpAny_letOwnedTupleGo_zip (s := { s with heap := h2, toks := tk }) hz2 fun h3 hz3 same => ?_⟩
    obtain ⟨x, rx, gx⟩ := vals_back r1 (by simpa using e1)
    obtain ⟨y, ry, gy⟩ := vals_back r2 (by simpa using e2)
    obtain ⟨z, rz, gz⟩ := vals_back r3 (by simpa using e3)
    have made : ObjOk X.prog X.w (upd H s.heap.objs.size (.tup [x, y, z])) h3 s.heap.objs.size (.tup [x, y, z]) :=
      ⟨by show 3 ≤ sizeLine; decide, [v1, v2, v3], .cons rx (.cons ry (.cons rz .nil)), ⟨_, (same.2 _ size).trans new, rfl, _, rfl⟩⟩
    have I2 := I.turnedNew (t' := tk) (ch := fp3 n) (fun b o hb e => by
      obtain ⟨n5, n4, n0, n1, n2⟩ := not_fp3 hb
      exact (same.2 b n5).trans (old b o n5 n4 n0 n1 n2 e)) hf (Nat.le_refl _) made
    refine ⟨.ref s.heap.objs.size, _, I2, rfl, ⟨_, x, y, z, rfl, I.hok.fresh (Nat.le_refl _), rfl, fun l hl => ?_, fun l hl => ?_, fun l hl => ?_⟩, ⟨hz3, ?_, ⟨v1, v2, v3, ?_⟩, ?_, ?_, ?_⟩, fun b hb => ?_⟩
    · rw [I.list_inj hl q1]; exact gx
    · rw [I.list_inj hl q2]; exact gy
    · rw [I.list_inj hl q3]; exact gz
    · exact (same.2 _ S.TIz).trans (old _ _ S.TIz S.TITO S.TIi1 S.TIi2 S.TIi3 ti)
    · exact (same.2 _ S.TOz).trans to2
    · exact s1.1.at fun o q => (same.2 _ (Ne.symm S.zi1)).trans q
    · exact s2.1.at fun o q => (same.2 _ (Ne.symm S.zi2)).trans q
    · exact s3.1.at fun o q => (same.2 _ (Ne.symm S.zi3)).trans q
    · obtain ⟨o, e, _⟩ := live b hb
      rw [upd_ne (Nat.ne_of_lt (Heap.lt_size e))]
      exact (hf b hb).1
  done := by
    intro X hP hw hK calm i pins s σ H E I hf st hg
    subst hP hw hK
    obtain ⟨hz, ti, ⟨x0, y0, z0, to⟩, j1, j2, j3⟩ := st
    obtain ⟨xs, ys, zs, q1, q2, q3, en⟩ := hg
    obtain ⟨u1, r1, p1, _⟩ := I.list q1
    obtain ⟨u2, r2, p2, _⟩ := I.list q2
    obtain ⟨u3, r3, p3, _⟩ := I.list q3
    have hh : X.A.in1.handled = none := I.ok.hd calm
    have ea := r1.length
    have eb := r2.length
    have ec := r3.length
    have S := sep3 n a b c ha hb hc
    refine wpAny_pyNext_zipD3_end S (drawsFrom hh n a (Nat.ne_of_lt ha) u1.toArray i) (drawsFrom hh (n + 1) b (Nat.ne_of_lt (Nat.lt_succ_of_lt hb)) u2.toArray i) (drawsFrom hh (n + 2) c (Nat.ne_of_lt (Nat.lt_succ_of_lt (Nat.lt_succ_of_lt hc))) u3.toArray i)
      hz ti to ⟨j1, p1.isList, Nat.le_refl i⟩ ⟨j2, p2.isList, Nat.le_refl i⟩ ⟨j3, p3.isList, Nat.le_refl i⟩ (by simp; omega) (by simp; omega) (by simp; omega) (by simp; omega) fun h2 tk old => ⟨rfl, ?_⟩
    refine I.turnedL (t' := tk) (ch := fp3 n) (fun x o hx e => ?_) hf
    obtain ⟨n5, n4, n0, n1, n2⟩ := not_fp3 hx
    exact old x o n5 n4 n0 n1 n2 e
  self := fun A i s Q E st h => wpAny_pyIter_zip st.1 h
def iZip3 (K : PySem.W.Frag) (ta : TA) : TI := fun σ H R => ta σ H fun vs H1 => ∃ (a b c : Addr) (xs ys zs : List V), vs = [.ref a, .ref b, .ref c] ∧ SqL K H1 a xs ∧ SqL K H1 b ys ∧ SqL K H1 c zs ∧ R (It3 K a b c) H1
theorem pi_zip3 {X : Cx} {e f g : Expr} {ta : TA} {p pos tpos : Pos} {elts : List Expr} {kk : Nat} (hg : Gl X "zip") (hm : X.mg "zip" = none) (ha : PA X [e, f, g] ta)
    (hs : starEach [e, f, g] X.env = (false, eval e X.env) :: starEach [f, g] X.env := by rfl) (hpl : (backTo pos (starEach [f, g] X.env)).any (·.1) = false := by rfl) :
    PI X (.Tuple elts kk tpos) (.Call (.Name "zip" p) [e, f, g] [] pos) (iZip3 X.K ta) := by
  refine ⟨fun pins s σ H R I h => ?_⟩
  refine Call_ (ld_blt I hg hm PyProof.Rows.boot_zip (PyProof.Rows.callWith_type1 (thn (ha.run pos pins s σ H _ I h) fun us s1 ⟨vs, H1, I1, r1, q1⟩ => ?_) hs hpl))
  obtain ⟨a, b, c, xs, ys, zs, rfl, q1, q2, q3, q⟩ := q1
  obtain ⟨w1, w2, w3, rfl⟩ : ∃ w1 w2 w3, us = [w1, w2, w3] := by
    cases r1 with
    | cons _ t => cases t with
      | cons _ t => cases t with
        | cons _ t => cases t; exact ⟨_, _, _, rfl⟩
  have ref : w1 = .ref a ∧ w2 = .ref b ∧ w3 = .ref c := by
    cases r1 with
    | cons ra t => cases t with
      | cons rb t => cases t with
        | cons rc t => exact ⟨ra, rb, rc⟩
  obtain ⟨rfl, rfl, rfl⟩ := ref
  obtain ⟨_, _, p1, _⟩ := I1.list q1
  obtain ⟨_, _, p2, _⟩ := I1.list q2
  obtain ⟨_, _, p3, _⟩ := I1.list q3
  refine zip3_call p1.isList p2.isList p3.isList fun h2 Z => wpAny_pyIter_zip Z.z ?_
  have I2 : Inv X pins σ H1 { s1 with heap := h2 } := I1.kept (t' := s1.toks) Z.old
  have le : ∀ j, s1.heap.objs.size ≤ s1.heap.objs.size + j := fun j => Nat.le_add_right _ _
  have fp : ∀ j, FpOk X pins H1 (s1.heap.objs.size + j) := fun j => I1.fpOk (le j) (I1.hok.fresh (le j))
  exact ⟨s1.heap.objs.size + 5, fp3 s1.heap.objs.size, _, _, H1, rfl, I2, turn3 p1.lt p2.lt p3.lt, ⟨Z.z, Z.ti, ⟨_, _, _, Z.to⟩, Z.i1, Z.i2, Z.i3⟩, fp3_cases (fp 0) (fp 1) (fp 2) (fp 3) (fp 4) (fp 5), q⟩
def dIZ3 (da : DA) (γ : Env) (r : Nat → (Nat → D → Prop) → Env → Prop) : Prop := da γ fun rs γ1 => allV rs ∧ match rs.map RS.data with
  | [.lst xs, .lst ys, .lst zs] => r (min (min xs.length ys.length) zs.length) (fun i d => ∃ x y z, xs[i]? = some x ∧ ys[i]? = some y ∧ zs[i]? = some z ∧ d = .tup [x, y, z]) γ1
  | _ => False
theorem lst3 {K : KZ} {F : Hp} {vs : List V} {xs ys zs : List D} (h : RpAll K F vs [.lst xs, .lst ys, .lst zs]) : ∃ a b c va vb vc, vs = [.ref a, .ref b, .ref c] ∧ (F a = some (.lst va) ∧ RpAll K F va xs) ∧ (F b = some (.lst vb) ∧ RpAll K F vb ys) ∧ F c = some (.lst vc) ∧ RpAll K F vc zs := by
  cases h with
  | cons r1 t => cases t with
    | cons r2 t => cases t with
      | cons r3 t =>
        cases t
        cases r1 with
        | lst ha ra => cases r2 with
          | lst hb rb => cases r3 with
            | lst hc rc => exact ⟨_, _, _, _, _, _, rfl, ⟨ha, ra⟩, ⟨hb, rb⟩, hc, rc⟩
theorem si_zip3 {K : PySem.W.Frag} {B : Bs} {ta : TA} {da : DA} (h : SA K B ta da) : SI K B (iZip3 K ta) (dIZ3 da) := fun F H σ γ W r R hq k => by
  refine h F H σ γ _ _ R hq fun vs F1 H1 γ1 rs R1 e1 o1 ⟨hv, h1⟩ => ?_
  split at h1
  · rename_i xs ys zs es
    have ra := allV_rp o1 hv
    rw [es] at ra
    obtain ⟨a, b, c, va, vb, vc, rfl, ⟨ha, sa⟩, ⟨hb, sb⟩, hc, sc⟩ := lst3 ra
    have q : ∀ {F2 H2 : Hp} {x : Addr} {l : List V}, Ex F1 F2 → Ex F2 H2 → F1 x = some (.lst l) → SqL K H2 x l := fun p q e => sq_inj_lst (p.trans q) e
    have la := sa.length
    have lb := sb.length
    have lc := sc.length
    refine ⟨a, b, c, _, _, _, rfl, q (Evl.Ex.refl _) R1.fh ha, q (Evl.Ex.refl _) R1.fh hb, q (Evl.Ex.refl _) R1.fh hc, k _ F1 H1 γ1 _ _ R1 e1 { go := fun B F H σ γ i R e hi => ?_, yl := fun B F H σ γ i x H' R e hi hy hz => ?_, st := fun B F H σ γ i R e hi => ?_ } h1⟩
    · exact ⟨_, _, _, q e R.fh ha, q e R.fh hb, q e R.fh hc, by omega, by omega, by omega⟩
    · obtain ⟨T, x1, x2, x3, rfl, hT, rfl, f1, f2, f3⟩ := hy
      obtain ⟨d1, g1, s1⟩ := P_getL sa.p (f1 va (q e R.fh ha))
      obtain ⟨d2, g2, s2⟩ := P_getL sb.p (f2 vb (q e R.fh hb))
      obtain ⟨d3, g3, s3⟩ := P_getL sc.p (f3 vc (q e R.fh hc))
      obtain ⟨R', ex, rp⟩ := R.newT hT (.cons ((s1.mono e).zz hz) (.cons ((s2.mono e).zz hz) (.cons ((s3.mono e).zz hz) .nil)))
      exact ⟨_, _, R', ex, rp, d1, d2, d3, g1, g2, g3, rfl⟩
    · exact ⟨_, _, _, q e R.fh ha, q e R.fh hb, q e R.fh hc, by omega⟩
  · exact h1.elim
theorem i_zip3 {X : Cx} {B : Bs} {a b c : Expr} {ta : TA} {da : DA} {p pos tpos : Pos} {elts : List Expr} {kk : Nat} (hm : X.mg "zip" = none) (h : XA X B [a, b, c] ta da) (hg : Gl X "zip" := by rfl)
    (hs : starEach [a, b, c] X.env = (false, eval a X.env) :: starEach [b, c] X.env := by rfl) (hpl : (backTo pos (starEach [b, c] X.env)).any (·.1) = false := by rfl) :
    XI X B (.Tuple elts kk tpos) (.Call (.Name "zip" p) [a, b, c] [] pos) (iZip3 X.K ta) (dIZ3 da) := ⟨pi_zip3 hg hm h.pa hs hpl, si_zip3 h.sa⟩
end DL

set_option Elab.async false
set_option linter.all false
set_option maxRecDepth 100000
set_option maxHeartbeats 4000000
namespace DL
open PySem PySem.Spec PyProof.Rows L2 PySem.F
open Evl (Ex ex_l ex_t)
/-! list(zip(xs, ys)) of two lists: one list of new pairs -/
/-- pairs laid one behind the other: address, left, right -/
def tups (H : Hp) : List (Addr × V × V) → Hp
  | [] => H
  | t :: L => tups (upd H t.1 (.tup [t.2.1, t.2.2])) L
def tupsNew (H : Hp) : List (Addr × V × V) → Prop
  | [] => True
  | t :: L => H t.1 = none ∧ tupsNew (upd H t.1 (.tup [t.2.1, t.2.2])) L
theorem tups_snoc : ∀ {L : List (Addr × V × V)} {H : Hp} {t : Addr × V × V}, tups H (L ++ [t]) = upd (tups H L) t.1 (.tup [t.2.1, t.2.2])
  | [], _, _ => rfl
  | u :: L, H, t => tups_snoc (L := L) (H := upd H u.1 (.tup [u.2.1, u.2.2]))
theorem tupsNew_snoc : ∀ {L : List (Addr × V × V)} {H : Hp} {t : Addr × V × V}, tupsNew H L → tups H L t.1 = none → tupsNew H (L ++ [t])
  | [], _, _, _, h => ⟨h, trivial⟩
  | u :: L, H, t, ⟨h1, h2⟩, h => ⟨h1, tupsNew_snoc (L := L) h2 h⟩
theorem tups_ex : ∀ {L : List (Addr × V × V)} {H : Hp}, tupsNew H L → Ex H (tups H L)
  | [], H, _ => Evl.Ex.refl H
  | u :: L, H, ⟨h1, h2⟩ => (Ex.new h1).trans (tups_ex h2)
/-- the list at S under way -/
def lzH (H : Hp) (S : Addr) (L : List (Addr × V × V)) : Hp := upd (tups H L) S (.lst (L.map fun t => V.ref t.1))
theorem lzH_snoc {H : Hp} {S : Addr} {L : List (Addr × V × V)} {t : Addr × V × V} (ne : t.1 ≠ S) : upd (upd (lzH H S L) t.1 (.tup [t.2.1, t.2.2])) S (.lst ((L ++ [t]).map fun t => V.ref t.1)) = lzH H S (L ++ [t]) := by
  unfold lzH
  rw [tups_snoc]
  funext a
  by_cases e : a = S
  · subst e
    rw [upd_same, upd_same]
  · rw [upd_ne e, upd_ne e]
    by_cases f : a = t.1
    · subst f
      rw [upd_same, upd_same]
    · rw [upd_ne f, upd_ne f, upd_ne e]
/-- the zip between two turns: as new, or with a pair that is still held -/
def zipAt (z TI TO i1 i2 S : Addr) (h : Heap) : Prop := (IsZip h z TI TO .none ∧ ∃ x y, IsPair h TO x y) ∨ ∃ T f o, IsZipHeld h z TI TO T f ∧ h.get? T = some o ∧ T ≠ z ∧ T ≠ i1 ∧ T ≠ i2 ∧ T ≠ S
section
variable {X : Cx} {pins : List (Addr × Obj)} {σ : L2.St} {H : Hp} {z TI TO i1 i2 S a b : Addr} {xs ys : List V}
theorem lz_loop {A : Around} {R : Result → Shared → Prop} (D : ZipApart z TI TO i1 i2 a b) (hh : A.handled = none) (hS : S ≠ z ∧ S ≠ TI ∧ S ≠ TO ∧ S ≠ i1 ∧ S ≠ i2 ∧ H S = none)
    (qa : SqL X.K H a xs) (qb : SqL X.K H b ys) (few : xs.length ≤ 4000) :
    ∀ (k : Nat) (L : List (Addr × V × V)) (s : Shared), min xs.length ys.length - L.length = k → Inv X pins σ (lzH H S L) s → (∀ c ∈ [z, TO, i1, i2], FpOk X pins (lzH H S L) c) →
      (L.map (·.2) = (xs.zip ys).take L.length ∧ L.length ≤ min xs.length ys.length) → (tupsNew H L ∧ tups H L S = none) → (IsPair s.heap TI (.ref i1) (.ref i2) ∧ s.heap.IsListIter i1 a L.length ∧ s.heap.IsListIter i2 b L.length ∧ zipAt z TI TO i1 i2 S s.heap) → (∀ c ∈ [z, TO, i1, i2, S], c < s.heap.objs.size) →
      (∀ L2 s2, Inv X pins σ (lzH H S L2) s2 → L2.map (·.2) = xs.zip ys → tupsNew H L2 → tups H L2 S = none → R (.ok (.ret .none)) s2) →
      codeAny (model X.prog X.w) A (.builtin "list.extend.loop" ⟨[.ref S, .ref z, .none], []⟩) R s := by
  intro k
  induction k with
  | zero =>
    intro L s hk I hf hL hN hz lt kk
    obtain ⟨hLm, hLl⟩ := hL
    obtain ⟨hti, j1, j2, hza⟩ := hz
    have ex : Ex H (lzH H S L) := (tups_ex hN.1).trans (Ex.new hN.2)
    obtain ⟨us, r1, p1, _⟩ := I.list (ex_l ex qa)
    obtain ⟨ws, r2, p2, _⟩ := I.list (ex_l ex qb)
    have e1 := r1.length
    have e2 := r2.length
    refine codeAny_builtin F.entry_extend_loop ?_
    rw [Around.under_plainId F.plain_extend_loop _]
    show wpAny _ A.in1 (pyNext (.ref z) >>= _) _ _ s
    have fin : ∀ h2, (∀ c o, c ≠ z → c ≠ TO → c ≠ i1 → c ≠ i2 → s.heap.get? c = some o → h2.get? c = some o) → R (.ok (.ret .none)) { s with heap := h2 } := fun h2 old => by
      have I2 := I.turnedL (t' := s.toks) (h' := h2) (ch := [z, TO, i1, i2]) (fun c o hc e => old c o (fun q => hc (by simp [q])) (fun q => hc (by simp [q])) (fun q => hc (by simp [q])) (fun q => hc (by simp [q])) e) hf
      refine kk L _ I2 ?_ hN.1 hN.2
      rw [hLm]
      refine List.take_of_length_le ?_
      rw [List.length_zip]
      omega
    have en : us.toArray[L.length]? = none ∨ ws.toArray[L.length]? = none := by
      by_cases c : xs.length ≤ L.length
      · exact .inl (by simp; omega)
      · exact .inr (by simp; omega)
    refine wpAny_bind ?_
    rcases hza with ⟨hz, x, y, hto⟩ | ⟨T, f, o, hz, hT, t1, t2, t3, t4⟩
    · exact wpAny_pyNext_zip_end hh D hz hti hto j1 j2 p1.isList p2.isList en fun h2 old => wpAny_pure (fin h2 old)
    · exact wpAny_pyNext_zip_end_held hh D hz hT hti j1 j2 p1.isList p2.isList en fun h2 old => wpAny_pure (fin h2 fun c o c1 _ c3 c4 e => old c o c1 c3 c4 e)
  | succ k ih =>
    intro L s hk I hf hL hN hz lt kk
    obtain ⟨hLm, hLl⟩ := hL
    obtain ⟨hti, j1, j2, hza⟩ := hz
    have ex : Ex H (lzH H S L) := (tups_ex hN.1).trans (Ex.new hN.2)
    obtain ⟨us, r1, p1, _⟩ := I.list (ex_l ex qa)
    obtain ⟨ws, r2, p2, _⟩ := I.list (ex_l ex qb)
    have e1 := r1.length
    have e2 := r2.length
    have l1 : L.length < xs.length := by omega
    have l2 : L.length < ys.length := by omega
    obtain ⟨u, gu, ru⟩ := r1.get (List.getElem?_eq_getElem l1)
    obtain ⟨v, gv, rv⟩ := r2.get (List.getElem?_eq_getElem l2)
    refine codeAny_builtin F.entry_extend_loop ?_
    rw [Around.under_plainId F.plain_extend_loop _]
    show wpAny _ A.in1 (pyNext (.ref z) >>= _) _ _ s
    refine wpAny_bind ?_
    have go : ∀ h2, zipAt z TI TO i1 i2 S h2 → h2.IsListIter i1 a (L.length + 1) → h2.IsListIter i2 b (L.length + 1) → IsPair h2 s.heap.objs.size u v → IsPair h2 TI (.ref i1) (.ref i2) → h2.objs.size = s.heap.objs.size + 1 →
        (∀ c o, c ≠ z → c ≠ TO → c ≠ i1 → c ≠ i2 → s.heap.get? c = some o → h2.get? c = some o) →
        wpAny (model X.prog X.w) A.in1 (updateSeq S (·.push (.ref s.heap.objs.size)) >>= fun _ => again (.builtin "list.extend.loop" ⟨[.ref S, .ref z, .none], []⟩))
          (fun fin s' => match fin with | .done f => R (.ok f) s' | .again c' => c'.quiet = true ∧ codeAny (model X.prog X.w) A c' R s') (fun e s' => R (.error e) s') { s with heap := h2 } := by
      intro h2 zz k1 k2 pr ti big old
      have nS : s.heap.objs.size ≠ S := Nat.ne_of_gt (lt S (by simp))
      obtain ⟨t, et⟩ : ∃ t : Addr × V × V, t = (s.heap.objs.size, xs[L.length], ys[L.length]) := ⟨_, rfl⟩
      have I2 := I.turnedNew (t' := s.toks) (h' := h2) (ob := .tup [xs[L.length], ys[L.length]]) (ch := [z, TO, i1, i2]) (fun c o hc e => old c o (fun q => hc (by simp [q])) (fun q => hc (by simp [q])) (fun q => hc (by simp [q])) (fun q => hc (by simp [q])) e) hf (Nat.le_refl _)
        ⟨by show 2 ≤ sizeLine; decide, [u, v], .cons ru (.cons rv .nil), ⟨_, pr, rfl, _, rfl⟩⟩
      have hS2 : upd (lzH H S L) s.heap.objs.size (.tup [xs[L.length], ys[L.length]]) S = some (.lst (L.map fun t => V.ref t.1)) := by rw [upd_ne (Ne.symm nS)]; exact upd_same
      obtain ⟨_, its, n, rl, ll, eS⟩ := I2.lstM hS2
      rw [List.length_map] at ll
      have fit : L.length + 1 ≤ sizeLine := by rw [sizeLine_eq]; omega
      have I3 := I2.lset (its' := its ++ [.ref s.heap.objs.size]) (ys := (L ++ [t]).map fun t => V.ref t.1) (f := (·.push (.ref s.heap.objs.size))) (t' := s.toks) hS2 eS (by simp) (by rw [List.map_append]; exact rl.append (.cons (by rw [et]; rfl) .nil)) (by rw [List.length_map, List.length_append]; exact fit)
      have eh : upd (upd (lzH H S L) s.heap.objs.size (.tup [xs[L.length], ys[L.length]])) S (.lst ((L ++ [t]).map fun t => V.ref t.1)) = lzH H S (L ++ [t]) := by
        have q := lzH_snoc (H := H) (S := S) (L := L) (t := t) (by rw [et]; exact nS)
        rw [← q, et]
      rw [eh] at I3
      have ln : (L ++ [t]).length = L.length + 1 := by simp
      have new0 : tups H L s.heap.objs.size = none := by
        have q := I.hok.fresh (Nat.le_refl _)
        unfold lzH at q
        rwa [upd_ne nS] at q
      have at2 : ∀ {c o}, c ≠ S → h2.get? c = some o → (h2.update S (Obj.mapSeq (·.push (.ref s.heap.objs.size)))).get? c = some o := fun ne e => (Heap.get?_update_other _ _ (Ne.symm ne)).trans e
      refine wpAny_bind (wpAny_updateSeq eS rfl ?_ (by simp; omega) (by simp; omega))
      refine wpAny_pure ⟨plainId_quiet F.plain_extend_loop _, ih (L ++ [t]) _ (by rw [ln]; omega) I3 ?_ ⟨?_, by rw [ln]; omega⟩ ⟨tupsNew_snoc hN.1 (by rw [et]; exact new0), ?_⟩ ⟨at2 (Ne.symm hS.2.1) ti, ?_, ?_, ?_⟩ ?_ kk⟩
      · intro c hc
        have q := hf c hc
        refine ⟨?_, q.2⟩
        have cS : c ≠ S := by
          simp only [List.mem_cons, List.not_mem_nil, or_false] at hc
          rcases hc with rfl | rfl | rfl | rfl
          · exact Ne.symm hS.1
          · exact Ne.symm hS.2.2.1
          · exact Ne.symm hS.2.2.2.1
          · exact Ne.symm hS.2.2.2.2.1
        have cT : c ≠ s.heap.objs.size := Nat.ne_of_lt (lt c (by simp only [List.mem_cons, List.not_mem_nil, or_false] at hc ⊢; rcases hc with q | q | q | q <;> simp [q]))
        have q1 := q.1
        rw [← eh, upd_ne cS, upd_ne cT]
        exact q1
      · rw [List.map_append, hLm, ln, List.take_add_one, List.getElem?_eq_getElem (by rw [List.length_zip]; omega), List.getElem_zip]
        have e2 : t.2 = (xs[L.length], ys[L.length]) := by rw [et]
        exact congrArg (fun p => List.take L.length (xs.zip ys) ++ [p]) e2
      · rw [tups_snoc, et, upd_ne (Ne.symm nS)]
        exact hN.2
      · rw [ln]; exact k1.at fun o e => at2 (Ne.symm hS.2.2.2.1) e
      · rw [ln]; exact k2.at fun o e => at2 (Ne.symm hS.2.2.2.2.1) e
      · rcases zz with ⟨hz, x, y, hto⟩ | ⟨T, f, o, hz, hT, t1, t2, t3, t4⟩
        · exact .inl ⟨at2 (Ne.symm hS.1) hz, x, y, at2 (Ne.symm hS.2.2.1) hto⟩
        · exact .inr ⟨T, f, o, at2 (Ne.symm hS.1) hz, at2 t4 hT, t1, t2, t3, t4⟩
      · intro c hc
        show c < (h2.update S _).objs.size
        rw [Heap.size_after_update, big]
        exact Nat.lt_succ_of_lt (lt c hc)
    rcases hza with ⟨hz, x, y, hto⟩ | ⟨T, f, o, hz, hT, t1, t2, t3, t4⟩
    · refine wpAny_pyNext_zip_item D hz hti hto j1 j2 p1.isList p2.isList (x := u) (y := v) (by simpa using gu) (by simpa using gv) fun h2 a1 a2 a3 a4 a5 a6 old => ?_
      exact go h2 (.inr ⟨_, false, _, a1, a5, Nat.ne_of_gt (lt z (by simp)), Nat.ne_of_gt (lt i1 (by simp)), Nat.ne_of_gt (lt i2 (by simp)), Nat.ne_of_gt (lt S (by simp))⟩) a3 a4 a5 (old _ _ D.TIz D.TITO D.TIi1 D.TIi2 hti) a6 old
    · refine wpAny_pyNext_zip_item_held D hz hT hti j1 j2 p1.isList p2.isList (x := u) (y := v) (by simpa using gu) (by simpa using gv) fun h2 a1 a3 a4 a5 a6 old => ?_
      exact go h2 (.inr ⟨T, true, o, a1, old _ _ t1 t2 t3 hT, t1, t2, t3, t4⟩) a3 a4 a5 (old _ _ D.TIz D.TIi1 D.TIi2 hti) a6 fun c o c1 _ c3 c4 e => old c o c1 c3 c4 e
end
theorem zip_no_len : typeLookup (.type "zip") "__len__" = pure none := am_miss_of_fast (by decide +kernel)
theorem zip_no_hint : typeLookup (.type "zip") "__length_hint__" = pure none := am_miss_of_fast (by decide +kernel)
section
variable {P : Program} {w : World} {A : Around} {s : Shared}
theorem init_zip {R : Result → Shared → Prop} {S z : Addr} {c0 : Nat} (ne : S ≠ z) (hS : s.heap.get? S = some { cls := .type "list", data := .seq #[] c0 }) (hz : s.TypeIs (.ref z) "zip")
    (self : ∀ (t : Shared) (Q : Value → Shared → Prop) (E : Value → Shared → Prop), (∀ b o, b ≠ S → s.heap.get? b = some o → t.heap.get? b = some o) → Q (.ref z) t → wpAny (model P w) A.in1 (pyIter (.ref z)) Q E t)
    (k : ∀ h3 c, (∀ b o, b ≠ S → s.heap.get? b = some o → h3.get? b = some o) → h3.get? S = some { cls := .type "list", data := .seq #[] c } → h3.objs.size = s.heap.objs.size →
      codeAny (model P w) A (.builtin "list.extend.loop" ⟨[.ref S, .ref z, .none], []⟩) R { s with heap := h3 }) :
    wpAny (model P w) A.in1 (Builtin.«list.__init__» ⟨[.ref S, .ref z], []⟩)
      (fun fin s' => match fin with | .done f => R (.ok f) s' | .again c' => c'.quiet = true ∧ codeAny (model P w) A c' R s') (fun e s' => R (.error e) s') s := by
  have up1 := Heap.get?_update_self (Obj.mapSeq (fun _ => (#[] : Array Value))) hS rfl
  have other : ∀ {h : Heap} {f : Obj → Obj} {b : Addr} {o : Obj}, b ≠ S → h.get? b = some o → (h.update S f).get? b = some o := fun ne e => (Heap.get?_update_other _ _ (Ne.symm ne)).trans e
  have hz1 : (⟨s.heap.update S (Obj.mapSeq (fun _ => (#[] : Array Value))), s.gens, s.drawn, s.toks, s.os⟩ : Shared).TypeIs (.ref z) "zip" := by
    obtain ⟨o, e, q⟩ := hz
    exact ⟨o, other (Ne.symm ne) e, q⟩
  have same : Builtin.List.listSameRef (.ref S) (.ref z) = false := by simp [Builtin.List.listSameRef, ne]
  have c1 : (Value.type "zip" == Value.type "list") = false := by decide
  have c2 : (Value.type "zip" == Value.type "tuple") = false := by decide
  show wpAny _ A.in1 (do let old ← Builtin.List.listItems (.ref S); Builtin.List.listUpdate (.ref S) (fun _ => #[]); letGo old.toList.reverse; Builtin.List.listExtendWith (.ref S) (.ref z) .none) _ _ s
  have n1 := zip_no_len
  have n2 := zip_no_hint
  have room : ∀ g : Bool, (true || g) = true := fun _ => rfl
  unfold Builtin.List.listItems Builtin.List.listExtendWith
  generalize hp : pyIter = walk
  repeat (any_goals (first | assumption | wp_step))
  subst hp
  refine self _ _ _ (fun b o ne e => other ne e) ?_
  repeat (any_goals (first | assumption | wp_step))
  have up2 := Heap.get?_update_self (Obj.mapSeq (·.push Value.none)) up1 rfl
  have up3 := Heap.get?_update_self (Obj.mapSeq (·.pop)) up2 rfl
  exact ⟨plainId_quiet F.plain_extend_loop _, k _ _ (fun b o ne e => other ne (other ne (other ne e))) up3 (by rw [Heap.size_after_update, Heap.size_after_update, Heap.size_after_update])⟩
end
/-- what list(zip(xs, ys)) leaves: new pairs and a new list of them -/
def rLZ (K : PySem.W.Frag) : List V → Hp → VK → Prop := fun vs H Q => ∃ (a b : Addr) (xs ys : List V), vs = [.ref a, .ref b] ∧ SqL K H a xs ∧ SqL K H b ys ∧ xs.length ≤ 4000 ∧
  ∀ (L : List (Addr × V × V)) (S : Addr), L.map (·.2) = xs.zip ys → tupsNew H L → tups H L S = none → Q (.ref S) (lzH H S L)
section
variable {X : Cx} {pins : List (Addr × Obj)} {σ : L2.St} {H : Hp} {s : Shared}
theorem call_lz {a b : Addr} {xs ys : List V} {Q : VK} {E : Value → Shared → Prop} (hh : X.A.handled = none) (I : Inv X pins σ H s) (qa : SqL X.K H a xs) (qb : SqL X.K H b ys) (few : xs.length ≤ 4000)
    (k : ∀ (L : List (Addr × V × V)) (S : Addr), L.map (·.2) = xs.zip ys → tupsNew H L → tups H L S = none → Q (.ref S) (lzH H S L)) :
    wpAny (model X.prog X.w) X.A (call (.type "zip") [.ref a, .ref b]) (fun u t => wpAny (model X.prog X.w) X.A (call (.type "list") [u]) (EP X pins σ Q) E t) E s := by
  obtain ⟨_, _, p1, _⟩ := I.list qa
  obtain ⟨_, _, p2, _⟩ := I.list qb
  obtain ⟨n, en⟩ : ∃ n, n = s.heap.objs.size := ⟨_, rfl⟩
  refine call_zip_2 p1.isList p2.isList fun h2 hz ti to j1 j2 big old => ?_
  rw [← en] at hz ti to j1 j2 big ⊢
  have I2 : Inv X pins σ H { s with heap := h2 } := I.kept (t' := s.toks) old
  have D := PySem.W.ktu_apart n a b (en ▸ p1.lt) (en ▸ p2.lt)
  have free : ∀ j, H (n + j) = none := fun j => I.hok.fresh (by rw [en]; exact Nat.le_add_right _ _)
  have fp : ∀ j, FpOk X pins H (n + j) := fun j => I.fpOk (by rw [en]; exact Nat.le_add_right _ _) (free j)
  have z5 : h2.objs.size = n + 5 := big
  refine callType_codes (Q₁ := fun o t => o = .ref h2.objs.size ∧ t = { s with heap := h2.push { cls := .type "list", data := .seq #[] } }) F.called_list (F.typeCall_list_1 _) F.entry_list_init (code_list_new _ ⟨rfl, rfl⟩) fun o t ⟨eo, et⟩ => ?_
  subst eo et
  have hS : (h2.push { cls := .type "list", data := .seq #[] }).get? h2.objs.size = some { cls := .type "list", data := .seq #[] } := Heap.get?_push_size _ rfl
  have I3 := I2.lnew (t' := s.toks) (its := []) (ys := []) .nil (Nat.zero_le _)
  have add : ∀ i j : Nat, i ≠ j → n + i ≠ n + j := fun i j e q => e (by omega)
  have hz3 : (h2.push { cls := .type "list", data := .seq #[] }).get? (n + 4) = some _ := got_up hz
  refine ⟨⟨_, hS, rfl⟩, F.args_list_init_2 _ _, init_zip (z := n + 4) (by rw [z5]; exact add 5 4 (by decide)) hS ⟨_, hz3, rfl⟩ (fun t Q E same q => wpAny_pyIter_zip (same _ _ (by rw [z5]; exact add 4 5 (by decide)) hz3) q) fun h3 c same lst size => ?_⟩
  have up : ∀ j : Nat, j ≠ 5 → ∀ {o}, h2.get? (n + j) = some o → h3.get? (n + j) = some o := fun j hj o e => same _ _ (by rw [z5]; exact add j 5 hj) (got_up e)
  have e0 : lzH H h2.objs.size [] = upd (upd H h2.objs.size (.lst [])) h2.objs.size (.lst []) := by
    funext x
    show upd H _ _ x = _
    by_cases q : x = h2.objs.size
    · rw [q, upd_same, upd_same]
      rfl
    · rw [upd_ne q, upd_ne q, upd_ne q]
  have I4 : Inv X pins σ (lzH H h2.objs.size []) { s with heap := h3 } := by
    rw [e0]
    exact I3.write (x := h2.objs.size) (e := h2.objs.size) (t' := s.toks) (by rw [upd_same]; trivial) (.inl rfl) (fun b u ne e => same b u ne e) ⟨_, lst⟩ ⟨Nat.zero_le _, [], c, .nil, lst⟩
  rw [z5] at I4 lst ⊢
  have four : ∀ {p : Addr → Prop}, (∀ j, j ≠ 5 → p (n + j)) → ∀ c ∈ [n + 4, n + 3, n, n + 1], p c := fun h c hc => by
    simp only [List.mem_cons, List.not_mem_nil, or_false] at hc
    rcases hc with rfl | rfl | rfl | rfl
    · exact h 4 (by decide)
    · exact h 3 (by decide)
    · exact h 0 (by decide)
    · exact h 1 (by decide)
  have h35 : h3.objs.size = n + 6 := by rw [size, Heap.size_push, z5]
  refine lz_loop D (by exact hh) ⟨add 5 4 (by decide), add 5 2 (by decide), add 5 3 (by decide), add 5 0 (by decide), add 5 1 (by decide), free 5⟩ qa qb few _ [] _ rfl I4 (four fun j hj => ⟨?_, (fp j).2⟩) ⟨rfl, Nat.zero_le _⟩ ⟨trivial, free 5⟩
    ⟨up 2 (by decide) ti, j1.at fun o e => up 0 (by decide) e, j2.at fun o e => up 1 (by decide) e, .inl ⟨up 4 (by decide) hz, _, _, up 3 (by decide) to⟩⟩ ?_ fun L t It hm hn hs => ⟨rfl, ⟨.ref (n + 5), _, It, rfl, k L _ hm hn hs⟩⟩
  · show upd H (n + 5) _ (n + j) = none
    rw [upd_ne (add j 5 hj)]
    exact free j
  · intro c hc
    show c < h3.objs.size
    rw [h35]
    have : ∀ j : Nat, j ≤ 5 → n + j < n + 6 := fun j hj => by omega
    simp only [List.mem_cons, List.not_mem_nil, or_false] at hc
    rcases hc with rfl | rfl | rfl | rfl | rfl
    · exact this 4 (by decide)
    · exact this 3 (by decide)
    · exact this 0 (by decide)
    · exact this 1 (by decide)
    · exact this 5 (by decide)
end
section
variable {X : Cx} {e f : Expr} {ta : TA} {p p2 q pos : Pos}
theorem pe_lz (hg : Gl X "list") (hm : X.mg "list" = none) (hg2 : Gl X "zip") (hm2 : X.mg "zip" = none) (ha : PA X [e, f] ta) (hc : X.calm = true := by rfl) (hs : starEach [e, f] X.env = (false, eval e X.env) :: starEach [f] X.env := by rfl)
    (hpl : (backTo q (starEach [f] X.env)).any (·.1) = false := by rfl) (na : starEach [.Call (.Name "zip" p2) [e, f] [] q] X.env = (false, eval (.Call (.Name "zip" p2) [e, f] [] q) X.env) :: starEach [] X.env := by rfl) :
    PE X (.Call (.Name "list" p) [.Call (.Name "zip" p2) [e, f] [] q] [] pos) (tCB (rLZ X.K) ta) := by
  refine ⟨fun pins s σ H Q I h => ?_⟩
  refine Call_ (ld_blt I hg hm boot_list ?_)
  refine PyProof.Rows.callWith_type1 (PyProof.Rows.args_cons ?_ na) na rfl
  refine Call_ (ld_blt I hg2 hm2 PyProof.Rows.boot_zip (PyProof.Rows.callWith_type1 (thn (ha.run q pins s σ H _ I h) fun us s1 ⟨vs, H1, I1, r1, q1⟩ => ?_) hs hpl))
  obtain ⟨a, b, xs, ys, rfl, qa, qb, few, k⟩ := q1
  have two : us = [.ref a, .ref b] := by
    cases r1 with
    | cons ra t => cases t with
      | cons rb t => cases t; rw [show _ = Value.ref a from ra, show _ = Value.ref b from rb]
  subst two
  refine thn (call_lz (I1.ok.hd hc) I1 qa qb few k) fun u t z => PyProof.Rows.args_nil z
theorem cut_zip {K : KZ} {F : Hp} : ∀ {vs ws : List V} {ds es : List D}, RpAll K F vs ds → RpAll K F ws es → Paired (fun (p : V × V) (d : D × D) => Rp K F p.1 d.1 ∧ Rp K F p.2 d.2) (vs.zip ws) (ds.zip es)
  | _, _, _, _, .nil, _ => .nil
  | _, _, _, _, .cons _ _, .nil => .nil
  | _, _, _, _, .cons a t, .cons b u => .cons ⟨a, b⟩ (cut_zip t u)
def zipD (xs ys : List D) : List D := (xs.zip ys).map fun p => D.tup [p.1, p.2]
section
variable {K : PySem.W.Frag} {B : Bs} {γ : Env}
theorem lay_tups : ∀ {L : List (Addr × V × V)} {F H : Hp} {ds : List (D × D)}, Rep K B F H σ γ → tupsNew H L → Paired (fun (p : V × V) (d : D × D) => Rp (B.kz K) F p.1 d.1 ∧ Rp (B.kz K) F p.2 d.2) (L.map (·.2)) ds →
    ∃ F2, Rep K B F2 (tups H L) σ γ ∧ Ex F F2 ∧ RpAll (B.kz K) F2 (L.map fun t => V.ref t.1) (ds.map fun p => D.tup [p.1, p.2])
  | [], F, H, ds, R, _, h => by
    cases h
    exact ⟨F, R, Evl.Ex.refl F, .nil⟩
  | t :: L, F, H, ds, R, ⟨h0, h1⟩, h => by
    cases h with
    | cons r rest =>
      obtain ⟨R1, e1, rt⟩ := R.newT h0 (.cons r.1 (.cons r.2 .nil))
      obtain ⟨F2, R2, e2, ra⟩ := lay_tups R1 h1 (P_mono (fun _ _ q => ⟨q.1.mono e1, q.2.mono e1⟩) rest)
      exact ⟨F2, R2, e1.trans e2, .cons (rt.mono e2) ra⟩
def dLZ (da : DA) (γ : Env) (q : RS → Env → Prop) : Prop := da γ fun rs γ1 => allV rs ∧ match rs.map RS.data with
  | [.lst xs, .lst ys] => xs.length ≤ 4000 ∧ q (.new (.lst (zipD xs ys))) γ1
  | _ => False
theorem se_lz {ta : TA} {da : DA} (h : SA K B ta da) : SE K B (tCB (rLZ K) ta) (dLZ da) := fun F H σ γ Q q R hq k => by
  refine h F H σ γ _ _ R hq fun vs F1 H1 γ1 rs R1 e1 o1 ⟨hv, h1⟩ => ?_
  split at h1
  · rename_i xs ys es
    obtain ⟨few, hq⟩ := h1
    have ra := allV_rp o1 hv
    rw [es] at ra
    obtain ⟨a, b, va, vb, rfl, ⟨ha, sa⟩, hb, sb⟩ : ∃ a b va vb, vs = [.ref a, .ref b] ∧ (F1 a = some (.lst va) ∧ RpAll (B.kz K) F1 va xs) ∧ F1 b = some (.lst vb) ∧ RpAll (B.kz K) F1 vb ys := by
      cases ra with
      | cons r1 t => cases t with
        | cons r2 t =>
          cases t
          cases r1 with
          | lst ha ra => cases r2 with
            | lst hb rb => exact ⟨_, _, _, _, rfl, ⟨ha, ra⟩, hb, rb⟩
    refine ⟨a, b, va, vb, rfl, sq_inj_lst R1.fh ha, sq_inj_lst R1.fh hb, by rw [sa.length]; exact few, fun L S hL hN hS => ?_⟩
    obtain ⟨F2, R2, e2, rl⟩ := lay_tups R1 hN (by rw [hL]; exact cut_zip sa sb)
    obtain ⟨R3, o⟩ := R2.newL hS rl
    exact k _ F2 _ γ1 _ R3 (e1.trans e2) o hq
  · exact h1.elim
end
theorem x_lz {B : Bs} {da : DA} (hm : X.mg "list" = none) (hm2 : X.mg "zip" = none) (h : XA X B [e, f] ta da) (hg : Gl X "list" := by rfl) (hg2 : Gl X "zip" := by rfl) (hc : X.calm = true := by rfl) (hs : starEach [e, f] X.env = (false, eval e X.env) :: starEach [f] X.env := by rfl)
    (hpl : (backTo q (starEach [f] X.env)).any (·.1) = false := by rfl) (na : starEach [.Call (.Name "zip" p2) [e, f] [] q] X.env = (false, eval (.Call (.Name "zip" p2) [e, f] [] q) X.env) :: starEach [] X.env := by rfl) :
    XE X B (.Call (.Name "list" p) [.Call (.Name "zip" p2) [e, f] [] q] [] pos) (tCB (rLZ X.K) ta) (dLZ da) := ⟨pe_lz hg hm hg2 hm2 h.pa hc hs hpl na, se_lz h.sa⟩
end
end DL

set_option Elab.async false
set_option linter.all false
set_option maxRecDepth 100000
set_option maxHeartbeats 4000000
namespace DL
open PySem PySem.Spec PyProof.Rows L2 PySem.W
open Evl (Ex ex_l ex_t)
/-! == and != of two dicts of the same keys and numbers -/
def kiV (ks : List (Key × Int)) : List (Key × V) := ks.map fun p => (p.1, V.int p.2)
def kiD (ks : List (Key × Int)) : List (Key × D) := ks.map fun p => (p.1, D.int p.2)
theorem hits_all {A : Around} {s : Shared} {kb : List (Key × Value)} : ∀ {ks : List (Key × Int)} {va : List (Key × Value)}, KV (kiV ks) va → (∀ p ∈ ks, ∃ t, valueAt kb p.1 = some (.int p.2 t)) → KeqHits A s kb va true
  | [], _, .nil, _ => .nil
  | p :: ks, _, .cons (b := q) h t, g => by
    obtain ⟨k, u⟩ := q
    obtain ⟨rfl, t1, rfl⟩ := h
    obtain ⟨t2, e⟩ := g p (List.mem_cons_self ..)
    have one := (MeetsSeq.EqGives.int p.2 p.2 t1 t2).at A s
    have e2 : (p.2 == p.2) = true := beq_self_eq_true _
    rw [e2] at one
    exact .hit e one (hits_all t fun x hx => g x (List.mem_cons_of_mem _ hx))
theorem found : ∀ {ks : List (Key × Int)} {kb : List (Key × Value)}, KV (kiV ks) kb → (kb.map (·.1)).Nodup → ∀ p ∈ ks, ∃ t, valueAt kb p.1 = some (.int p.2 t) := fun {ks kb} h nd p hp => by
  obtain ⟨i, hi, e⟩ := List.getElem_of_mem hp
  have ek : (kiV ks)[i]? = some (p.1, V.int p.2) := by rw [kiV, List.getElem?_map, List.getElem?_eq_getElem hi, e]; rfl
  obtain ⟨⟨k, u⟩, eb, ek1, t, et⟩ := P_getL h ek
  exact ⟨t, valueAt_of_get nd (by rw [eb, show k = p.1 from ek1.symm, show u = Value.int p.2 t from et])⟩
def rSameK (b : Bool) : R2 := fun x y H Q => ∃ (p q : Addr) (ks : List (Key × Int)), x = .ref p ∧ y = .ref q ∧ H p = some (.dK (kiV ks)) ∧ H q = some (.dK (kiV ks)) ∧ Q (.bl b) H
section
variable {X : Cx}
theorem same_at {pins : List (Addr × Obj)} {σ : L2.St} {H : Hp} {s : Shared} {p q : Addr} {ks : List (Key × Int)} (I : Inv X pins σ H s) (hp : H p = some (.dK (kiV ks))) (hq : H q = some (.dK (kiV ks))) :
    (p == sysModules) = false ∧ (q == sysModules) = false ∧ ∃ va vb, s.heap.DictOf (mixKind X.prog X.w) p va ∧ s.heap.DictOf (mixKind X.prog X.w) q vb ∧ va.length = vb.length ∧ KeqHits X.A.in1 s vb va true := by
  obtain ⟨_, n1, va, ka, da⟩ := dk_of I.hok hp
  obtain ⟨_, n2, vb, kb, db⟩ := dk_of I.hok hq
  have l1 := Paired.length ka
  have l2 := Paired.length kb
  have nd : (vb.map (·.1)).Nodup := by
    obtain ⟨_, _, _, _, _, _, _, _, nd⟩ := db
    exact nd
  exact ⟨n1, n2, va, vb, da, db, by omega, hits_all ka (found kb nd)⟩
theorem op_sameK (hu : X.A.units + 1 < cLine) : OpR X (compareOp .Eq) (rSameK true) := by
  intro pins s σ H x y v u Q I rx ry h
  obtain ⟨p, q, ks, rfl, rfl, hp, hq, k⟩ := h
  rw [show v = Value.ref p from rx, show u = Value.ref q from ry]
  obtain ⟨n1, n2, va, vb, da, db, l, hits⟩ := same_at I hp hq
  exact keq_eq n1 n2 da db (Nat.lt_of_succ_lt hu) (fun _ => hits) ⟨.bl _, H, I, by rw [l]; simp [L2.RelV], k⟩
theorem op_diffK (hu : X.A.units + 1 < cLine) : OpR X (compareOp .NotEq) (rSameK false) := by
  intro pins s σ H x y v u Q I rx ry h
  obtain ⟨p, q, ks, rfl, rfl, hp, hq, k⟩ := h
  rw [show v = Value.ref p from rx, show u = Value.ref q from ry]
  obtain ⟨n1, n2, va, vb, da, db, l, hits⟩ := same_at I hp hq
  exact keq_ne n1 n2 da db (Nat.lt_of_succ_lt hu) (fun _ => hits) ⟨.bl _, H, I, by rw [l]; simp [L2.RelV], k⟩
end
def fSameK (b : Bool) (d e : D) (q : RS → Prop) : Prop := ∃ ks, d = .dct (kiD ks) ∧ e = .dct (kiD ks) ∧ q (.val (.bl b))
theorem ki_back {K : KZ} {F : Hp} : ∀ {ks : List (Key × Int)} {kv : List (Key × V)}, RpKs K F kv (kiD ks) → kv = kiV ks
  | [], _, .nil => rfl
  | p :: ks, _, .cons h t => by
    cases h
    rw [ki_back t]
    rfl
theorem od_sameK {K : PySem.W.Frag} {b : Bool} : OpD K (rSameK b) (fSameK b) := fun B F H σ γ x y d e Q q R rx ry hf k => by
  obtain ⟨ks, rfl, rfl, hq⟩ := hf
  obtain ⟨p, kv, rfl, hp, ra⟩ := rx.dct R.fh
  obtain ⟨p2, kv2, rfl, hp2, ra2⟩ := ry.dct R.fh
  have e1 := ki_back ra
  have e2 := ki_back ra2
  subst e1 e2
  exact ⟨p, p2, ks, rfl, rfl, hp, hp2, vk R k (.bl b) hq⟩
end DL

set_option Elab.async false
set_option linter.all false
set_option maxRecDepth 100000
set_option maxHeartbeats 4000000
namespace DL
open PySem PySem.Spec PyProof.Rows L2
open Evl (Ex ex_l ex_t)
/-! an own list is lent to an expression: inside it is a value, behind it is the own list again; what comes back holds no list -/
def hid1 : Sx → Sx
  | .own _ _ => .no
  | t => t
def hide : Env → Env
  | [] => []
  | t :: r => hid1 t :: hide r
theorem hide_len : ∀ γ : Env, (hide γ).length = γ.length
  | [] => rfl
  | t :: r => by rw [hide, List.length_cons, List.length_cons, hide_len r]
theorem hide_get : ∀ {γ : Env} {i : Nat} {t : Sx}, (hide γ)[i]? = some t → (∀ p c, t ≠ .own p c) ∧ (t = .no ∨ γ[i]? = some t)
  | u :: r, 0, t, h => by
    cases u with
    | own p c => cases h; exact ⟨fun _ _ z => (by cases z), .inl rfl⟩
    | no => cases h; exact ⟨fun _ _ z => (by cases z), .inl rfl⟩
    | val d => cases h; exact ⟨fun _ _ z => (by cases z), .inr rfl⟩
  | u :: r, i + 1, t, h => hide_get (γ := r) (i := i) h
def dLend (j : Nat) (de : DE) (γ : Env) (q : RS → Env → Prop) : Prop := match look γ j with
  | .own _ (.lst ds) => de (put (hide γ) j (.val (.lst ds))) fun r _ => lendN r fun r => q r γ
  | _ => False
section
variable {K : PySem.W.Frag} {B : Bs}
theorem se_lend {j : Nat} {te : TE} {de : DE} (h : ∀ B, SE K B te de) : SE K B te (dLend j de) := fun F H σ γ Q q R hq k => by
  unfold dLend at hq
  split at hq
  · rename_i p ds hl
    obtain ⟨a, vs, hs, ha, R1, e1, r1⟩ := R.freezeL hl
    let B2 : Bs := { N := H, pa := B.pa, F := upd F a (.lst vs), H := H, m := [], z := B.z, zn := R.znp }
    have no : ∀ {i : Nat} {q : Option Nat} {c : OC}, (put (hide γ) j (.val (.lst ds)))[i]? ≠ some (.own q c) := fun {i q c} h => by
      rcases get_put h with ⟨_, z⟩ | ⟨_, z⟩
      · cases z
      · exact (hide_get z).1 q c rfl
    have R2 : Rep K B2 (upd F a (.lst vs)) H σ (put (hide γ) j (.val (.lst ds))) := by
      refine ⟨R1.fh, ?_, fun i s t hs2 hg => ?_, fun i j a p c q c' h1 => absurd h1 no, fun b o e => ⟨fun _ => e, o, e⟩, Evl.Ex.refl _, fun b o _ _ => rfl, fun i a p c h1 => absurd h1 no, fun i a p c h1 => absurd h1 no, fun b o e => ⟨o, e⟩, fun a o e => ⟨o, e, .refl o⟩⟩
      · rw [R.len, put_set, List.length_set, hide_len]
      · rcases get_put hg with ⟨e, z⟩ | ⟨e, z⟩
        · subst e z
          rw [hs] at hs2
          cases hs2
          exact ⟨_, rfl, r1⟩
        · obtain ⟨z1, z2⟩ := hide_get z
          rcases z2 with z2 | z2
          · subst z2; trivial
          · have g1 : (put γ j (.val (.lst ds)))[i]? = some t := by rw [put_set, List.getElem?_set_ne (Ne.symm e)]; exact z2
            have q := R1.sl i s t hs2 g1
            cases t with
            | no => trivial
            | val d => exact q
            | own p c => exact absurd rfl (z1 p c)
    refine h B2 _ H σ _ Q _ R2 hq fun v F3 H3 γ3 r R3 e3 ok hp => ?_
    have eH : Ex H H3 := fun b o e => (R3.b1 b o e).1 (by simp [B2])
    have s3 : ∀ b o, H b = some o → F3 b = upd F a (.lst vs) b := fun b o e => R3.b3 b o e (by simp [B2])
    have s2 : ∀ b, upd F a (.lst vs) b = F b ∨ ∃ xs, H b = some (.lst xs) := fun b => by
      by_cases c : b = a
      · subst c; exact .inr ⟨vs, ha⟩
      · exact .inl (upd_ne c)
    obtain ⟨R4, e4, c1, c2, c3⟩ := lend_back R R3.fh eH s3 s2
    unfold lendN at hp
    split at hp
    · exact k v _ H3 γ (.val _) R4 e4 (c1 _ _ ok hp.1) hp.2
    · rename_i es
      obtain ⟨x, ex, N⟩ := ok
      obtain ⟨ws, hw, hr⟩ := N.ok
      have hx : H x = none := N.bn
      obtain ⟨f1, f2, f3, f4⟩ := R.fresh hx
      have fn : newF H F F3 x = none := by rw [newF_new hx]; exact N.fa
      exact k v _ H3 γ (.new (.lst es)) R4 e4 ⟨x, ex, fn, ⟨ws, hw, c2 _ _ hr hp.1⟩, f3, .inr f2, f4⟩ hp.2
    · rename_i C fs
      obtain ⟨x, ex, N⟩ := ok
      obtain ⟨dx, fv, g1, g2, g3, g4, g5, g6⟩ := N.ok
      have hx : H x = none := N.bn
      have hd : H dx = none := g4 hx
      obtain ⟨f1, f2, f3, f4⟩ := R.fresh hx
      obtain ⟨d1, d2, d3, d4⟩ := R.fresh hd
      have fn : newF H F F3 x = none := by rw [newF_new hx]; exact N.fa
      have fd : newF H F F3 dx = none := by rw [newF_new hd]; exact g3
      exact k v _ H3 γ (.new (.ins C fs)) R4 e4 ⟨x, ex, fn, ⟨dx, fv, g1, g2, fd, fun _ => d3, .inr d2, c3 _ _ g6 hp.1⟩, f3, .inr f2, f4⟩ hp.2
    · exact hp.elim
  · exact hq.elim
end
section
variable {X : Cx} {B : Bs} {e elt tg iter : Expr} {ifs : List Expr} {scope : Scope} {pos spos : Pos} {wi : TI} {di : DI} {g : TG} {dg : DG} {tt : TT} {dt : DT} {te : TE} {de : DE} {ix : List Nat}
theorem x_lend (j : Nat) (h : ∀ B, XE X B e te de) : XE X B e te (dLend j de) := ⟨(h B).pe, se_lend fun B => (h B).se⟩
/-- name = [..] on one line, a list lent to the right side -/
theorem s_setLcL (i j : Nat) (own : List (Str × Nat)) {y : Str} {py : Pos} (hc : X.calm = true) (nd : X.N.Nodup) (hi : ∀ B, XI X B tg iter wi di) (blk : BlkOk X.N X.env.scope scope own)
    (hg : ∀ (B : Bs) (s : Shared) (H : Hp) (C : Addr) (cl : List (Str × Addr)) (fp : List Addr), XG (X.blk s H scope (compEnvC scope cl C X.env) fp) B tg g dg ix) (ht : ∀ (B : Bs) (s : Shared) (H : Hp) (C : Addr) (cl : List (Str × Addr)) (fp : List Addr), XTs (X.blk s H scope (compEnvC scope cl C X.env) fp) B ifs tt dt)
    (he : ∀ (B : Bs) (s : Shared) (H : Hp) (C : Addr) (cl : List (Str × Addr)) (fp : List Addr), XE (X.blk s H scope (compEnvC scope cl C X.env) fp) B elt te de) (hix : ∀ i ∈ ix, i ∈ own.map (·.2)) (hsw : swapsWith (.ListComp elt [⟨tg, iter, ifs, 0⟩] scope pos) (some (.Name y py)) spos.line X.env = pure true)
    (hy : X.N[i]? = some y := by rfl) (hyl : X.env.scope.names.lookup y = some .local := by rfl) (hs : ∀ x, foldedSetIterable iter X.env x = pure x := by intro _; rfl) :
    XS X B (.Assign [.Name y py] (.ListComp elt [⟨tg, iter, ifs, 0⟩] scope pos) spos) (tAsg (tLc wi g tt te (own.map (·.2))) (gName i)) (dAsg i (dLend j (dLc di dg dt de (own.map (·.2))))) :=
  ⟨ps_setLc hc nd hy hyl hsw (hi B).pi blk (fun s H C cl fp => (hg B s H C cl fp).pg) (fun s H C cl fp => (ht B s H C cl fp).pt) (fun s H C cl fp => (he B s H C cl fp).pe) hs,
    sa_name (se_lend fun B => se_lc (hi B).si (fun B => (hg B X.s_0 X.H_0 0 [] []).sg) (fun B => (ht B X.s_0 X.H_0 0 [] []).st) (fun B => (he B X.s_0 X.H_0 0 [] []).se) hix)⟩
end
end DL


set_option Elab.async false
set_option linter.all false
set_option maxRecDepth 100000
set_option maxHeartbeats 4000000
namespace K14
open PySem PySem.Spec PyProof.Rows L2 DL
/-! ### pools -/
abbrev intsD (ns : List Int) : List D := ns.map D.int
def Pool (ms : List Int) : Prop := (∀ x ∈ ms, 0 ≤ x) ∧ 0 < ms.length ∧ ms.length ≤ 64
theorem at_one {α : Type} {x y : α} {xs : List α} : atI (x :: y :: xs) 1 = some y := atI_nat (j := 1) rfl
theorem kb_tb : kitB "tuple" "bool" = some false := rfl
theorem kb_ts : kitB "tuple" "str" = some false := rfl
/-! ### values: numbers (false) or words (true) -/
abbrev Vt : Bool → Type
  | false => Int
  | true => Str
def vD : (w : Bool) → Vt w → D
  | false, n => .int n
  | true, s => .str s
def vlt : (w : Bool) → Vt w → Vt w → Bool
  | false, a, b => decide ((show Int from a) < (show Int from b))
  | true, a, b => slt a b
instance vdec : (w : Bool) → DecidableEq (Vt w)
  | false => fun a b => inferInstanceAs (Decidable ((show Int from a) = (show Int from b)))
  | true => fun a b => inferInstanceAs (Decidable ((show Str from a) = (show Str from b)))
def vK : (w : Bool) → Vt w → Key
  | false, n => .inl n
  | true, s => .inr s
theorem key_vD {w : Bool} {v : Vt w} : keyD (vD w v) = some (vK w v) := by cases w <;> rfl
theorem key_int {i : Int} : keyD (.int i) = some (.inl i) := rfl
def dom (w : Bool) : Str := if w then "word" else "number"
theorem vD_f {n : Vt false} : vD false n = .int n := rfl
theorem vD_t {n : Vt true} : vD true n = .str n := rfl
theorem dom_f : dom false = "number" := rfl
theorem dom_t : dom true = "word" := rfl
def letters : Str := "abcdefghijklmnopqrstuvwxyz"
def isW (s : Str) : Bool := decide (1 ≤ s.length) && (decide (s.length ≤ 8) && s.cps.toList.all fun c => decide (c ∈ letters.cps.toList))
def isV : (w : Bool) → Vt w → Bool
  | false, n => decide (-999999999 ≤ (show Int from n)) && decide ((show Int from n) ≤ 999999999)
  | true, s => isW s
/-- not too long to look at -/
def vS : (w : Bool) → Vt w → Prop
  | false, _ => True
  | true, s => s.length ≤ 1000
/-- a number or a text, of any kind -/
def vlOk : D → Prop
  | .int _ => True
  | .str s => s.length ≤ 1000 ∧ PyData.strOk s = true
  | _ => False
/-- is it a value of the domain -/
def isVD (w : Bool) : D → Bool
  | .int n => !w && isV false n
  | .str s => w && isV true s
  | _ => false
/-! ### entries -/
abbrev Pr (w : Bool) := Vt w × Int
def pD (w : Bool) (e : Pr w) : D := .tup [vD w e.1, .int e.2]
abbrev psD (w : Bool) (es : List (Pr w)) : List D := es.map (pD w)
abbrev fsts {w : Bool} (es : List (Pr w)) : List (Vt w) := es.map Prod.fst
abbrev snds {w : Bool} (es : List (Pr w)) : List Int := es.map Prod.snd
/-- ascending by value -/
def Up (w : Bool) (es : List (Pr w)) : Prop := es.Pairwise fun a b => vlt w a.1 b.1 = true
/-- are the codes ascending too? -/
def upc {w : Bool} (es : List (Pr w)) : Bool := decide (es.Pairwise fun a b => a.2 < b.2)
structure Ents (w : Bool) (es : List (Pr w)) (room : Int) : Prop where
  len : es.length ≤ 120
  up : Up w es
  nd : (snds es).Nodup
  val : ∀ e ∈ es, isV w e.1 = true
  cod : ∀ e ∈ es, 0 ≤ e.2 ∧ e.2 ≤ 9999999
  inr : (es.filter fun e => decide (e.2 < room)).Pairwise fun a b => a.2 < b.2
  r0 : 1 ≤ room
  r1 : room ≤ 1000000
/-- what a book keeps -/
def Rl {w : Bool} (es : List (Pr w)) (r : Str) : Prop := (upc es = true → r = "order" ∨ r = "distance" ∨ r = "value") ∧ (upc es = false → r = "same")
def gap (e : Pr false) : Int := e.2 - (e.1 : Int)
/-- the gap that all entries share -/
def eqg : (w : Bool) → List (Pr w) → Option Int
  | true, _ => none
  | false, [] => none
  | false, e :: r => if (r.all fun x => decide (gap x = gap e)) = true then some (gap e) else none
def kpt (w : Bool) (es : List (Pr w)) : Str := if es = [] then "value" else match eqg w es with
  | some g => if g = 0 then "value" else "distance"
  | none => if upc es then "order" else "same"
structure Bk (w : Bool) (room : Int) (es : List (Pr w)) (fs : List (Str × D)) : Prop where
  dm : fs.lookup ("domain" : Str) = some (.str (dom w))
  rm : fs.lookup ("room" : Str) = some (.int room)
  en : fs.lookup ("entries" : Str) = some (.tup (psD w es))
  rl : fs.lookup ("relation" : Str) = some (.str (kpt w es))
  ms : fs.lookup ("MOST" : Str) = none
  co : fs.lookup ("code_of" : Str) = none
  vo : fs.lookup ("value_of" : Str) = none
  cv : ∃ kd, fs.lookup ("code_by_value" : Str) = some (.dct kd) ∧ (∀ v, (vlk kd (vK w v)).isSome = decide (v ∈ fsts es)) ∧ ∀ e ∈ es, vlk kd (vK w e.1) = some (.int e.2)
  vc : ∃ kd, fs.lookup ("value_by_code" : Str) = some (.dct kd) ∧ (∀ c, (vlk kd (.inl c)).isSome = decide (c ∈ snds es)) ∧ ∀ e ∈ es, vlk kd (.inl e.2) = some (vD w e.1)
def str5 (n : Str) : Option Int := if n = "none" then some 0 else if n = "same" then some 1 else if n = "order" then some 2 else if n = "distance" then some 3 else if n = "value" then some 4 else none
/-- nested at most n deep -/
def okS : Nat → D → Prop
  | _, .non => True
  | _, .int _ => True
  | _, .str s => s.length ≤ 1000 ∧ PyData.strOk s = true
  | n + 1, .tup ds => ds.length ≤ 1000 ∧ ∀ d ∈ ds, okS n d
  | _, _ => False
/-- the numbers from low on with the codes 0, 1 .. -/
def cnt (low : Int) (n : Nat) : List (Pr false) := (List.range n).map fun (k : Nat) => ((low + (k : Int) : Int), (k : Int))
def badRoom (room : Int) : Prop := ¬ (1 ≤ room ∧ room ≤ 1000000)
def ltD (t : Bool) (ds : List D) : D := match t with
  | true => .tup ds
  | false => .lst ds
theorem ltD_t {ds : List D} : ltD true ds = .tup ds := rfl
theorem ltD_f {ds : List D} : ltD false ds = .lst ds := rfl
def ple (w : Bool) (a b : Pr w) : Bool := vlt w a.1 b.1 || (decide (a.1 = b.1) && decide (a.2 ≤ b.2))
/-! mending: heights, the walk back, the cheapest cost (no program in sight) -/
abbrev Hs := List (Option Int)
def low (acc : Hs) (found : List Int) (lead : Int) : List Int := (acc.zip found).filterMap fun p => match p.1 with
  | some x => if p.2 ≤ lead then some x else none
  | none => none
def hat (acc : Hs) (found loads : List Int) (slack lead : Int) (k : Nat) : Option Int := if 0 ≤ lead ∧ lead ≤ slack then some (loads.getD k 0 + mxd (low acc found lead) 0) else none
def hts (found loads : List Int) (slack : Int) : Nat → Hs
  | 0 => []
  | k + 1 => hts found loads slack k ++ [hat (hts found loads slack k) found loads slack (found.getD k 0) k]
theorem hts_len {found loads : List Int} {slack : Int} : ∀ k, (hts found loads slack k).length = k
  | 0 => rfl
  | k + 1 => by rw [hts, List.length_append, hts_len k]; rfl
theorem hts_get {found loads : List Int} {slack : Int} : ∀ {n k : Nat}, k < n → (hts found loads slack n)[k]? = some (hat (hts found loads slack k) found loads slack (found.getD k 0) k)
  | n + 1, k, h => by
    rw [hts]
    by_cases e : k = n
    · subst e
      rw [List.getElem?_append_right (by rw [hts_len]; exact Nat.le_refl _), hts_len]
      simp
    · rw [List.getElem?_append_left (by rw [hts_len]; omega)]
      exact hts_get (by omega)
/-- the height at k -/
def hgt (found loads : List Int) (slack : Int) (k : Nat) : Option Int := hat (hts found loads slack k) found loads slack (found.getD k 0) k
theorem mem_low {found loads : List Int} {slack lead x : Int} {k : Nat} (hk : k ≤ found.length) : x ∈ low (hts found loads slack k) found lead ↔ ∃ j, j < k ∧ hgt found loads slack j = some x ∧ found.getD j 0 ≤ lead := by
  unfold low
  rw [List.mem_filterMap]
  constructor
  · rintro ⟨⟨h, o⟩, hm, e⟩
    obtain ⟨j, hj⟩ := List.mem_iff_getElem?.mp hm
    rw [List.getElem?_zip_eq_some] at hj
    obtain ⟨h1, h2⟩ := hj
    have jk : j < k := by
      have := (List.getElem?_eq_some_iff.mp h1).1
      rwa [hts_len] at this
    rw [hts_get jk] at h1
    cases h1
    have eo : found.getD j 0 = o := by rw [List.getD_eq_getElem?_getD, h2]; rfl
    dsimp only at e
    unfold hgt
    split at e
    · rename_i y ey
      split at e
      · rename_i le
        cases e
        exact ⟨j, jk, ey, by rw [eo]; exact le⟩
      · cases e
    · cases e
  · rintro ⟨j, jk, e, le⟩
    refine ⟨(some x, found.getD j 0), List.mem_iff_getElem?.mpr ⟨j, ?_⟩, ?_⟩
    · rw [List.getElem?_zip_eq_some]
      refine ⟨?_, ?_⟩
      · rw [hts_get jk]
        exact congrArg some e
      · show found[j]? = some (found.getD j 0)
        rw [List.getD_eq_getElem?_getD, List.getElem?_eq_getElem (by omega)]
        rfl
    · dsimp only
      rw [if_pos le]
theorem fold_max : ∀ (ns : List Int) (n : Int), ns.foldl max n ∈ n :: ns ∧ ∀ x ∈ n :: ns, x ≤ ns.foldl max n
  | [], n => ⟨by simp, fun x h => by simp at h; subst h; exact Int.le_refl _⟩
  | m :: ns, n => by
    obtain ⟨h1, h2⟩ := fold_max ns (max n m)
    rw [List.foldl_cons]
    have le := h2 _ (List.mem_cons_self ..)
    refine ⟨?_, fun x hx => ?_⟩
    · rcases List.mem_cons.mp h1 with e | e
      · rw [e]
        by_cases c : n ≤ m
        · rw [Int.max_eq_right c]; simp
        · rw [Int.max_eq_left (by omega)]; simp
      · simp [e]
    · rcases List.mem_cons.mp hx with rfl | hx
      · omega
      · rcases List.mem_cons.mp hx with rfl | hx
        · omega
        · exact h2 x (List.mem_cons_of_mem _ hx)
theorem mxd_cases : ∀ (ns : List Int) (d : Int), (ns = [] ∧ mxd ns d = d) ∨ (mxd ns d ∈ ns ∧ ∀ x ∈ ns, x ≤ mxd ns d)
  | [], d => .inl ⟨rfl, rfl⟩
  | n :: ns, d => .inr (fold_max ns n)
theorem mxd_le {ns : List Int} {d x : Int} (h : x ∈ ns) : x ≤ mxd ns d := by
  rcases mxd_cases ns d with ⟨rfl, _⟩ | ⟨_, q⟩
  · cases h
  · exact q x h
theorem H_some {found loads : List Int} {slack x : Int} {k : Nat} : hgt found loads slack k = some x ↔ (0 ≤ found.getD k 0 ∧ found.getD k 0 ≤ slack) ∧ x = loads.getD k 0 + mxd (low (hts found loads slack k) found (found.getD k 0)) 0 := by
  unfold hgt hat
  split
  · rename_i c
    constructor
    · intro e; exact ⟨c, (Option.some.inj e).symm⟩
    · rintro ⟨_, e⟩; rw [e]
  · rename_i c
    constructor
    · intro e; cases e
    · intro e; exact absurd e.1 c
theorem H_nn {found loads : List Int} {slack x : Int} (pos : ∀ k, 0 ≤ loads.getD k 0) : ∀ {k : Nat}, k < found.length → hgt found loads slack k = some x → 0 ≤ x ∧ loads.getD k 0 ≤ x := fun {k} hk h => by
  induction k using Nat.strongRecOn generalizing x with
  | ind k ih =>
    obtain ⟨_, e⟩ := H_some.mp h
    have m : 0 ≤ mxd (low (hts found loads slack k) found (found.getD k 0)) 0 := by
      rcases mxd_cases (low (hts found loads slack k) found (found.getD k 0)) 0 with ⟨_, q⟩ | ⟨q, _⟩
      · rw [q]; exact Int.le_refl 0
      · obtain ⟨j, jk, hj, _⟩ := (mem_low (by omega)).mp q
        exact (ih j jk (by omega) hj).1
    have := pos k
    omega
/-- the best that can be kept -/
def best (found loads : List Int) (slack : Int) : Int := mxd ((hts found loads slack found.length).filterMap id) 0
theorem mem_hts {found loads : List Int} {slack x : Int} {n : Nat} : x ∈ (hts found loads slack n).filterMap id ↔ ∃ k, k < n ∧ hgt found loads slack k = some x := by
  rw [List.mem_filterMap]
  constructor
  · rintro ⟨o, hm, e⟩
    obtain ⟨k, hk⟩ := List.mem_iff_getElem?.mp hm
    have kn : k < n := by
      have := (List.getElem?_eq_some_iff.mp hk).1
      rwa [hts_len] at this
    rw [hts_get kn] at hk
    cases hk
    exact ⟨k, kn, e⟩
  · rintro ⟨k, kn, e⟩
    exact ⟨some x, List.mem_iff_getElem?.mpr ⟨k, by rw [hts_get kn]; exact congrArg some e⟩, rfl⟩
theorem H_le_best {found loads : List Int} {slack x : Int} {k : Nat} (hk : k < found.length) (h : hgt found loads slack k = some x) : x ≤ best found loads slack := mxd_le (mem_hts.mpr ⟨k, hk, h⟩)
theorem best_nn {found loads : List Int} {slack : Int} (pos : ∀ k, 0 ≤ loads.getD k 0) : 0 ≤ best found loads slack := by
  unfold best
  rcases mxd_cases ((hts found loads slack found.length).filterMap id) 0 with ⟨_, q⟩ | ⟨q, _⟩
  · rw [q]; exact Int.le_refl 0
  · obtain ⟨k, kn, e⟩ := mem_hts.mp q
    exact (H_nn pos kn e).1
/-- what a choice of ranks weighs -/
def wt (loads : List Int) (S : List Nat) : Int := (S.map fun k => loads.getD k 0).sum
theorem wt_snoc {loads : List Int} {S : List Nat} {k : Nat} : wt loads (S ++ [k]) = wt loads S + loads.getD k 0 := by simp [wt]
/-- ranks whose leads may be kept together -/
structure Fit (found : List Int) (slack : Int) (S : List Nat) : Prop where
  up : S.Pairwise fun a b => a < b ∧ found.getD a 0 ≤ found.getD b 0
  ok : ∀ k ∈ S, k < found.length ∧ 0 ≤ found.getD k 0 ∧ found.getD k 0 ≤ slack
theorem Fit.init {found : List Int} {slack : Int} {S : List Nat} {k : Nat} (h : Fit found slack (S ++ [k])) : Fit found slack S := ⟨(List.pairwise_append.mp h.up).1, fun x hx => h.ok x (List.mem_append_left _ hx)⟩
theorem wt_le_H {found loads : List Int} {slack : Int} (pos : ∀ k, 0 ≤ loads.getD k 0) (n : Nat) : ∀ {S : List Nat} {k : Nat}, S.length = n → Fit found slack (S ++ [k]) → ∃ x, hgt found loads slack k = some x ∧ wt loads (S ++ [k]) ≤ x := by
  induction n with
  | zero =>
    intro S k hn h
    obtain ⟨kl, k0, k1⟩ := h.ok k (by simp)
    have e : S = [] := List.length_eq_zero_iff.mp hn
    subst e
    obtain ⟨x, hx⟩ : ∃ x, hgt found loads slack k = some x := ⟨_, H_some.mpr ⟨⟨k0, k1⟩, rfl⟩⟩
    refine ⟨x, hx, ?_⟩
    have := (H_nn pos kl hx).2
    simp only [List.nil_append, wt, List.map_cons, List.map_nil, List.sum_cons, List.sum_nil]
    omega
  | succ n ih =>
    intro S k hn h
    obtain ⟨kl, k0, k1⟩ := h.ok k (by simp)
    rcases List.eq_nil_or_concat S with rfl | ⟨T, j, rfl⟩
    · cases hn
    · rw [List.concat_eq_append] at *
      obtain ⟨x, hx, le⟩ := ih (by simpa using hn) h.init
      have jk := (List.pairwise_append.mp h.up).2.2 j (by simp) k (by simp)
      have := mxd_le (d := 0) ((mem_low (loads := loads) (slack := slack) (lead := found.getD k 0) (k := k) (by omega)).mpr ⟨j, jk.1, hx, jk.2⟩)
      refine ⟨_, H_some.mpr ⟨⟨k0, k1⟩, rfl⟩, ?_⟩
      rw [wt_snoc]
      omega
theorem wt_le_best {found loads : List Int} {slack : Int} (pos : ∀ k, 0 ≤ loads.getD k 0) {S : List Nat} (h : Fit found slack S) : wt loads S ≤ best found loads slack := by
  rcases List.eq_nil_or_concat S with rfl | ⟨T, j, rfl⟩
  · exact best_nn pos
  · rw [List.concat_eq_append] at *
    obtain ⟨x, hx, le⟩ := wt_le_H pos T.length rfl h
    exact Int.le_trans le (H_le_best (h.ok j (by simp)).1 hx)
/-! the walk back: ranks chosen so far (the last chosen first), what is still to find -/
structure Back (found loads : List Int) (slack : Int) (r : Nat) (R : List Nat) (left : Int) : Prop where
  fit : Fit found slack R
  ge : ∀ k ∈ R, r ≤ k
  sum : wt loads R + left = best found loads slack
  more : left = 0 ∨ ∃ j, j < r ∧ hgt found loads slack j = some left ∧ ∀ k ∈ R, found.getD j 0 ≤ found.getD k 0
  nn : 0 ≤ left
theorem back_start {found loads : List Int} {slack : Int} (pos : ∀ k, 0 ≤ loads.getD k 0) : Back found loads slack found.length [] (best found loads slack) := by
  refine ⟨⟨.nil, (fun k h => nomatch h)⟩, (fun k h => nomatch h), by simp only [wt, List.map_nil, List.sum_nil]; omega, ?_, best_nn pos⟩
  unfold best
  rcases mxd_cases ((hts found loads slack found.length).filterMap id) 0 with ⟨_, q⟩ | ⟨q, _⟩
  · exact .inl q
  · obtain ⟨k, kn, e⟩ := mem_hts.mp q
    exact .inr ⟨k, kn, e, (fun k h => nomatch h)⟩
theorem low_more {found loads : List Int} {slack x : Int} {k : Nat} (hk : k ≤ found.length) (h : hgt found loads slack k = some x) : x - loads.getD k 0 = 0 ∨ ∃ j, j < k ∧ hgt found loads slack j = some (x - loads.getD k 0) ∧ found.getD j 0 ≤ found.getD k 0 := by
  obtain ⟨_, e⟩ := H_some.mp h
  rcases mxd_cases (low (hts found loads slack k) found (found.getD k 0)) 0 with ⟨_, q⟩ | ⟨q, _⟩
  · exact .inl (by omega)
  · obtain ⟨j, jk, hj, le⟩ := (mem_low hk).mp q
    exact .inr ⟨j, jk, by rw [hj]; congr 1; omega, le⟩
theorem back_take {found loads : List Int} {slack left : Int} {r : Nat} {R : List Nat} (pos : ∀ k, 0 ≤ loads.getD k 0) (hr : r < found.length) (B : Back found loads slack (r + 1) R left) (h : hgt found loads slack r = some left) (hb : ∀ k ∈ R, found.getD r 0 ≤ found.getD k 0) :
    Back found loads slack r (r :: R) (left - loads.getD r 0) := by
  obtain ⟨c, e⟩ := H_some.mp h
  refine ⟨⟨List.pairwise_cons.mpr ⟨fun k hk => ⟨B.ge k hk, hb k hk⟩, B.fit.up⟩, fun k hk => ?_⟩, fun k hk => ?_, ?_, ?_, ?_⟩
  · rcases List.mem_cons.mp hk with rfl | hk
    · exact ⟨hr, c⟩
    · exact B.fit.ok k hk
  · rcases List.mem_cons.mp hk with rfl | hk
    · exact Nat.le_refl _
    · have := B.ge k hk; omega
  · have := B.sum
    simp only [wt, List.map_cons, List.sum_cons] at this ⊢
    omega
  · rcases low_more (by omega) h with q | ⟨j, jk, hj, le⟩
    · exact .inl q
    · refine .inr ⟨j, jk, hj, fun k hk => ?_⟩
      rcases List.mem_cons.mp hk with rfl | hk
      · exact le
      · exact Int.le_trans le (hb k hk)
  · have := (H_nn pos hr h).2
    omega
theorem back_pass {found loads : List Int} {slack left : Int} {r : Nat} {R : List Nat} (pos : ∀ k, 0 ≤ loads.getD k 0) (hr : r < found.length) (B : Back found loads slack (r + 1) R left)
    (h : ¬ (0 < left ∧ hgt found loads slack r = some left ∧ 0 < loads.getD r 0 ∧ ∀ k ∈ R, found.getD r 0 ≤ found.getD k 0)) : Back found loads slack r R left := by
  refine ⟨B.fit, fun k hk => by have := B.ge k hk; omega, B.sum, ?_, B.nn⟩
  by_cases z : left = 0
  · exact .inl z
  · have lp : 0 < left := by have := B.nn; omega
    rcases B.more with q | ⟨j, jk, hj, hb⟩
    · exact absurd q z
    · by_cases e : j = r
      · subst e
        have l0 : loads.getD j 0 = 0 := by
          have := pos j
          have : ¬ 0 < loads.getD j 0 := fun c => h ⟨lp, hj, c, hb⟩
          omega
        rcases low_more (by omega) hj with q | ⟨i, ij, hi, le⟩
        · omega
        · rw [l0, Int.sub_zero] at hi
          exact .inr ⟨i, ij, hi, fun k hk => Int.le_trans le (hb k hk)⟩
      · exact .inr ⟨j, by omega, hj, hb⟩
theorem back_end {found loads : List Int} {slack left : Int} {R : List Nat} (B : Back found loads slack 0 R left) : Fit found slack R ∧ wt loads R = best found loads slack := by
  have l0 : left = 0 := by
    rcases B.more with q | ⟨j, jk, _⟩
    · exact q
    · omega
  have := B.sum
  exact ⟨B.fit, by omega⟩
/-! which ranks can keep their codes -/
def canL (cs : List Int) (S : List Nat) : Nat → Option Int
  | 0 => some (-1)
  | k + 1 => match canL cs S k with
    | none => none
    | some l => if (if k ∈ S then cs.getD k 0 else l + 1) ≤ l then none else some (if k ∈ S then cs.getD k 0 else l + 1)
def can (cs : List Int) (S : List Nat) (room : Int) : Bool := match canL cs S cs.length with
  | none => false
  | some l => decide (l < room)
def lds (cs : List Int) : List Int := (List.range cs.length).map fun k => cs.getD k 0 - (k : Int)
theorem lds_get {cs : List Int} {k : Nat} (h : k < cs.length) : (lds cs).getD k 0 = cs.getD k 0 - (k : Int) := by
  rw [lds, List.getD_eq_getElem?_getD, List.getElem?_map, List.getElem?_range h]
  rfl
theorem lds_len {cs : List Int} : (lds cs).length = cs.length := by simp [lds]
theorem canL_some {cs : List Int} {S : List Nat} : ∀ {k : Nat} {l : Int}, canL cs S k = some l → (k : Int) - 1 ≤ l ∧ (∀ j ∈ S, j < k → 0 ≤ cs.getD j 0 - (j : Int) ∧ cs.getD j 0 - (j : Int) ≤ l - ((k : Int) - 1)) ∧ ∀ i ∈ S, ∀ j ∈ S, i < j → j < k → cs.getD i 0 - (i : Int) ≤ cs.getD j 0 - (j : Int)
  | 0, l, h => by
    cases h
    exact ⟨by omega, fun j _ h => absurd h (Nat.not_lt_zero _), fun i _ j _ _ h => absurd h (Nat.not_lt_zero _)⟩
  | k + 1, l, h => by
    rw [canL] at h
    split at h
    · cases h
    · rename_i m hm
      obtain ⟨a1, a2, a3⟩ := canL_some hm
      by_cases c : (if k ∈ S then cs.getD k 0 else m + 1) ≤ m
      · rw [if_pos c] at h
        cases h
      · rw [if_neg c] at h
        have e := Option.some.inj h
        have top : ∀ j ∈ S, j < k + 1 → j = k → cs.getD j 0 = l := fun j hj _ q => by
          subst q
          rw [← e, if_pos hj]
        refine ⟨by rw [← e]; omega, fun j hj jk => ?_, fun i hi j hj ij jk => ?_⟩
        · by_cases q : j = k
          · have t := top j hj jk q
            omega
          · have := a2 j hj (by omega)
            omega
        · by_cases q : j = k
          · have t := top j hj jk q
            have := a2 i hi (by omega)
            omega
          · exact a3 i hi j hj ij (by omega)
theorem can_fit {cs : List Int} {S : List Nat} {room : Int} (h : can cs S room = true) (up : S.Pairwise (· < ·)) (lt : ∀ k ∈ S, k < cs.length) : Fit (lds cs) (room - cs.length) S := by
  unfold can at h
  split at h
  · cases h
  · rename_i l hl
    obtain ⟨a1, a2, a3⟩ := canL_some hl
    have lr := of_decide_eq_true h
    refine ⟨?_, fun k hk => ?_⟩
    · refine List.Pairwise.imp_of_mem (fun {a b} ha hb q => ⟨q, ?_⟩) up
      rw [lds_get (lt a ha), lds_get (lt b hb)]
      exact a3 a ha b hb q (lt b hb)
    · rw [lds_len, lds_get (lt k hk)]
      have := a2 k hk (lt k hk)
      exact ⟨lt k hk, by omega, by omega⟩
/-- fresh codes for all ranks -/
structure Frs (room : Int) (fr : List Int) : Prop where
  up : fr.Pairwise (· < ·)
  ok : ∀ x ∈ fr, 0 ≤ x ∧ x < room
theorem pw_get {fr : List Int} (h : fr.Pairwise (· < ·)) {i j : Nat} (ij : i < j) (jl : j < fr.length) : fr.getD i 0 < fr.getD j 0 := by
  rw [List.getD_eq_getElem?_getD, List.getD_eq_getElem?_getD, List.getElem?_eq_getElem jl, List.getElem?_eq_getElem (by omega : i < fr.length)]
  exact List.pairwise_iff_getElem.mp h i j (by omega) jl ij
theorem mem_get {fr : List Int} {k : Nat} (h : k < fr.length) : fr.getD k 0 ∈ fr := by
  rw [List.getD_eq_getElem?_getD, List.getElem?_eq_getElem h]
  exact List.getElem_mem h
theorem can_of {cs fr : List Int} {S : List Nat} {room : Int} (r0 : 0 ≤ room) (F : Frs room fr) (len : fr.length = cs.length) (q : ∀ k ∈ S, fr.getD k 0 = cs.getD k 0) : can cs S room = true := by
  have go : ∀ k, k ≤ cs.length → ∃ l, canL cs S k = some l ∧ l < room ∧ ∀ h : k < cs.length, l + 1 ≤ fr.getD k 0 := fun k => by
    induction k with
    | zero =>
      intro _
      refine ⟨-1, rfl, by omega, fun h => ?_⟩
      have := (F.ok _ (mem_get (k := 0) (by omega))).1
      omega
    | succ k ih =>
      intro hk
      obtain ⟨l, e, lr, nx⟩ := ih (by omega)
      have nx := nx (by omega)
      have fk := (F.ok _ (mem_get (k := k) (by omega))).2
      have le : (if k ∈ S then cs.getD k 0 else l + 1) ≤ fr.getD k 0 ∧ l < (if k ∈ S then cs.getD k 0 else l + 1) := by
        split
        · rename_i m
          rw [← q k m]
          omega
        · omega
      refine ⟨_, by rw [canL, e]; exact if_neg (by omega), by omega, fun h => ?_⟩
      have := pw_get F.up (i := k) (j := k + 1) (by omega) (by omega)
      omega
  obtain ⟨l, e, lr, _⟩ := go cs.length (Nat.le_refl _)
  unfold can
  rw [e]
  exact decide_eq_true lr
/-! all choices of ranks -/
def subs : Nat → List (List Nat)
  | 0 => [[]]
  | k + 1 => subs k ++ (subs k).map fun r => r ++ [k]
theorem subs_ok : ∀ {n : Nat} {S : List Nat}, S ∈ subs n → S.Pairwise (· < ·) ∧ ∀ k ∈ S, k < n
  | 0, S, h => by
    have e : S = [] := by simpa [subs] using h
    subst e
    exact ⟨.nil, fun k h => (nomatch h)⟩
  | n + 1, S, h => by
    rw [subs] at h
    rcases List.mem_append.mp h with h | h
    · obtain ⟨a, b⟩ := subs_ok h
      exact ⟨a, fun k hk => by have := b k hk; omega⟩
    · obtain ⟨r, hr, e⟩ := List.mem_map.mp h
      subst e
      obtain ⟨a, b⟩ := subs_ok hr
      refine ⟨List.pairwise_append.mpr ⟨a, List.pairwise_singleton _ _, fun x hx y hy => ?_⟩, fun k hk => ?_⟩
      · rw [List.mem_singleton.mp hy]; exact b x hx
      · rcases List.mem_append.mp hk with hk | hk
        · have := b k hk; omega
        · rw [List.mem_singleton.mp hk]; omega
theorem filter_subs (q : Nat → Bool) : ∀ n : Nat, (List.range n).filter q ∈ subs n
  | 0 => by simp [subs]
  | n + 1 => by
    rw [List.range_succ, List.filter_append, subs]
    by_cases c : q n = true
    · rw [show [n].filter q = [n] by simp [c]]
      exact List.mem_append_right _ (List.mem_map.mpr ⟨_, filter_subs q n, rfl⟩)
    · rw [show [n].filter q = [] by simp [c], List.append_nil]
      exact List.mem_append_left _ (filter_subs q n)
theorem wt_cons {loads : List Int} {S : List Nat} {k : Nat} : wt loads (k :: S) = loads.getD k 0 + wt loads S := by simp only [wt, List.map_cons, List.sum_cons]
theorem wt_perm {loads : List Int} {S T : List Nat} (h : S.Perm T) : wt loads S = wt loads T := by
  induction h with
  | nil => rfl
  | cons x _ ih => rw [wt_cons, wt_cons, ih]
  | swap x y l => rw [wt_cons, wt_cons, wt_cons, wt_cons]; omega
  | trans _ _ a b => exact a.trans b
theorem wt_sub {loads : List Int} (pos : ∀ k, 0 ≤ loads.getD k 0) : ∀ {R S : List Nat}, R.Nodup → (∀ k ∈ R, k ∈ S) → wt loads R ≤ wt loads S
  | [], S, _, _ => by
    have : ∀ T : List Nat, 0 ≤ wt loads T := fun T => by
      induction T with
      | nil => exact Int.le_refl 0
      | cons a T ih =>
        have := pos a
        simp only [wt, List.map_cons, List.sum_cons] at ih ⊢
        omega
    exact this S
  | a :: R, S, nd, h => by
    obtain ⟨na, nd'⟩ := List.nodup_cons.mp nd
    have p := List.perm_cons_erase (h a (List.mem_cons_self ..))
    have := wt_sub pos (S := S.erase a) nd' fun k hk => (List.mem_erase_of_ne (fun (e : k = a) => na (e ▸ hk))).mpr (h k (List.mem_cons_of_mem _ hk))
    rw [wt_perm p]
    simp only [wt, List.map_cons, List.sum_cons] at this ⊢
    omega
/-- ranks that keep their codes -/
def kq (cs fr : List Int) (k : Nat) : Bool := decide (fr.getD k 0 = cs.getD k 0)
def kps (cs fr : List Int) (n : Nat) : List Nat := (List.range n).filter (kq cs fr)
def csts (cs fr : List Int) (n : Nat) : List Nat := (List.range n).filter fun k => !kq cs fr k
theorem wt_both {loads cs fr : List Int} : ∀ n, wt loads (kps cs fr n) + wt loads (csts cs fr n) = wt loads (List.range n)
  | 0 => by simp [kps, csts, wt]
  | n + 1 => by
    have ih := wt_both (loads := loads) (cs := cs) (fr := fr) n
    unfold kps csts at ih ⊢
    rw [List.range_succ, List.filter_append, List.filter_append, wt_snoc]
    cases c : kq cs fr n
    · rw [show [n].filter (kq cs fr) = [] by simp [c], show ([n].filter fun k => !kq cs fr k) = [n] by simp [c], List.append_nil, wt_snoc]
      omega
    · rw [show [n].filter (kq cs fr) = [n] by simp [c], show ([n].filter fun k => !kq cs fr k) = [] by simp [c], List.append_nil, wt_snoc]
      omega
theorem wt_range {loads : List Int} : wt loads (List.range loads.length) = loads.sum := by
  have e : (List.range loads.length).map (fun k => loads.getD k 0) = loads := by
    refine List.ext_getElem (by simp) fun i h1 h2 => ?_
    simp only [List.getElem_map, List.getElem_range]
    rw [List.getD_eq_getElem?_getD, List.getElem?_eq_getElem h2]
    rfl
  rw [wt, e]
/-- what the kept ranks weigh is the most that can be -/
theorem kept_best {cs loads fr : List Int} {room : Int} {R : List Nat} (pos : ∀ k, 0 ≤ loads.getD k 0) (F : Frs room fr) (len : fr.length = cs.length) (fit : Fit (lds cs) (room - cs.length) R) (hw : wt loads R = best (lds cs) loads (room - cs.length)) (hk : ∀ k ∈ R, fr.getD k 0 = cs.getD k 0) :
    ∀ S ∈ subs cs.length, can cs S room = true → wt loads S ≤ wt loads (kps cs fr cs.length) := fun S hS c => by
  obtain ⟨a, b⟩ := subs_ok hS
  have h1 := wt_le_best pos (can_fit c a b)
  have h2 := wt_sub pos (R := R) (S := kps cs fr cs.length) (fit.up.imp fun q => Nat.ne_of_lt q.1) fun k hk' => by
    have := (fit.ok k hk').1
    rw [lds_len] at this
    exact List.mem_filter.mpr ⟨List.mem_range.mpr this, decide_eq_true (hk k hk')⟩
  omega
/-- the least cost of all choices -/
structure Least (cs loads : List Int) (room m : Int) : Prop where
  le : m ≤ loads.sum
  low : ∀ S ∈ subs cs.length, can cs S room = true → m ≤ loads.sum - wt loads S
  hit : m = loads.sum ∨ ∃ S ∈ subs cs.length, can cs S room = true ∧ m = loads.sum - wt loads S
theorem cost_least {cs loads fr : List Int} {room m : Int} (r0 : 0 ≤ room) (ll : loads.length = cs.length) (pos : ∀ k, 0 ≤ loads.getD k 0) (F : Frs room fr) (len : fr.length = cs.length)
    (hb : ∀ S ∈ subs cs.length, can cs S room = true → wt loads S ≤ wt loads (kps cs fr cs.length)) (L : Least cs loads room m) : wt loads (csts cs fr cs.length) = m := by
  have both := wt_both (loads := loads) (cs := cs) (fr := fr) cs.length
  rw [← ll, wt_range, ll] at both
  have up := L.low _ (filter_subs (kq cs fr) cs.length) (can_of r0 F len fun k hk => of_decide_eq_true (List.mem_filter.mp hk).2)
  have k0 := wt_sub pos (R := []) (S := kps cs fr cs.length) List.nodup_nil fun k h => (nomatch h)
  have z : wt loads [] = 0 := rfl
  change m ≤ loads.sum - wt loads (kps cs fr cs.length) at up
  rcases L.hit with e | ⟨S, hS, c, e⟩
  · omega
  · have := hb S hS c
    omega
/-! leads between the anchors -/
def segv (s low e high : Int) (i : Nat) : Int := low + (high - low) * ((i : Int) + 1) / (e - s)
def seg (s low e high : Int) : List Int := (List.range (e - s).toNat).map (segv s low e high)
theorem segv_in {s low e high : Int} {i : Nat} (lt : s < e) (le : low ≤ high) (hi : i < (e - s).toNat) : low ≤ segv s low e high i ∧ segv s low e high i ≤ high := by
  unfold segv
  have p : 0 < e - s := by omega
  have q1 : 0 ≤ (high - low) * ((i : Int) + 1) / (e - s) := Int.ediv_nonneg (Int.mul_nonneg (by omega) (by omega)) (by omega)
  have q2 : (high - low) * ((i : Int) + 1) / (e - s) ≤ high - low := by
    refine Int.ediv_le_of_le_mul p ?_
    exact Int.mul_le_mul_of_nonneg_left (by omega) (by omega)
  omega
theorem segv_up {s low e high : Int} {i j : Nat} (lt : s < e) (le : low ≤ high) (ij : i ≤ j) : segv s low e high i ≤ segv s low e high j := by
  unfold segv
  have q : (high - low) * ((i : Int) + 1) / (e - s) ≤ (high - low) * ((j : Int) + 1) / (e - s) := Int.ediv_le_ediv (by omega) (Int.mul_le_mul_of_nonneg_left (by omega) (by omega))
  omega
theorem segv_end {s low e high : Int} {i : Nat} (lt : s < e) (hi : (i : Int) + 1 = e - s) : segv s low e high i = high := by
  unfold segv
  rw [hi, Int.mul_ediv_cancel _ (by omega)]
  omega
theorem seg_len {s low e high : Int} : (seg s low e high).length = (e - s).toNat := by simp [seg]
theorem seg_mem {s low e high x : Int} (lt : s < e) (le : low ≤ high) (h : x ∈ seg s low e high) : low ≤ x ∧ x ≤ high := by
  obtain ⟨i, hi, rfl⟩ := List.mem_map.mp h
  exact segv_in lt le (List.mem_range.mp hi)
theorem seg_up {s low e high : Int} (lt : s < e) (le : low ≤ high) : (seg s low e high).Pairwise (· ≤ ·) := by
  rw [seg, List.pairwise_map]
  exact List.pairwise_lt_range.imp fun q => segv_up lt le (Nat.le_of_lt q)
abbrev Anc := List (Int × Int)
def an (A : Anc) (j : Nat) : Int × Int := A.getD j (0, 0)
def spr (A : Anc) : Nat → List Int
  | 0 => []
  | i + 1 => spr A i ++ seg (an A i).1 (an A i).2 (an A (i + 1)).1 (an A (i + 1)).2
/-- ascending ranks, leads that do not fall -/
def AscA (A : Anc) : Prop := ∀ j, j + 1 < A.length → (an A j).1 < (an A (j + 1)).1 ∧ (an A j).2 ≤ (an A (j + 1)).2
theorem spr_all {A : Anc} (h : AscA A) : ∀ i, i < A.length → (an A 0).1 ≤ (an A i).1 ∧ (an A 0).2 ≤ (an A i).2 ∧ ((spr A i).length : Int) = (an A i).1 - (an A 0).1 ∧ (∀ x ∈ spr A i, (an A 0).2 ≤ x ∧ x ≤ (an A i).2) ∧ (spr A i).Pairwise (· ≤ ·) ∧
    ∀ j, 0 < j → j ≤ i → (an A 0).1 < (an A j).1 ∧ (an A j).1 ≤ (an A i).1 ∧ (spr A i)[((an A j).1 - (an A 0).1 - 1).toNat]? = some (an A j).2
  | 0, _ => ⟨Int.le_refl _, Int.le_refl _, by rw [Int.sub_self]; rfl, fun x hx => (nomatch hx), .nil, fun j h0 h1 => by omega⟩
  | i + 1, hi => by
    obtain ⟨a1, a2, a3, a4, a5, a6⟩ := spr_all h i (by omega)
    obtain ⟨b1, b2⟩ := h i hi
    refine ⟨by omega, by omega, ?_, fun x hx => ?_, ?_, fun j j0 ji => ?_⟩
    · rw [spr, List.length_append, seg_len]
      omega
    · rw [spr] at hx
      rcases List.mem_append.mp hx with hx | hx
      · have := a4 x hx; omega
      · have := seg_mem b1 b2 hx; omega
    · rw [spr]
      refine List.pairwise_append.mpr ⟨a5, seg_up b1 b2, fun x hx y hy => ?_⟩
      have := a4 x hx
      have := seg_mem b1 b2 hy
      omega
    · by_cases e : j = i + 1
      · subst e
        refine ⟨by omega, Int.le_refl _, ?_⟩
        have ln : (spr A i).length = ((an A i).1 - (an A 0).1).toNat := by omega
        rw [spr, List.getElem?_append_right (by omega), seg, List.getElem?_map, List.getElem?_range (by omega)]
        show some (segv _ _ _ _ _) = _
        rw [segv_end b1 (by omega)]
      · obtain ⟨c1, c2, c3⟩ := a6 j j0 (by omega)
        refine ⟨c1, by omega, ?_⟩
        rw [spr, List.getElem?_append_left (List.getElem?_eq_some_iff.mp c3).1]
        exact c3
def fs_in_order : FS := fun as p => ∃ (w : Bool) (es : List (Pr w)), as = [.val (.lst (psD w es))] ∧ es.length ≤ 1000 ∧ Up w es ∧ p (.val (.bl (upc es))) as
def fs_told_by_first : FS := fun as p => ∃ (w : Bool) (ps : List (Vt w × D)), as = [.val (.lst (ps.map fun e => D.tup [vD w e.1, e.2]))] ∧ ps.length ≤ 1000 ∧ (∀ e ∈ ps, dOkN 0 (vD w e.1) = true ∧ dOkN 0 e.2 = true) ∧ (ps.map Prod.fst).Nodup ∧ p (.val (.bl true)) as
def fs_kept_by : FS := fun as p => ∃ (w : Bool) (es : List (Pr w)), as = [.val (.lst (psD w es))] ∧ es.length ≤ 1000 ∧ Up w es ∧ (snds es).Nodup ∧ (∀ e ∈ es, isV w e.1 = true) ∧ p (.val (.str (kpt w es))) as
def fs_is_word : FS := fun as p => ∃ s : Str, as = [.val (.str s)] ∧ s.length ≤ 1000 ∧ p (.val (.bl (isW s))) as
def fs_is_value : FS := fun as p => ∃ (w : Bool) (d : D), as = [.val (.str (dom w)), .val d] ∧ vlOk d ∧ p (.val (.bl (isVD w d))) as
def fs_check_room : FSX := fun as p x => ∃ room : Int, as = [.val (.int room)] ∧ (badRoom room → x 4 (some [("room", .int room)]) as) ∧ (¬ badRoom room → p (.val .non) as)
def fs_is_code : FS := fun as p => ∃ c : Int, as = [.val (.int c)] ∧ p (.val (.bl (decide (0 ≤ c) && decide (c ≤ 9999999)))) as
def fs_Book___init__ : FSX := fun as p x => ∃ (w t : Bool) (room : Int) (es0 : List (Pr w)), as = [.own (some 0) (.ins "Book" []), .val (.str (dom w)), .val (.int room), .val (ltD t (psD w es0))] ∧
  ((badRoom room ∧ x 4 (some [("room", .int room)]) as) ∨ ∃ es, es0.Perm es ∧ Ents w es room ∧ ∀ fs, Bk w room es fs → p (.val .non) [.own (some 0) (.ins "Book" fs), .val (.str (dom w)), .val (.int room), .val (ltD t (psD w es0))])
def fs_Book___contains__ : FS := fun as p => ∃ (w : Bool) (room : Int) (es : List (Pr w)) (fs : List (Str × D)) (v : Vt w), as = [.val (.obj "Book" fs), .val (vD w v)] ∧ Bk w room es fs ∧ isV w v = true ∧ p (.val (.bl (decide (v ∈ fsts es)))) as
def fs_Book_code_of : FSX := fun as p x => ∃ (w : Bool) (room : Int) (es : List (Pr w)) (fs : List (Str × D)) (e : Pr w), as = [.val (.obj "Book" fs), .val (vD w e.1)] ∧ Bk w room es fs ∧ isV w e.1 = true ∧ e ∈ es ∧ p (.val (.int e.2)) as
def fs_l_take : FS := fun as p => ∃ (ms : List Int) (m : Int), as = [.own (some 0) (.lst (intsD ms)), .val (.int m)] ∧ Pool ms ∧ 0 < m ∧ m < 2 ^ 40 ∧
  ∀ d ms', 0 ≤ d → d < m → Pool ms' → p (.val (.int d)) [.own (some 0) (.lst (intsD ms')), .val (.int m)]
/-! ### mending -/
def words : List Str := ["a", "aa", "ab", "b", "ba", "cab", "d", "m", "ma", "oslo", "osloa", "p", "paris", "pisa", "q", "rome", "romea", "z", "zz", "zzzzzzzz"]
def hD : Option Int → D
  | some x => .int x
  | none => .non
theorem hD_s {x : Int} : hD (some x) = .int x := rfl
theorem hD_n : hD none = .non := rfl
abbrev optD (hs : Hs) : List D := hs.map hD
def ancD (a : Int × Int) : D := .tup [.int a.1, .int a.2]
abbrev natD (R : List Nat) : List D := R.map fun (k : Nat) => D.int (k : Int)
def Pos (loads : List Int) : Prop := ∀ x ∈ loads, 0 ≤ x ∧ x ≤ 1000000
/-- the k-th value -/
def vat (w : Bool) (es : List (Pr w)) (k : Nat) : D := match es[k]? with
  | some e => vD w e.1
  | none => .non
/-- new codes -/
def reb {w : Bool} (es : List (Pr w)) (fr : List Int) : List (Pr w) := List.zipWith (fun e c => (e.1, c)) es fr
structure Mf (fs : List (Str × D)) (b : D) (cost : Int) (ks : List D) : Prop where
  book : fs.lookup ("book" : Str) = some b
  cost : fs.lookup ("cost" : Str) = some (.int cost)
  kept : fs.lookup ("kept" : Str) = some (.tup ks)
structure Made (w : Bool) (es : List (Pr w)) (r : Int) (loads : List Int) (fs : List (Str × D)) (fr : List Int) : Prop where
  len : fr.length = es.length
  frs : Frs r fr
  bst : ∀ S ∈ subs (snds es).length, can (snds es) S r = true → wt loads S ≤ wt loads (kps (snds es) fr (snds es).length)
  mf : ∃ g, Bk w r (reb es fr) g ∧ Mf fs (.obj "Book" g) (wt loads (csts (snds es) fr (snds es).length)) ((kps (snds es) fr (snds es).length).map (vat w es))
/-- the weights as they are looked up -/
structure Wts (w : Bool) (vs : List (Vt w)) (kd : List (Key × D)) (loads : List Int) : Prop where
  len : loads.length = vs.length
  pos : Pos loads
  get : ∀ (k : Nat) (v : Vt w), vs[k]? = some v → (vlk kd (vK w v)).getD (.int 0) = .int (loads.getD k 0)
def stray : (w : Bool) → Vt w
  | false => (777777777 : Int)
  | true => ("zebra" : Str)
def fs_Book_strays : FS := fun as p => ∃ (w : Bool) (room : Int) (es : List (Pr w)) (fs : List (Str × D)), as = [.val (.obj "Book" fs)] ∧ Bk w room es fs ∧ es.length ≤ 1000 ∧ p (.val (.tup ((es.filter fun e => decide (room ≤ e.2)).map fun e => vD w e.1))) as
def fs_leads : FS := fun as p => ∃ (w : Bool) (room : Int) (es : List (Pr w)) (fs : List (Str × D)), as = [.val (.obj "Book" fs)] ∧ Bk w room es fs ∧ es.length ≤ 1000 ∧ p (.new (.lst (intsD (lds (snds es))))) as
def fs_heights_of : FS := fun as p => ∃ (found loads : List Int) (slack : Int), as = [.val (.lst (intsD found)), .val (.lst (intsD loads)), .val (.int slack)] ∧ loads.length = found.length ∧ found.length ≤ 1000 ∧ p (.new (.lst (optD (hts found loads slack found.length)))) as
def fs_kept_ranks : FS := fun as p => ∃ (found loads : List Int) (slack : Int), as = [.val (.lst (intsD found)), .val (.lst (intsD loads)), .val (.lst (optD (hts found loads slack found.length)))] ∧ loads.length = found.length ∧ found.length ≤ 1000 ∧ (∀ k, 0 ≤ loads.getD k 0) ∧
  ∀ R : List Nat, Fit found slack R → wt loads R = best found loads slack → p (.new (.lst (natD R))) as
def fs_spread_leads : FS := fun as p => ∃ (A : Anc), as = [.val (.lst (A.map ancD))] ∧ A.length ≤ 1000 ∧ 2 ≤ A.length ∧ AscA A ∧ (∀ a ∈ A, -1 ≤ a.1 ∧ a.1 ≤ 1000 ∧ 0 ≤ a.2 ∧ a.2 ≤ 1000000) ∧ p (.new (.lst (intsD (spr A (A.length - 1)).dropLast))) as
def fs_clash_chains : FS := fun as p => ∃ (w : Bool) (vs : List (Vt w)) (loads : List Int) (hs : Hs), as = [.val (.lst (vs.map (vD w))), .val (.lst (intsD loads)), .val (.lst (optD hs))] ∧ vs.length ≤ 31 ∧ ∀ cs : List D, cs.length ≤ 1000 → p (.new (.lst cs)) as
def fs_Mending___init__ : FS := fun as p => ∃ (b : D) (cost : Int) (ks cs : List D), as = [.own (some 0) (.ins "Mending" []), .val b, .val (.int cost), .val (.lst ks), .val (.lst cs)] ∧ ∀ fs, Mf fs b cost ks → p (.val .non) [.own (some 0) (.ins "Mending" fs), .val b, .val (.int cost), .val (.lst ks), .val (.lst cs)]
def fs_mend_book : FSX := fun as p x => ∃ (w : Bool) (room r : Int) (es : List (Pr w)) (g : List (Str × D)) (kd : List (Key × D)) (loads : List Int), as = [.val (.obj "Book" g), .val (.int r), .own (some 2) (.dct kd)] ∧ Bk w room es g ∧ Ents w es room ∧ es.length ≤ 31 ∧ Wts w (fsts es) kd loads ∧
  (badRoom r → x 4 (some [("room", .int r)]) as) ∧ (¬ badRoom r → r < es.length → x 10 (some [("room", .int r)]) as) ∧ (¬ badRoom r → es.length ≤ r → ∀ m fr, Made w es r loads m fr → p (.val (.obj "Mending" m)) as)
def fs_l_mended : FS := fun as p => ∃ (w : Bool) (room r : Int) (es : List (Pr w)) (g : List (Str × D)) (kd : List (Key × D)) (loads : List Int), as = [.val (.obj "Book" g), .val (.int r), .own (some 2) (.dct kd)] ∧ Bk w room es g ∧ Ents w es room ∧ es.length ≤ 31 ∧ Wts w (fsts es) kd loads ∧
  (badRoom r → p (.val (.tup [.str "BadRoom", .int r])) as) ∧ (¬ badRoom r → r < es.length → p (.val (.tup [.str "NoRoom", .int r])) as) ∧ (¬ badRoom r → es.length ≤ r → ∀ m fr, Made w es r loads m fr → p (.val (.tup [.str "made", .obj "Mending" m])) as)
def fs_l_whole : FS := fun as p => ∃ a : Int, as = [.val (.int a)] ∧ p (.val (.bl true)) as
def fs_l_words : FS := fun as p => as = [] ∧ p (.new (.lst (words.map D.str))) as
def fs_l_room : FS := fun as p => ∃ (ms : List Int), as = [.own (some 0) (.lst (intsD ms))] ∧ Pool ms ∧ ∀ room ms', 1 ≤ room → room ≤ 1000000 → Pool ms' → p (.val (.int room)) [.own (some 0) (.lst (intsD ms'))]
structure Cods (room : Int) (cs : List Int) : Prop where
  nd : cs.Nodup
  ok : ∀ x ∈ cs, 0 ≤ x ∧ x ≤ 9999999
  inr : (cs.filter fun c => decide (c < room)).Pairwise (· < ·)
def fs_l_codes : FS := fun as p => ∃ (ms : List Int) (n : Nat) (room : Int), as = [.own (some 0) (.lst (intsD ms)), .val (.int (n : Int)), .val (.int room)] ∧ Pool ms ∧ n ≤ 7 ∧ 1 ≤ room ∧ room ≤ 1000000 ∧
  ∀ (cs : List Int) ms', cs.length = n → Cods room cs → Pool ms' → p (.new (.lst (intsD cs))) [.own (some 0) (.lst (intsD ms')), .val (.int (n : Int)), .val (.int room)]
def fs_l_values : FS := fun as p => ∃ (ms : List Int) (w : Bool) (n : Nat), as = [.own (some 0) (.lst (intsD ms)), .val (.str (dom w)), .val (.int (n : Int))] ∧ Pool ms ∧ n ≤ 7 ∧
  ∀ (vs : List (Vt w)) ms', vs.length = n → vs.Pairwise (fun a b => vlt w a b = true) → (∀ v ∈ vs, isV w v = true ∧ v ≠ stray w) → Pool ms' → p (.new (.lst (vs.map (vD w)))) [.own (some 0) (.lst (intsD ms')), .val (.str (dom w)), .val (.int (n : Int))]
def fs_l_weights : FS := fun as p => ∃ (ms : List Int) (w : Bool) (vs : List (Vt w)), as = [.own (some 0) (.lst (intsD ms)), .val (.lst (vs.map (vD w)))] ∧ Pool ms ∧ vs.length ≤ 7 ∧
  ∀ (ks : List (Key × Int)) ms', ks.length ≤ 7 → (∀ e ∈ ks, 0 ≤ e.2 ∧ e.2 ≤ 1000000) → Pool ms' → p (.new (.dct (kiD ks))) [.own (some 0) (.lst (intsD ms')), .val (.lst (vs.map (vD w)))]
def fs_l_subsets : FS := fun as p => ∃ n : Nat, as = [.val (.int (n : Int))] ∧ n ≤ 7 ∧ p (.new (.lst ((subs n).map fun S => D.lst (natD S)))) as
def fs_l_can : FS := fun as p => ∃ (cs : List Int) (S : List Nat) (room : Int), as = [.val (.lst (intsD cs)), .val (.lst (natD S)), .val (.int room)] ∧ cs.length ≤ 7 ∧ p (.val (.bl (can cs S room))) as
def fs_l_least : FS := fun as p => ∃ (cs loads : List Int) (room : Int), as = [.val (.lst (intsD cs)), .val (.lst (intsD loads)), .val (.int room)] ∧ cs.length ≤ 7 ∧ loads.length = cs.length ∧ ∀ m, Least cs loads room m → p (.val (.int m)) as
def fs_l_good : FS := fun as p => ∃ (w : Bool) (es : List (Pr w)) (r : Int) (loads : List Int) (m : List (Str × D)) (fr : List Int), as = [.val (.obj "Mending" m), .val (.str (dom w)), .val (.lst (psD w es)), .val (.lst (intsD loads)), .val (.int r)] ∧ Made w es r loads m fr ∧ es.length ≤ 31 ∧ Up w es ∧ (∀ e ∈ es, isV w e.1 = true) ∧ loads.length = es.length ∧ p (.val (.bl true)) as
/-! printed by gen.py: what each def does, on data -/
/-! error classes: 0 ColonnadeError, 1 NoRelation, 2 BadValue, 3 BadDomain, 4 BadRoom, 5 BadCode, 6 Twice, 7 Full, 8 BadBook, 9 NoValue, 10 NoRoom -/
def exKit_1 (t : Nat) : Option Bool := match t with
  | 0 => some true
  | 1 => some true
  | 2 => some false
  | 3 => some false
  | 4 => some false
  | 5 => some false
  | 6 => some false
  | 7 => some false
  | 8 => some false
  | 9 => some false
  | 10 => some false
  | _ => none
def exKit_2 (t : Nat) : Option Bool := match t with
  | 0 => some true
  | 1 => some false
  | 2 => some true
  | 3 => some false
  | 4 => some false
  | 5 => some false
  | 6 => some false
  | 7 => some false
  | 8 => some false
  | 9 => some false
  | 10 => some false
  | _ => none
def exKit_3 (t : Nat) : Option Bool := match t with
  | 0 => some true
  | 1 => some false
  | 2 => some false
  | 3 => some true
  | 4 => some false
  | 5 => some false
  | 6 => some false
  | 7 => some false
  | 8 => some false
  | 9 => some false
  | 10 => some false
  | _ => none
def exKit_4 (t : Nat) : Option Bool := match t with
  | 0 => some true
  | 1 => some false
  | 2 => some false
  | 3 => some false
  | 4 => some true
  | 5 => some false
  | 6 => some false
  | 7 => some false
  | 8 => some false
  | 9 => some false
  | 10 => some false
  | _ => none
def exKit_5 (t : Nat) : Option Bool := match t with
  | 0 => some true
  | 1 => some false
  | 2 => some false
  | 3 => some false
  | 4 => some false
  | 5 => some true
  | 6 => some false
  | 7 => some false
  | 8 => some false
  | 9 => some false
  | 10 => some false
  | _ => none
def exKit_6 (t : Nat) : Option Bool := match t with
  | 0 => some true
  | 1 => some false
  | 2 => some false
  | 3 => some false
  | 4 => some false
  | 5 => some false
  | 6 => some true
  | 7 => some false
  | 8 => some false
  | 9 => some false
  | 10 => some false
  | _ => none
def exKit_7 (t : Nat) : Option Bool := match t with
  | 0 => some true
  | 1 => some false
  | 2 => some false
  | 3 => some false
  | 4 => some false
  | 5 => some false
  | 6 => some false
  | 7 => some true
  | 8 => some false
  | 9 => some false
  | 10 => some false
  | _ => none
def exKit_8 (t : Nat) : Option Bool := match t with
  | 0 => some true
  | 1 => some false
  | 2 => some false
  | 3 => some false
  | 4 => some false
  | 5 => some false
  | 6 => some false
  | 7 => some false
  | 8 => some true
  | 9 => some false
  | 10 => some false
  | _ => none
def exKit_9 (t : Nat) : Option Bool := match t with
  | 0 => some true
  | 1 => some false
  | 2 => some false
  | 3 => some false
  | 4 => some false
  | 5 => some false
  | 6 => some false
  | 7 => some false
  | 8 => some false
  | 9 => some true
  | 10 => some false
  | _ => none
def exKit_10 (t : Nat) : Option Bool := match t with
  | 0 => some true
  | 1 => some false
  | 2 => some false
  | 3 => some false
  | 4 => some false
  | 5 => some false
  | 6 => some false
  | 7 => some false
  | 8 => some false
  | 9 => some false
  | 10 => some true
  | _ => none
def exKit (n t : Nat) : Option Bool := match n with
  | 1 => exKit_1 t
  | 2 => exKit_2 t
  | 3 => exKit_3 t
  | 4 => exKit_4 t
  | 5 => exKit_5 t
  | 6 => exKit_6 t
  | 7 => exKit_7 t
  | 8 => exKit_8 t
  | 9 => exKit_9 t
  | 10 => exKit_10 t
  | _ => none
def exRd (n : Nat) (f : Str) : Bool := match n with
  | 1 => decide (f = "name")
  | 2 => decide (f = "value")
  | 3 => decide (f = "domain")
  | 4 => decide (f = "room")
  | 5 => decide (f = "code")
  | 6 => decide (f = "name")
  | 7 => decide (f = "value")
  | 8 => decide (f = "value")
  | 9 => decide (f = "value")
  | 10 => decide (f = "room")
  | _ => false
def exSub_0 (n : Nat) : Option Bool := exKit n 0
def exSub_1 (n : Nat) : Option Bool := exKit n 1
def exSub_2 (n : Nat) : Option Bool := exKit n 2
def exSub_3 (n : Nat) : Option Bool := exKit n 3
def exSub_4 (n : Nat) : Option Bool := exKit n 4
def exSub_5 (n : Nat) : Option Bool := exKit n 5
def exSub_6 (n : Nat) : Option Bool := exKit n 6
def exSub_7 (n : Nat) : Option Bool := exKit n 7
def exSub_8 (n : Nat) : Option Bool := exKit n 8
def exSub_9 (n : Nat) : Option Bool := exKit n 9
def exSub_10 (n : Nat) : Option Bool := exKit n 10
def exFt (C : String) (f : Str) : Bool := (decide (C = "Book") && (decide (f = ("domain" : Str)) || decide (f = ("room" : Str)) || decide (f = ("entries" : Str)) || decide (f = ("code_by_value" : Str)) || decide (f = ("value_by_code" : Str)) || decide (f = ("relation" : Str)))) || (decide (C = "Mending") && (decide (f = ("book" : Str)) || decide (f = ("cost" : Str)) || decide (f = ("kept" : Str)) || decide (f = ("chains" : Str))))
def mtX_Book_code_of : MTX := fun C => if C = "Book" then some fs_Book_code_of else none
def mn_Book___contains__ : MT := fun C => if C = "Book" then some fs_Book___contains__ else none
def mp_Book_strays : MT := fun C => if C = "Book" then some fs_Book_strays else none
def mc_MOST : String → Option Int := fun C => if C = "Book" then some 120 else none
/-- slots: 0 ordered, 1 value, 2 code, 3 above, 4 other -/
def ds_in_order : DS := (dRet (dCB fAll (dCons (dLc (dIZ (dCons (dVarV 0) (dCons (dSl fSlL (dVar 0) (dPart (dC (.int (1)))) dNo) dNil))) (gT 2 (gsCons (gT 2 (gsCons (gN 1) (gsCons (gN 2) gsNil))) (gsCons (gT 2 (gsCons (gN 3) (gsCons (gN 4) gsNil))) gsNil))) dYes (dOrV (dAndV (d2 fLtV (dVar 1) (dVar 3)) (d2 fLt (dVar 2) (dVar 4))) (dAndV (d2 fEq (dVar 1) (dVar 3)) (d2 fEq (dVar 2) (dVar 4)))) [1, 2, 3, 4]) dNil)))
/-- slots: 0 ordered, 1 pair, 2 other -/
def ds_told_by_first : DS := (dRet (dCB fAll (dCons (dLc (dIZ (dCons (dVarV 0) (dCons (dSl fSlL (dVar 0) (dPart (dC (.int (1)))) dNo) dNil))) (gT 2 (gsCons (gN 1) (gsCons (gN 2) gsNil))) dYes (dOrV (d2 fEqD (dVar 1) (dVar 2)) (d2 fNe (d2 fIxT (dVar 1) (dC (.int (0)))) (d2 fIxT (dVar 2) (dC (.int (0)))))) [1, 2]) dNil)))
/-- slots: 0 pairs, 1 ordered, 2 shifts, 3 value, 4 code -/
def ds_kept_by : DS := (dSeq (dAsg 1 (dCB fSorted (dCons (dLc (dIL (dVarV 0)) (gT 2 (gsCons (gN 3) (gsCons (gN 4) gsNil))) dYes (dTup (dCons (dVarV 3) (dCons (dVarV 4) dNil))) [3, 4]) dNil)))
  (dSeq (dIf (dNot (dTru (dVar 1))) (dRet (dC (.str "value"))) dNext)
  (dSeq (dIf (dB (dCB fIsi (dCons (d2 fIxT (d2 fIxL (dVar 1) (dC (.int (0)))) (dC (.int (0)))) (dCons (dC (.ty "int")) dNil)))) (dSeq (dAsg 2 (dLc (dIL (dVarV 1)) (gT 2 (gsCons (gN 3) (gsCons (gN 4) gsNil))) dYes (d2 fSub (dVar 4) (dVar 3)) [3, 4]))
  (dIf (dB (d2 fEq (dCB fMin (dCons (dVar 2) dNil)) (dCB fMax (dCons (dVar 2) dNil)))) (dRet (dIfE (dB (d2 fEq (d2 fIxL (dVar 2) (dC (.int (0)))) (dC (.int (0))))) (dC (.str "value")) (dC (.str "distance")))) dNext)) dNext)
  (dSeq (dIf (dB (dCallL 1 fs_in_order (dCons (dVar 1) dNil))) (dRet (dC (.str "order"))) dNext)
  (dSeq (dIf (dAnd (dB (dCallL 1 fs_told_by_first (dCons (dVar 1) dNil))) (dB (dCallL 1 fs_told_by_first (dCons (dCB fSorted (dCons (dLc (dIL (dVarV 1)) (gT 2 (gsCons (gN 3) (gsCons (gN 4) gsNil))) dYes (dTup (dCons (dVarV 4) (dCons (dVarV 3) dNil))) [3, 4]) dNil)) dNil)))) (dRet (dC (.str "same"))) dNext)
  (dRet (dC (.str "none"))))))))
/-- slots: 0 text, 1 letter -/
def ds_is_word : DS := (dRet (dAndV (dChain fLe fLe (dC (.int (1))) (dCB fLenS (dCons (dVar 0) dNil)) (dC (.int (8)))) (dCB fAll (dCons (dLc (dIS (dVarV 0)) (gN 1) dYes (d2 (fInC false) (dVar 1) (dC (.str "abcdefghijklmnopqrstuvwxyz"))) [1]) dNil))))
/-- slots: 0 domain, 1 value -/
def ds_is_value : DS := (dSeq (dIf (dB (d2 fEq (dVar 0) (dC (.str "number")))) (dRet (dAndV (dCB fIsi (dCons (dVar 1) (dCons (dC (.ty "int")) dNil))) (dAndV (dNotV (dCB fIsi (dCons (dVar 1) (dCons (dC (.ty "bool")) dNil)))) (dChain fLeV fLeV (dC (.int (-999999999))) (dVar 1) (dC (.int (999999999))))))) dNext)
  (dRet (dAndV (d2 fEq (dVar 0) (dC (.str "word"))) (dAndV (dCB fIsi (dCons (dVar 1) (dCons (dC (.ty "str")) dNil))) (dCall 1 fs_is_word [] (dCons (dVarV 1) dNil))))))
/-- slots: 0 room -/
def ds_check_room (xc : DX) : DS := (dIf (dNot (dB (dChain fLe fLe (dC (.int (1))) (dVar 0) (dC (.int (1000000)))))) (dRaise1 xc 4 "room" (dCons (dVarV 0) dNil)) dNext)
/-- slots: 0 code -/
def ds_is_code : DS := (dRet (dAndV (dCB fIsi (dCons (dVar 0) (dCons (dC (.ty "int")) dNil))) (dAndV (dNotV (dCB fIsi (dCons (dVar 0) (dCons (dC (.ty "bool")) dNil)))) (dChain fLe fLe (dC (.int (0))) (dVar 0) (dC (.int (9999999)))))))
/-- slots: 0 self, 1 domain, 2 room, 3 entries, 4 codes, 5 values, 6 ordered, 7 in_room, 8 value, 9 code, 10 _, 11 lower -/
def ds_Book___init__ (xc : DX) : DS := (dSeq (dIf (dB (d2 (fInQ true) (dVar 1) (dC (.tup [.str "number", .str "word"])))) (dRaise1 xc 3 "domain" (dCons (dVarV 1) dNil)) dNext)
  (dSeq (dDrop (dCallX xc 1 fs_check_room [] (dCons (dVarV 2) dNil)))
  (dSeq (dAsg 4 dDNew)
  (dSeq (dAsg 5 dDNew)
  (dSeq (dFor (dIQ (dVarV 3)) (gT 2 (gsCons (gN 8) (gsCons (gN 9) gsNil))) (dSeq (dIf (dNot (dB (dCall 2 fs_is_value [] (dCons (dVarV 1) (dCons (dVarV 8) dNil))))) (dRaise1 xc 2 "value" (dCons (dVarV 8) dNil)) dNext)
  (dSeq (dIf (dNot (dB (dCall 1 fs_is_code [] (dCons (dVarV 9) dNil)))) (dRaise1 xc 5 "code" (dCons (dVarV 9) dNil)) dNext)
  (dSeq (dIf (dOr (dB (d2 (fDIn false) (dVar 8) (dVar 4))) (dB (d2 (fDIn false) (dVar 9) (dVar 5)))) (dRaise1 xc 6 "name" (dCons (dVarV 8) dNil)) dNext)
  (dSeq (dSetK 4 (dVarV 9) (dVar 8))
  (dSetK 5 (dVarV 8) (dVar 9)))))))
  (dSeq (dIf (dB (d2 fGt (dCB fLenD (dCons (dVar 4) dNil)) (d1 (fCon "MOST" mc_MOST) (dVar 0)))) (dRaise1 xc 7 "value" (dCons (d2 fIxT (d2 fIxQ (dVar 3) (d1 (fCon "MOST" mc_MOST) (dVar 0))) (dC (.int (0)))) dNil)) dNext)
  (dSeq (dAsg 6 (dCB fSorted (dCons (dLc (dIQ (dVarV 3)) (gT 2 (gsCons (gN 8) (gsCons (gN 9) gsNil))) dYes (dTup (dCons (dVarV 8) (dCons (dVarV 9) dNil))) [8, 9]) dNil)))
  (dSeq (dAsg 7 (dLc (dIL (dVarV 6)) (gT 2 (gsCons (gN 8) (gsCons (gN 9) gsNil))) (dB (d2 fLt (dVar 9) (dVar 2))) (dTup (dCons (dVarV 8) (dCons (dVarV 9) dNil))) [8, 9]))
  (dSeq (dFor (dIZ (dCons (dVarV 7) (dCons (dSl fSlL (dVar 7) (dPart (dC (.int (1)))) dNo) dNil))) (gT 2 (gsCons (gT 2 (gsCons (gN 10) (gsCons (gN 11) gsNil))) (gsCons (gT 2 (gsCons (gN 8) (gsCons (gN 9) gsNil))) gsNil))) (dIf (dB (d2 fLe (dVar 9) (dVar 11))) (dRaise1 xc 8 "value" (dCons (dVarV 8) dNil)) dNext))
  (dSeq (dSetF exFt 0 "domain" (dVarV 1))
  (dSeq (dSetF exFt 0 "room" (dVarV 2))
  (dSeq (dSetF exFt 0 "entries" (dCB fTuple (dCons (dVar 6) dNil)))
  (dSeq (dSetF exFt 0 "code_by_value" (dVarV 4))
  (dSeq (dSetF exFt 0 "value_by_code" (dVarV 5))
  (dSetF exFt 0 "relation" (dCall 1 fs_kept_by [] (dCons (dVarV 6) dNil)))))))))))))))))
/-- slots: 0 self, 1 value, 2 code -/
def ds_Book_strays : DS := (dRet (dCB fTuple (dCons (dLc (dIT (d1 (fFld exFt "entries") (dVar 0))) (gT 2 (gsCons (gN 1) (gsCons (gN 2) gsNil))) (dB (d2 fGe (dVar 2) (d1 (fFld exFt "room") (dVar 0)))) (dVarV 1) [1, 2]) dNil)))
/-- slots: 0 self, 1 value -/
def ds_Book___contains__ : DS := (dRet (dAndV (dCall 2 fs_is_value [] (dCons (d1 (fFld exFt "domain") (dVar 0)) (dCons (dVarV 1) dNil))) (d2 (fDIn false) (dVar 1) (d1 (fFld exFt "code_by_value") (dVar 0)))))
/-- slots: 0 self, 1 value -/
def ds_Book_code_of (xc : DX) : DS := (dSeq (dIf (dB (dInO true mn_Book___contains__ (dCons (dVar 1) (dCons (dVar 0) dNil)))) (dRaise1 xc 9 "value" (dCons (dVarV 1) dNil)) dNext)
  (dRet (d2 fDGet (d1 (fFld exFt "code_by_value") (dVar 0)) (dVar 1))))
/-- slots: 0 book, 1 rank, 2 _, 3 code -/
def ds_leads : DS := (dRet (dLc (dIET (dCons (d1 (fFld exFt "entries") (dVar 0)) dNil)) (gT 2 (gsCons (gN 1) (gsCons (gT 2 (gsCons (gN 2) (gsCons (gN 3) gsNil))) gsNil))) dYes (d2 fSub (dVar 3) (dVar 1)) [1, 2, 3]))
/-- slots: 0 self, 1 book, 2 cost, 3 kept, 4 chains -/
def ds_Mending___init__ : DS := (dSeq (dSetF exFt 0 "book" (dVarV 1))
  (dSeq (dSetF exFt 0 "cost" (dVarV 2))
  (dSeq (dSetF exFt 0 "kept" (dCB fTuple (dCons (dVar 3) dNil)))
  (dSetF exFt 0 "chains" (dCB fTuple (dCons (dVar 4) dNil))))))
/-- slots: 0 found, 1 loads, 2 slack, 3 heights, 4 rank, 5 lead, 6 lower, 7 height, 8 other -/
def ds_heights_of : DS := (dSeq (dAsg 3 (dLst dNil))
  (dSeq (dFor (dIE (dCons (dVarV 0) dNil)) (gT 2 (gsCons (gN 4) (gsCons (gN 5) gsNil))) (dIf (dB (dChain fLe fLe (dC (.int (0))) (dVar 5) (dVar 2))) (dSeq (dAsg 6 (dLend 3 (dLc (dIZ (dCons (dVarV 3) (dCons (dVarV 0) dNil))) (gT 2 (gsCons (gN 7) (gsCons (gN 8) gsNil))) (dAnd (dB (d2 fNotN (dVar 7) (dC .non))) (dB (d2 fLe (dVar 8) (dVar 5)))) (dVarV 7) [7, 8])))
  (dDrop (dMut 3 mApp (dCons (d2 fAdd (d2 fIxL (dVar 1) (dVar 4)) (dMaxD (dVar 6) (dC (.int (0))))) dNil)))) (dDrop (dMut 3 mApp (dCons (dC .non) dNil)))))
  (dRet (dVarM 3))))
/-- slots: 0 found, 1 loads, 2 heights, 3 left, 4 ranks, 5 rank, 6 height -/
def ds_kept_ranks : DS := (dSeq (dAsg 3 (dMaxD (dLc (dIL (dVarV 2)) (gN 6) (dB (d2 fNotN (dVar 6) (dC .non))) (dVarV 6) [6]) (dC (.int (0)))))
  (dSeq (dAsg 4 (dLst dNil))
  (dSeq (dFor (dIRR (dCB fLen (dCons (dVar 0) dNil))) (gN 5) (dIf (dAnd (dB (d2 fGt (dVar 3) (dC (.int (0))))) (dAnd (dB (d2 fEqD (d2 fIxL (dVar 2) (dVar 5)) (dVar 3))) (dB (d2 fGt (d2 fIxL (dVar 1) (dVar 5)) (dC (.int (0))))))) (dIf (dOr (dNot (dTru (dVar 4))) (dB (d2 fLe (d2 fIxL (dVar 0) (dVar 5)) (d2 fIxL (dVar 0) (d2 fIxL (dVar 4) (d1 fNeg (dC (.int (1))))))))) (dSeq (dDrop (dMut 4 mApp (dCons (dVarV 5) dNil)))
  (dAsg 3 (d2 fSub (dVar 3) (d2 fIxL (dVar 1) (dVar 5))))) dNext) dNext))
  (dRet (d1 fRev (dVar 4))))))
/-- slots: 0 anchors, 1 found, 2 rank, 3 start, 4 low, 5 end, 6 high -/
def ds_spread_leads : DS := (dSeq (dAsg 1 (dLst dNil))
  (dSeq (dFor (dIZ (dCons (dVarV 0) (dCons (dSl fSlL (dVar 0) (dPart (dC (.int (1)))) dNo) dNil))) (gT 2 (gsCons (gT 2 (gsCons (gN 3) (gsCons (gN 4) gsNil))) (gsCons (gT 2 (gsCons (gN 5) (gsCons (gN 6) gsNil))) gsNil))) (dFor (dIR2 (dCons (d2 fAdd (dVar 3) (dC (.int (1)))) (dCons (d2 fAdd (dVar 5) (dC (.int (1)))) dNil))) (gN 2) (dDrop (dMut 1 mApp (dCons (d2 fAdd (dVar 4) (d2 fDiv (d2 fMul (d2 fSub (dVar 6) (dVar 4)) (d2 fSub (dVar 2) (dVar 3))) (d2 fSub (dVar 5) (dVar 3)))) dNil)))))
  (dRet (dSl fSlL (dVar 1) dNo (dPart (d1 fNeg (dC (.int (1)))))))))
/-- slots: 0 values, 1 loads, 2 heights, 3 taken, 4 cuts, 5 chains, 6 low, 7 high, 8 clashing, 9 value, 10 load, 11 height, 12 start, 13 end, 14 _ -/
def ds_clash_chains : DS := (dSeq (dAsg 3 (dLc (dIZ3 (dCons (dVarV 0) (dCons (dVarV 1) (dCons (dVarV 2) dNil)))) (gT 3 (gsCons (gN 9) (gsCons (gN 10) (gsCons (gN 11) gsNil)))) (dAnd (dB (d2 fNotN (dVar 11) (dC .non))) (dB (d2 fGt (dVar 10) (dC (.int (0)))))) (dTup (dCons (d2 fSub (dVar 11) (dVar 10)) (dCons (dVarV 11) (dCons (dVarV 9) dNil)))) [9, 10, 11]))
  (dSeq (dAsg 4 (dSorSet (d2 fCat (dLc (dIL (dVarV 3)) (gT 3 (gsCons (gN 12) (gsCons (gN 14) (gsCons (gN 14) gsNil)))) dYes (dVarV 12) [12, 14]) (dLc (dIL (dVarV 3)) (gT 3 (gsCons (gN 14) (gsCons (gN 13) (gsCons (gN 14) gsNil)))) dYes (dVarV 13) [14, 13]))))
  (dSeq (dAsg 5 (dLst dNil))
  (dSeq (dFor (dIZ (dCons (dVarV 4) (dCons (dSl fSlL (dVar 4) (dPart (dC (.int (1)))) dNo) dNil))) (gT 2 (gsCons (gN 6) (gsCons (gN 7) gsNil))) (dSeq (dAsg 8 (dLc (dIL (dVarV 3)) (gT 3 (gsCons (gN 12) (gsCons (gN 13) (gsCons (gN 9) gsNil)))) (dAnd (dB (d2 fLe (dVar 12) (dVar 6))) (dB (d2 fLe (dVar 7) (dVar 13)))) (dVarV 9) [12, 13, 9]))
  (dDrop (dMut 5 mApp (dCons (dTup (dCons (d2 fSub (dVar 7) (dVar 6)) (dCons (dCB fTuple (dCons (dVar 8) dNil)) dNil))) dNil)))))
  (dRet (dVarM 5))))))
/-- slots: 0 book, 1 room, 2 weights, 3 many, 4 values, 5 loads, 6 found, 7 heights, 8 ranks, 9 anchors, 10 codes, 11 mended, 12 kept, 13 cost, 14 value, 15 _, 16 rank, 17 lead, 18 code, 19 load -/
def ds_mend_book (xc : DX) : DS := (dSeq (dDrop (dCallX xc 1 fs_check_room [] (dCons (dVarV 1) dNil)))
  (dSeq (dAsg 3 (dCB fLen (dCons (d1 (fFld exFt "entries") (dVar 0)) dNil)))
  (dSeq (dIf (dB (d2 fLt (dVar 1) (dVar 3))) (dRaise1 xc 10 "room" (dCons (dVarV 1) dNil)) dNext)
  (dSeq (dAsg 4 (dLc (dIT (d1 (fFld exFt "entries") (dVar 0))) (gT 2 (gsCons (gN 14) (gsCons (gN 15) gsNil))) dYes (dVarV 14) [14, 15]))
  (dSeq (dAsg 5 (dLc (dIL (dVarV 4)) (gN 14) dYes (dDGet2 (dVar 2) (dVar 14) (dC (.int (0)))) [14]))
  (dSeq (dAsg 6 (dCall 1 fs_leads [] (dCons (dVarV 0) dNil)))
  (dSeq (dAsg 7 (dCall 3 fs_heights_of [] (dCons (dVarV 6) (dCons (dVarV 5) (dCons (d2 fSub (dVar 1) (dVar 3)) dNil)))))
  (dSeq (dAsg 8 (dCall 3 fs_kept_ranks [] (dCons (dVarV 6) (dCons (dVarV 5) (dCons (dVarV 7) dNil)))))
  (dSeq (dAsg 9 (dLst (dCons (dTup (dCons (d1 fNeg (dC (.int (1)))) (dCons (dC (.int (0))) dNil))) (dStar (dLc (dIL (dVarV 8)) (gN 16) dYes (dTup (dCons (dVarV 16) (dCons (d2 fIxL (dVar 6) (dVar 16)) dNil))) [16]) (dCons (dTup (dCons (dVarV 3) (dCons (d2 fSub (dVar 1) (dVar 3)) dNil))) dNil)))))
  (dSeq (dAsg 10 (dLc (dIE (dCons (dCall 1 fs_spread_leads [] (dCons (dVarV 9) dNil)) dNil)) (gT 2 (gsCons (gN 16) (gsCons (gN 17) gsNil))) dYes (d2 fAdd (dVar 17) (dVar 16)) [16, 17]))
  (dSeq (dAsg 11 (dFz (dMakeX xc "Book" 4 fs_Book___init__ [] (dCons (d1 (fFld exFt "domain") (dVar 0)) (dCons (dVarV 1) (dCons (dLZ (dCons (dVarV 4) (dCons (dVarV 10) dNil))) dNil))))))
  (dSeq (dAsg 12 (dLc (dIT (d1 (fFld exFt "entries") (dVar 0))) (gT 2 (gsCons (gN 14) (gsCons (gN 18) gsNil))) (dB (d2 fEq (dMethX (fun _ _ _ => False) "code_of" 2 mtX_Book_code_of (dVar 11) (dCons (dVarV 14) dNil)) (dVar 18))) (dVarV 14) [14, 18]))
  (dSeq (dAsg 13 (dCB fSum (dCons (dLc (dIZ (dCons (dVarV 4) (dCons (dVarV 5) dNil))) (gT 2 (gsCons (gN 14) (gsCons (gN 19) gsNil))) (dB (d2 (fInQ true) (dVar 14) (dVar 12))) (dVarV 19) [14, 19]) dNil)))
  (dRet (dFz (dMake "Mending" 5 fs_Mending___init__ [] (dCons (dVarV 11) (dCons (dVarV 13) (dCons (dVarV 12) (dCons (dCall 3 fs_clash_chains [] (dCons (dVarV 4) (dCons (dVarV 5) (dCons (dVarV 7) dNil)))) dNil))))))))))))))))))))
/-- slots: 0 _law_pool, 1 _law_many, 2 _law_digit -/
def ds_l_take : DS := (dSeq (dIf (dAnd (dB (d2 fEq (d2 fIxL (dVar 0) (dC (.int (0)))) (dC (.int (0))))) (dB (d2 fGt (dCB fLen (dCons (dVar 0) dNil)) (dC (.int (1)))))) (dSetI 0 (dMut 0 mPopAt (dCons (dC (.int (1))) dNil)) (dC (.int (0)))) dNext)
  (dSeq (dAsg 2 (d2 fMod (dCB fInt (dCons (d2 fIxL (dVar 0) (dC (.int (0)))) dNil)) (dVar 1)))
  (dSeq (dSetI 0 (d2 fDivW (d2 fIxL (dVar 0) (dC (.int (0)))) (dVar 1)) (dC (.int (0))))
  (dRet (dVarM 2)))))
/-- slots: 0 _law_thing -/
def ds_l_whole : DS := (dRet (dAndV (dCB fIsi (dCons (dVar 0) (dCons (dC (.ty "int")) dNil))) (dNotV (dCB fIsi (dCons (dVar 0) (dCons (dC (.ty "bool")) dNil))))))
/-- slots: 0 _law_words_here -/
def ds_l_words : DS := (dSeq (dAsg 0 (dLst (dCons (dC (.str "a")) (dCons (dC (.str "aa")) (dCons (dC (.str "ab")) (dCons (dC (.str "b")) (dCons (dC (.str "ba")) (dCons (dC (.str "cab")) (dCons (dC (.str "d")) (dCons (dC (.str "m")) (dCons (dC (.str "ma")) (dCons (dC (.str "oslo")) (dCons (dC (.str "osloa")) (dCons (dC (.str "p")) (dCons (dC (.str "paris")) (dCons (dC (.str "pisa")) dNil))))))))))))))))
  (dRet (d2 fCat (dVar 0) (dLst (dCons (dC (.str "q")) (dCons (dC (.str "rome")) (dCons (dC (.str "romea")) (dCons (dC (.str "z")) (dCons (dC (.str "zz")) (dCons (dC (.str "zzzzzzzz")) dNil))))))))))
/-- slots: 0 _law_pool, 1 _law_kind -/
def ds_l_room : DS := (dSeq (dAsg 1 (dCall 2 fs_l_take [] (dCons (dVar 0) (dCons (dC (.int (3))) dNil))))
  (dSeq (dIf (dB (d2 fEq (dVar 1) (dC (.int (2))))) (dRet (d2 fAdd (dC (.int (1))) (dCall 2 fs_l_take [] (dCons (dVar 0) (dCons (dC (.int (1000000))) dNil))))) dNext)
  (dSeq (dIf (dB (d2 fEq (dVar 1) (dC (.int (1))))) (dRet (d2 fAdd (dC (.int (1))) (dCall 2 fs_l_take [] (dCons (dVar 0) (dCons (dC (.int (12))) dNil))))) dNext)
  (dRet (dC (.int (1)))))))
/-- slots: 0 _law_pool, 1 _law_many, 2 _law_room_here, 3 _law_rest, 4 _law_codes_here, 5 _law_k, 6 _law_small, 7 _law_at, 8 _law_code -/
def ds_l_codes : DS := (dSeq (dAsg 3 (dLRg1 (d2 fIxL (dLst (dCons (dC (.int (12))) (dCons (dC (.int (9))) (dCons (dC (.int (20))) (dCons (dC (.int (10))) dNil))))) (dCall 2 fs_l_take [] (dCons (dVar 0) (dCons (dC (.int (4))) dNil))))))
  (dSeq (dAsg 4 (dLst dNil))
  (dSeq (dFor (dIR1 (dCons (dVarV 1) dNil)) (gN 5) (dSeq (dAsg 7 (d2 fMod (dCB fInt (dCons (d2 fAdd (dCall 2 fs_l_take [] (dCons (dVar 0) (dCons (dCB fLen (dCons (dVar 3) dNil)) dNil))) (d2 fMul (dC (.int (5))) (dVar 5))) dNil)) (dCB fLen (dCons (dVar 3) dNil))))
  (dDrop (dMut 4 mApp (dCons (d2 fAdd (dMut 3 mPopAt (dCons (dVarV 7) dNil)) (d2 fIxL (dLst (dCons (dC (.int (0))) (dCons (dC (.int (0))) (dCons (dC (.int (0))) (dCons (dC (.int (9999979))) dNil))))) (dCall 2 fs_l_take [] (dCons (dVar 0) (dCons (dC (.int (4))) dNil))))) dNil)))))
  (dSeq (dAsg 6 (dCB fSorted (dCons (dLend 4 (dLc (dIL (dVarV 4)) (gN 8) (dB (d2 fLt (dVar 8) (dVar 2))) (dVarV 8) [8])) dNil)))
  (dSeq (dFor (dIR1 (dCons (dVarV 1) dNil)) (gN 5) (dIf (dB (d2 fLt (d2 fIxL (dVar 4) (dVar 5)) (dVar 2))) (dSetI 4 (dMut 6 mPopAt (dCons (dC (.int (0))) dNil)) (dVar 5)) dNext))
  (dRet (dVarM 4)))))))
/-- slots: 0 _law_pool, 1 _law_domain, 2 _law_many, 3 _law_low, 4 _law_at, 5 _law_values_here, 6 _law_k -/
def ds_l_values : DS := (dSeq (dAsg 3 (d2 fIxL (dLst (dCons (d1 fNeg (dC (.int (3)))) (dCons (d1 fNeg (dC (.int (999999999)))) (dCons (dC (.int (999999900))) dNil)))) (dCall 2 fs_l_take [] (dCons (dVar 0) (dCons (dC (.int (3))) dNil)))))
  (dSeq (dAsg 4 (dCall 2 fs_l_take [] (dCons (dVar 0) (dCons (dC (.int (3))) dNil))))
  (dSeq (dAsg 5 (dLst dNil))
  (dSeq (dFor (dIR1 (dCons (dVarV 2) dNil)) (gN 6) (dIf (dB (d2 fEq (dVar 1) (dC (.str "word")))) (dSeq (dDrop (dMut 5 mApp (dCons (d2 fIxL (dCall 0 fs_l_words [] dNil) (dVar 4)) dNil)))
  (dAsg 4 (d2 fAdd (d2 fAdd (dVar 4) (dC (.int (1)))) (dCall 2 fs_l_take [] (dCons (dVar 0) (dCons (dC (.int (2))) dNil)))))) (dSeq (dDrop (dMut 5 mApp (dCons (d2 fAdd (dVar 3) (dVar 4)) dNil)))
  (dAsg 4 (d2 fAdd (d2 fAdd (dVar 4) (dC (.int (1)))) (dCall 2 fs_l_take [] (dCons (dVar 0) (dCons (dC (.int (4))) dNil))))))))
  (dRet (dVarM 5))))))
/-- slots: 0 _law_pool, 1 _law_values_here, 2 _law_weights_here, 3 _law_k, 4 _law_kind -/
def ds_l_weights : DS := (dSeq (dAsg 2 dDNew)
  (dSeq (dFor (dIR1 (dCons (dCB fLen (dCons (dVar 1) dNil)) dNil)) (gN 3) (dSeq (dAsg 4 (dCall 2 fs_l_take [] (dCons (dVar 0) (dCons (dC (.int (8))) dNil))))
  (dIf (dB (d2 fEq (dVar 4) (dC (.int (7))))) (dSetK 2 (d2 fSub (dC (.int (1000000))) (dCall 2 fs_l_take [] (dCons (dVar 0) (dCons (dC (.int (3))) dNil)))) (d2 fIxL (dVar 1) (dVar 3))) (dIf (dB (d2 fNe (dVar 4) (dC (.int (6))))) (dSetK 2 (d2 fMod (dCB fInt (dCons (d2 fAdd (dCall 2 fs_l_take [] (dCons (dVar 0) (dCons (dC (.int (8))) dNil))) (d2 fMul (dC (.int (3))) (dVar 3))) dNil)) (dC (.int (8)))) (d2 fIxL (dVar 1) (dVar 3))) dNext))))
  (dRet (dVarM 2))))
/-- slots: 0 _law_many, 1 _law_sets, 2 _law_k, 3 _law_row -/
def ds_l_subsets : DS := (dSeq (dAsg 1 (dLst (dCons (dLst dNil) dNil)))
  (dSeq (dFor (dIR1 (dCons (dVarV 0) dNil)) (gN 2) (dAsg 1 (d2 fCat (dVarV 1) (dLc (dIL (dVarV 1)) (gN 3) dYes (d2 fCat (dVar 3) (dLst (dCons (dVarV 2) dNil))) [3]))))
  (dRet (dVarM 1))))
/-- slots: 0 _law_codes_here, 1 _law_keep, 2 _law_room_here, 3 _law_last, 4 _law_rank, 5 _law_code -/
def ds_l_can : DS := (dSeq (dAsg 3 (d1 fNeg (dC (.int (1)))))
  (dSeq (dFor (dIR1 (dCons (dCB fLen (dCons (dVar 0) dNil)) dNil)) (gN 4) (dSeq (dAsg 5 (d2 fAdd (dVar 3) (dC (.int (1)))))
  (dSeq (dIf (dB (d2 (fInQ false) (dVar 4) (dVar 1))) (dAsg 5 (d2 fIxL (dVar 0) (dVar 4))) dNext)
  (dSeq (dIf (dB (d2 fLe (dVar 5) (dVar 3))) (dRet (dC (.bl false))) dNext)
  (dAsg 3 (dVarV 5))))))
  (dRet (d2 fLt (dVar 3) (dVar 2)))))
/-- slots: 0 _law_codes_here, 1 _law_loads, 2 _law_room_here, 3 _law_least_here, 4 _law_keep, 5 _law_cost, 6 _law_k -/
def ds_l_least : DS := (dSeq (dAsg 3 (dCB fSum (dCons (dVar 1) dNil)))
  (dSeq (dFor (dIL (dCall 1 fs_l_subsets [] (dCons (dCB fLen (dCons (dVar 0) dNil)) dNil))) (gN 4) (dSeq (dAsg 5 (d2 fSub (dCB fSum (dCons (dVar 1) dNil)) (dCB fSum (dCons (dLc (dIL (dVarV 4)) (gN 6) dYes (d2 fIxL (dVar 1) (dVar 6)) [6]) dNil))))
  (dIf (dAnd (dB (d2 fLt (dVar 5) (dVar 3))) (dB (dCall 3 fs_l_can [] (dCons (dVarV 0) (dCons (dVarV 4) (dCons (dVarV 2) dNil)))))) (dAsg 3 (dVarV 5)) dNext)))
  (dRet (dVarM 3))))
/-- slots: 0 _law_book, 1 _law_room_here, 2 _law_weights_here, 3 e -/
def ds_l_mended : DS := (dTryAs exSub_0 3 (fun xc => (dRet (dTup (dCons (dC (.str "made")) (dCons (dCallX xc 3 fs_mend_book [] (dCons (dVarV 0) (dCons (dVarV 1) (dCons (dVar 2) dNil)))) dNil))))) (fun a nm fs => (dSeq (dIf (dAnd (dB (dIsE exKit 3 a nm 4)) (dAnd (dNot (dB (dIsE exKit 3 a nm 10))) (dB (dCall 1 fs_l_whole [] (dCons (dXf exRd 3 a nm fs "room") dNil))))) (dRet (dTup (dCons (dC (.str "BadRoom")) (dCons (dXf exRd 3 a nm fs "room") dNil)))) dNext)
  (dSeq (dIf (dAnd (dB (dIsE exKit 3 a nm 10)) (dAnd (dNot (dB (dIsE exKit 3 a nm 4))) (dB (dCall 1 fs_l_whole [] (dCons (dXf exRd 3 a nm fs "room") dNil))))) (dRet (dTup (dCons (dC (.str "NoRoom")) (dCons (dXf exRd 3 a nm fs "room") dNil)))) dNext)
  (dRet (dTup (dCons (dC (.str "other")) (dCons (dC (.int (0))) dNil))))))) (fun _ _ _ => False))
/-- slots: 0 _law_mending, 1 _law_domain, 2 _law_pairs, 3 _law_loads, 4 _law_room_here, 5 _law_values_here, 6 _law_codes_here, 7 _law_book, 8 _law_fresh, 9 _law_kept, 10 _law_cost, 11 _law_k, 12 _law_x, 13 _law_code -/
def ds_l_good : DS := (dSeq (dAsg 5 (dLc (dIL (dVarV 2)) (gN 12) dYes (d2 fIxT (dVar 12) (dC (.int (0)))) [12]))
  (dSeq (dAsg 6 (dLc (dIL (dVarV 2)) (gN 12) dYes (d2 fIxT (dVar 12) (dC (.int (1)))) [12]))
  (dSeq (dAsg 7 (d1 (fFld exFt "book") (dVar 0)))
  (dSeq (dIf (dOr (dB (d2 fNe (d1 (fFld exFt "domain") (dVar 7)) (dVar 1))) (dOr (dNot (dB (dCall 1 fs_l_whole [] (dCons (d1 (fFld exFt "room") (dVar 7)) dNil)))) (dB (d2 fNe (d1 (fFld exFt "room") (dVar 7)) (dVar 4))))) (dRet (dC (.bl false))) dNext)
  (dSeq (dIf (dOr (dNot (dB (dCB fIsi (dCons (d1 (fFld exFt "entries") (dVar 7)) (dCons (dC (.ty "tuple")) dNil))))) (dB (d2 fNeD (dProp mp_Book_strays (dCons (dVar 7) dNil)) (dTup dNil)))) (dRet (dC (.bl false))) dNext)
  (dSeq (dIf (dB (d2 fNeD (dLc (dIT (d1 (fFld exFt "entries") (dVar 7))) (gN 12) dYes (d2 fIxT (dVar 12) (dC (.int (0)))) [12]) (dVar 5))) (dRet (dC (.bl false))) dNext)
  (dSeq (dAsg 8 (dLc (dIT (d1 (fFld exFt "entries") (dVar 7))) (gN 12) dYes (d2 fIxT (dVar 12) (dC (.int (1)))) [12]))
  (dSeq (dIf (dOr (dNot (dB (dCB fAll (dCons (dLc (dIL (dVarV 8)) (gN 13) dYes (dCall 1 fs_l_whole [] (dCons (dVarV 13) dNil)) [13]) dNil)))) (dB (d2 fNeD (dVar 8) (dCB fSorted (dCons (dVar 8) dNil))))) (dRet (dC (.bl false))) dNext)
  (dSeq (dIf (dB (d2 fNe (dLenSet (dVar 8)) (dCB fLen (dCons (dVar 8) dNil)))) (dRet (dC (.bl false))) dNext)
  (dSeq (dIf (dAnd (dB (d2 fNeD (dVar 8) (dLst dNil))) (dNot (dCh3 (fun i j => decide (i ≤ j)) (fun i j => decide (i ≤ j)) (fun i j => decide (i < j)) (dC (.int (0))) (d2 fIxL (dVar 8) (dC (.int (0)))) (d2 fIxL (dVar 8) (d1 fNeg (dC (.int (1))))) (dVar 4)))) (dRet (dC (.bl false))) dNext)
  (dSeq (dAsg 9 (dLst dNil))
  (dSeq (dAsg 10 (dC (.int (0))))
  (dSeq (dFor (dIR1 (dCons (dCB fLen (dCons (dVar 5) dNil)) dNil)) (gN 11) (dIf (dB (d2 fEq (d2 fIxL (dVar 8) (dVar 11)) (d2 fIxL (dVar 6) (dVar 11)))) (dDrop (dMut 9 mApp (dCons (d2 fIxL (dVar 5) (dVar 11)) dNil))) (dAsg 10 (d2 fAdd (dVar 10) (d2 fIxL (dVar 3) (dVar 11))))))
  (dSeq (dIf (dOr (dNot (dB (dCB fIsi (dCons (d1 (fFld exFt "kept") (dVar 0)) (dCons (dC (.ty "tuple")) dNil))))) (dB (d2 fNeD (d1 (fFld exFt "kept") (dVar 0)) (dCB fTuple (dCons (dVar 9) dNil))))) (dRet (dC (.bl false))) dNext)
  (dRet (dAndV (dCall 1 fs_l_whole [] (dCons (d1 (fFld exFt "cost") (dVar 0)) dNil)) (d2 fEq (d1 (fFld exFt "cost") (dVar 0)) (dVar 10))))))))))))))))))
/-- slots: 0 _law_script, 1 _law_pool, 2 _law_domain, 3 _law_many, 4 _law_old, 5 _law_codes_here, 6 _law_values_here, 7 _law_pairs, 8 _law_weights_here, 9 _law_loads, 10 _law_kind, 11 _law_room_here, 12 _law_book, 13 _law_told, 14 _law_handed, 15 _law_copy, 16 _law_made, 17 _law_least_here, 18 _law_free, 19 _law_light, 20 _law_k, 21 _law_value, 22 _law_cell, 23 _law_lead -/
def ds_law : DS := (dSeq (dAsg 1 (d2 fCat (dLst (dCons (dC (.int (0))) dNil)) (dLc (dIL (dSl fSlL (dVar 0) dNo (dPart (dC (.int (63)))))) (gN 22) dYes (dCB fAbs (dCons (dVar 22) dNil)) [22])))
  (dSeq (dAsg 2 (d2 fIxL (dLst (dCons (dC (.str "number")) (dCons (dC (.str "word")) dNil))) (dCall 2 fs_l_take [] (dCons (dVar 1) (dCons (dC (.int (2))) dNil)))))
  (dSeq (dAsg 3 (d2 fMod (dCB fInt (dCons (d2 fAdd (dC (.int (5))) (dCall 2 fs_l_take [] (dCons (dVar 1) (dCons (dC (.int (8))) dNil)))) dNil)) (dC (.int (8)))))
  (dSeq (dAsg 4 (dCall 1 fs_l_room [] (dCons (dVar 1) dNil)))
  (dSeq (dAsg 5 (dCall 3 fs_l_codes [] (dCons (dVar 1) (dCons (dVarV 3) (dCons (dVarV 4) dNil)))))
  (dSeq (dAsg 6 (dCall 3 fs_l_values [] (dCons (dVar 1) (dCons (dVarV 2) (dCons (dVarV 3) dNil)))))
  (dSeq (dAsg 7 (dLc (dIR1 (dCons (dVarV 3) dNil)) (gN 20) dYes (dTup (dCons (d2 fIxL (dVar 6) (dVar 20)) (dCons (d2 fIxL (dVar 5) (dVar 20)) dNil))) [20]))
  (dSeq (dAsg 8 (dCall 2 fs_l_weights [] (dCons (dVar 1) (dCons (dVarV 6) dNil))))
  (dSeq (dAsg 9 (dLc (dIL (dVarV 6)) (gN 21) dYes (dDGet2 (dVar 8) (dVar 21) (dC (.int (0)))) [21]))
  (dSeq (dAsg 10 (dCall 2 fs_l_take [] (dCons (dVar 1) (dCons (dC (.int (6))) dNil))))
  (dSeq (dAsg 11 (d2 fAdd (dVar 3) (d2 fMod (dCB fInt (dCons (d2 fAdd (dC (.int (6))) (dCall 2 fs_l_take [] (dCons (dVar 1) (dCons (dC (.int (12))) dNil)))) dNil)) (dC (.int (12))))))
  (dSeq (dIf (dB (d2 fEq (dVar 10) (dC (.int (3))))) (dAsg 11 (d2 fIxL (dLst (dCons (dVarV 3) (dCons (dC (.int (1000000))) (dCons (dC (.int (1))) dNil)))) (dCall 2 fs_l_take [] (dCons (dVar 1) (dCons (dC (.int (3))) dNil))))) dNext)
  (dSeq (dIf (dB (d2 fEq (dVar 10) (dC (.int (4))))) (dAsg 11 (d2 fAdd (dVar 3) (dCall 2 fs_l_take [] (dCons (dVar 1) (dCons (dC (.int (999990))) dNil))))) dNext)
  (dSeq (dIf (dB (d2 fEq (dVar 10) (dC (.int (5))))) (dAsg 11 (d2 fIxL (dLst (dCons (dC (.int (0))) (dCons (d2 fSub (dVar 3) (dC (.int (1)))) (dCons (dC (.int (1000001))) (dCons (d1 fNeg (dC (.int (3)))) dNil))))) (dCall 2 fs_l_take [] (dCons (dVar 1) (dCons (dC (.int (4))) dNil))))) dNext)
  (dSeq (dAsg 12 (dFz (dMakeN "Book" 4 fs_Book___init__ [] (dCons (dVarV 2) (dCons (dVarV 4) (dCons (dCB fList (dCons (dVar 7) dNil)) dNil))))))
  (dSeq (dAsg 13 (dCall 1 fs_leads [] (dCons (dVarV 12) dNil)))
  (dSeq (dIf (dOr (dNot (dB (dCB fIsi (dCons (dVar 13) (dCons (dC (.ty "list")) dNil))))) (dNot (dB (dCB fAll (dCons (dLc (dIL (dVarV 13)) (gN 23) dYes (dCall 1 fs_l_whole [] (dCons (dVarV 23) dNil)) [23]) dNil))))) (dRet (dC (.bl false))) dNext)
  (dSeq (dIf (dB (d2 fNeD (dVar 13) (dLc (dIR1 (dCons (dVarV 3) dNil)) (gN 20) dYes (d2 fSub (d2 fIxL (dVar 5) (dVar 20)) (dVar 20)) [20]))) (dRet (dC (.bl false))) dNext)
  (dSeq (dAsg 14 (dCB fDict (dCons (dVar 8) dNil)))
  (dSeq (dSetK 14 (dC (.int (5))) (d2 fIxL (dLst (dCons (dC (.str "zebra")) (dCons (dC (.int (777777777))) dNil))) (dCB fInt (dCons (d2 fEq (dVar 2) (dC (.str "number"))) dNil))))
  (dSeq (dAsg 15 (dCB fDict (dCons (dVar 14) dNil)))
  (dSeq (dAsg 16 (dCall 3 fs_l_mended [] (dCons (dVarV 12) (dCons (dVarV 11) (dCons (dVar 14) dNil)))))
  (dSeq (dIf (dOr (dB (d2 (fSameK false) (dVar 14) (dVar 15))) (dOr (dB (d2 fNeD (d1 (fFld exFt "entries") (dVar 12)) (dCB fTuple (dCons (dVar 7) dNil)))) (dB (d2 fNe (d1 (fFld exFt "room") (dVar 12)) (dVar 4))))) (dRet (dC (.bl false))) dNext)
  (dSeq (dIf (dNot (dB (dChain fLe fLe (dC (.int (1))) (dVar 11) (dC (.int (1000000)))))) (dRet (d2 fEqD (dVar 16) (dTup (dCons (dC (.str "BadRoom")) (dCons (dVarV 11) dNil))))) dNext)
  (dSeq (dIf (dB (d2 fLt (dVar 11) (dVar 3))) (dRet (d2 fEqD (dVar 16) (dTup (dCons (dC (.str "NoRoom")) (dCons (dVarV 11) dNil))))) dNext)
  (dSeq (dAsg 17 (dCall 3 fs_l_least [] (dCons (dVarV 5) (dCons (dVarV 9) (dCons (dVarV 11) dNil)))))
  (dSeq (dDrop (dDClear 14))
  (dSeq (dIf (dOr (dB (d2 fNe (d2 fIxT (dVar 16) (dC (.int (0)))) (dC (.str "made")))) (dNot (dB (dCall 5 fs_l_good [] (dCons (d2 fIxT (dVar 16) (dC (.int (1)))) (dCons (dVarV 2) (dCons (dVarV 7) (dCons (dVarV 9) (dCons (dVarV 11) dNil))))))))) (dRet (dC (.bl false))) dNext)
  (dSeq (dIf (dB (d2 fNe (d1 (fFld exFt "cost") (d2 fIxT (dVar 16) (dC (.int (1))))) (dVar 17))) (dRet (dC (.bl false))) dNext)
  (dSeq (dAsg 18 (dCall 3 fs_l_mended [] (dCons (dVarV 12) (dCons (dVarV 11) (dCons (dVar 14) dNil)))))
  (dSeq (dAsg 19 (d2 fRep (dLst (dCons (dC (.int (0))) dNil)) (dVar 3)))
  (dSeq (dIf (dOr (dB (d2 fNe (d2 fIxT (dVar 18) (dC (.int (0)))) (dC (.str "made")))) (dNot (dB (dCall 5 fs_l_good [] (dCons (d2 fIxT (dVar 18) (dC (.int (1)))) (dCons (dVarV 2) (dCons (dVarV 7) (dCons (dVarV 19) (dCons (dVarV 11) dNil))))))))) (dRet (dC (.bl false))) dNext)
  (dRet (dAndV (d2 fEq (d1 (fFld exFt "cost") (d2 fIxT (dVar 18) (dC (.int (1))))) (dC (.int (0)))) (dCall 5 fs_l_good [] (dCons (d2 fIxT (dVar 16) (dC (.int (1)))) (dCons (dVarV 2) (dCons (dVarV 7) (dCons (dVarV 9) (dCons (dVarV 11) dNil))))))))))))))))))))))))))))))))))))))))
local macro_rules | `(tactic| walk_at "dd") => `(tactic| simp only [dSeq, dNext, dDrop, dRet, dRetN, dBreak, dCont, dIf, dAsg, gN, gsNil, gsCons, gT, dAsgG, dAug, dMut, isL, mApp, mPopAt, mPop, dSetI, RS.kept, dC, dVar, dVarV, dVarM, look, put, d2, d1, RS.ok, RS.data, OC.data, dNil, dCons, RS.fz, RS.now, dCB, dCall, dCallB, dCallZ, noNew, flatR, flatD, ownIx, argsOf, upds, putC,
  fI0, fI, fU, fEq, fNe, fIsN, fNotN, fAddS, fLtS, fCat, fRep, fIxL, fIxT, fIxS, fLen, fLenS, fInt, fAbs, fI2, fSum, fMin, fMax, fAll, fAny, fList, fTuple, fIsi, fEqD, fNeD, dNo, dPart, dSl, fSlL, fRev, allV, dLst, dTup, dB, dAnd, dOr, dNot, dAndV, dOrV, dNotV, dIfE, dTru, dChain, dIL, dIT, dIQ, dIR1, dIR2, dIR3, dIZ, dIE, dIV, dYes, dLRg1, dLRg2, dFr, dSt, meltR, fIxQ, dBits, dRd, mIndex, mIns, mClear, mRev, mExt, dCallX, dCallL, dCallLX, lendR, dTryAs_eq, dIsE, dXf, dRaise1, dRaise2, flatAll,
  fAdd, fSub, fMul, fDiv, fMod, fMulW, fDivW, fPow, fLt, fLe, fGt, fGe, fNeg, fMin2, fMax2, startG, endsOf_nx, xcOf, endsOf_rt, endsOf_bk, OutP, wipeG, restore, keepV,
  List.map_cons, List.map_nil, List.length_cons, List.length_nil, List.cons_append, List.nil_append, List.append_nil, List.replicate, true_and, and_true, decide_eq_true_eq, decide_eq_false_iff_not, Bool.not_eq_true', Bool.not_eq_false', forall_const, false_implies, true_implies, List.nodup_cons, List.not_mem_nil, not_false_eq_true, List.nodup_nil, Nat.add_zero, Nat.zero_add, Nat.reduceAdd, Nat.reduceSub, Nat.reduceLeDiff, Nat.reduceMul,
  kb_ii, kb_ib, kb_il, kb_it, kb_is, kb_bi, kb_bb, kb_li, kb_ll, kb_lt, kb_ti, kb_tt, kb_tl, kb_si, kb_sb, kb_ss, kb_ni, kb_nl, kb_nt, Option.some.injEq, exists_eq_left', exists_eq_left, Bool.true_eq_false, Bool.false_eq_true, reduceCtorEq, implies_true, Sx.own.injEq, own_ex, exists_eq', dOk_ints, dOk_nil, deq_ints, deq_ints_nil,  List.length_map, List.length_reverse, Sx.val.injEq, D.int.injEq, D.bl.injEq, D.str.injEq, atI_zero, ixN_s0, seqIx_s0, List.set_cons_zero, List.eraseIdx_cons_zero, List.getElem?_cons_zero, rg_snoc, dLc_eq, dLc2_eq, dRaise0, fShl, fShr, fOr, fAnd, fXor, dFor_eq, dWhile_eq, not_true_eq_false, decide_true, decide_false, fFld, dSetF, dAugF, dMake, dMakeL, dCallN, lentL, lendN, D.nol, nolAll, nolF, nol_ints, nol_strs, dFz, dMeth, dMethX, putD_nil, putD_cons, seqD, dStar, fCatT, fSlT, List.lookup, allV_app, allV_vals, data_app, data_vals, ofS_inj, ofS_beq, String.reduceEq, String.reduceBEq, ↓reduceIte, deq_int, deq_str, deq_tcons, deq_tnil, deq_tints, dOk_tints, decide_not, deq_lnil, deq_lcn, deq_lnc, puts, Bool.not_not, decide_eq_decide, exKit, exKit_1, exKit_2, exKit_3, exKit_4, exKit_5, exKit_6, exKit_7, exKit_8, exKit_9, exKit_10, exRd, ltD_t, ltD_f, exFt, fLtV, fGtV, fLeV, fGeV, fV2, vD_f, vD_t, dom_f, dom_t, Bool.or_true, Bool.true_or, Bool.and_self, Bool.and_true, Bool.true_and, Bool.or_false, Bool.false_or, mc_MOST, fCon, dProp, mp_Book_strays, dMakeN, fInC, fDIn, dDNew, dSetK, fLenD, dIS, dIET, fSorted, dJoin, key_vD, key_int, at_one, dMakeX, dCMX, dInO, mn_Book___contains__, mtX_Book_code_of, mCount, fDGet, dVoid, kb_tb, kb_ts, exSub_0, exSub_4, exSub_10, dDGet2, dDClear, dIRR, dLenSet, dSorSet, dMaxD, dCh3, dIZ3, dLZ, zipD, dLend, hide, hid1, lendN, fSameK, fDict])
local macro_rules | `(tactic| walk_at "ds") => `(tactic| (refine q_seq ?_; walk_at "dd"))
local macro_rules | `(tactic| walk_at "dn") => `(tactic| (with_reducible refine q_later (q_seq ?_); walk_at "dd"))
local macro_rules | `(tactic| walk_at "de") => `(tactic| (with_reducible refine q_later ?_; walk_at "dd"))
local macro_rules | `(tactic| walk_at "an") => `(tactic| ((with_reducible refine And.intro ?ga ?_); (case ga => (first | exact True.intro | decide | omega | assumption | exact flat_ints _ | exact dOk_ints _ | exact dOk_tints _))))
local macro_rules | `(tactic| walk_at "go") => `(tactic| repeat (first | walk_at "an" | walk_at "dn" | walk_at "de"))
local macro_rules | `(tactic| walk_at "gg") => `(tactic| ((try walk_at "dd"); walk_at "go"))
local macro_rules | `(tactic| walk_at "xd") => `(tactic| simp only [dNext, dDrop, dRet, dRetN, dBreak, dCont, dIf, dAsg, gN, gsNil, gsCons, gT, dAsgG, dAug, dMut, isL, mApp, mPopAt, mPop, dSetI, RS.kept, dC, dVar, dVarV, dVarM, look, put, d2, d1, RS.ok, RS.data, OC.data, dNil, dCons, RS.fz, RS.now, dCB, dCall, dCallB, dCallZ, noNew, flatR, flatD, ownIx, argsOf, upds, putC,
  fI0, fI, fU, fEq, fNe, fIsN, fNotN, fAddS, fLtS, fCat, fRep, fIxL, fIxT, fIxS, fLen, fLenS, fInt, fAbs, fI2, fSum, fMin, fMax, fAll, fAny, fList, fTuple, fIsi, fEqD, fNeD, dNo, dPart, dSl, fSlL, fRev, allV, dLst, dTup, dB, dAnd, dOr, dNot, dAndV, dOrV, dNotV, dIfE, dTru, dChain, dIL, dIT, dIQ, dIR1, dIR2, dIR3, dIZ, dIE, dIV, dYes, dLRg1, dLRg2, dFr, dSt, meltR, fIxQ, dBits, dRd, mIndex, mIns, mClear, mRev, mExt, dCallX, dCallL, dCallLX, lendR, dTryAs_eq, dIsE, dXf, dRaise1, dRaise2, flatAll,
  fAdd, fSub, fMul, fDiv, fMod, fMulW, fDivW, fPow, fLt, fLe, fGt, fGe, fNeg, fMin2, fMax2, startG, endsOf_nx, xcOf, endsOf_rt, endsOf_bk, OutP, wipeG, restore, keepV,
  List.map_cons, List.map_nil, List.length_cons, List.length_nil, List.cons_append, List.nil_append, List.append_nil, List.replicate, true_and, and_true, decide_eq_true_eq, decide_eq_false_iff_not, Bool.not_eq_true', Bool.not_eq_false', forall_const, false_implies, true_implies, List.nodup_cons, List.not_mem_nil, not_false_eq_true, List.nodup_nil, Nat.add_zero, Nat.zero_add, Nat.reduceAdd, Nat.reduceSub, Nat.reduceLeDiff, Nat.reduceMul,
  kb_ii, kb_ib, kb_il, kb_it, kb_is, kb_bi, kb_bb, kb_li, kb_ll, kb_lt, kb_ti, kb_tt, kb_tl, kb_si, kb_sb, kb_ss, kb_ni, kb_nl, kb_nt, Option.some.injEq, exists_eq_left', exists_eq_left, Bool.true_eq_false, Bool.false_eq_true, reduceCtorEq, implies_true, Sx.own.injEq, own_ex, exists_eq', dOk_ints, dOk_nil, deq_ints, deq_ints_nil,  List.length_map, List.length_reverse, Sx.val.injEq, D.int.injEq, D.bl.injEq, D.str.injEq, atI_zero, ixN_s0, seqIx_s0, List.set_cons_zero, List.eraseIdx_cons_zero, List.getElem?_cons_zero, rg_snoc, dLc_eq, dLc2_eq, dRaise0, fShl, fShr, fOr, fAnd, fXor, dFor_eq, dWhile_eq, not_true_eq_false, decide_true, decide_false, fFld, dSetF, dAugF, dMake, dMakeL, dCallN, lentL, lendN, D.nol, nolAll, nolF, nol_ints, nol_strs, dFz, dMeth, dMethX, putD_nil, putD_cons, seqD, dStar, fCatT, fSlT, List.lookup, allV_app, allV_vals, data_app, data_vals, ofS_inj, ofS_beq, String.reduceEq, String.reduceBEq, ↓reduceIte, deq_int, deq_str, deq_tcons, deq_tnil, deq_tints, dOk_tints, decide_not, deq_lnil, deq_lcn, deq_lnc, puts, Bool.not_not, decide_eq_decide, exKit, exKit_1, exKit_2, exKit_3, exKit_4, exKit_5, exKit_6, exKit_7, exKit_8, exKit_9, exKit_10, exRd, ltD_t, ltD_f, exFt, fLtV, fGtV, fLeV, fGeV, fV2, vD_f, vD_t, dom_f, dom_t, Bool.or_true, Bool.true_or, Bool.and_self, Bool.and_true, Bool.true_and, Bool.or_false, Bool.false_or, mc_MOST, fCon, dProp, mp_Book_strays, dMakeN, fInC, fDIn, dDNew, dSetK, fLenD, dIS, dIET, fSorted, dJoin, key_vD, key_int, at_one, dMakeX, dCMX, dInO, mn_Book___contains__, mtX_Book_code_of, mCount, fDGet, dVoid, kb_tb, kb_ts, exSub_0, exSub_4, exSub_10, dDGet2, dDClear, dIRR, dLenSet, dSorSet, dMaxD, dCh3, dIZ3, dLZ, zipD, dLend, hide, hid1, lendN, fSameK, fDict])
local macro_rules | `(tactic| walk_at "xs") => `(tactic| (with_reducible refine q_seq ?_; walk_at "xd"))
local macro_rules | `(tactic| walk_at "xn") => `(tactic| (with_reducible refine q_later (q_seq ?_); walk_at "xd"))
local macro_rules | `(tactic| walk_at "xe") => `(tactic| (with_reducible refine q_later ?_; walk_at "xd"))
local macro_rules | `(tactic| walk_at "xg") => `(tactic| repeat (first | walk_at "an" | walk_at "xn" | walk_at "xe" | walk_at "xs"))
local macro_rules | `(tactic| walk_at "x") => `(tactic| ((try walk_at "xd"); walk_at "xg"))

theorem vD_flt {w : Bool} {v : Vt w} : (vD w v).flt = true := by cases w <;> rfl
theorem vD_inj {w : Bool} {a b : Vt w} (h : vD w a = vD w b) : a = b := by cases w <;> (cases h; rfl)
theorem vK_inj {w : Bool} {a b : Vt w} (h : vK w a = vK w b) : a = b := by cases w <;> (cases h; rfl)
theorem deq_vD {w : Bool} {a b : Vt w} : deq (vD w a) (vD w b) = decide (a = b) := by
  cases w
  · show deq (.int a) (.int b) = _
    rw [deq_int]
  · show deq (.str a) (.str b) = _
    rw [deq_str]
theorem pD_f {e : Pr false} : pD false e = .tup [.int e.1, .int e.2] := rfl
theorem pD_t {e : Pr true} : pD true e = .tup [.str e.1, .int e.2] := rfl
theorem pure_check_room (as : List Sx) (p : RS → List Sx → Prop) (x : Nat → Xf → List Sx → Prop) (hl : as.length = 1) (h : fs_check_room as p x) : ds_check_room (xcOf as x) (endsOf as p) (startG 1 as) := by
  obtain ⟨r, rfl, h1, h2⟩ := h
  unfold badRoom at h1 h2
  unfold ds_check_room
  walk_at "x"
  refine ⟨fun z => ⟨fun w => h1 (by omega), fun w => h2 (by omega)⟩, fun z => h1 (by omega)⟩
theorem pure_is_code (as : List Sx) (p : RS → List Sx → Prop) (hl : as.length = 1) (h : fs_is_code as p) : ds_is_code (endsOf as p) (startG 1 as) := by
  obtain ⟨c, rfl, kk⟩ := h
  unfold ds_is_code
  walk_at "x"
  refine ⟨fun z => ?_, fun z => ?_⟩
  · simpa [z] using kk
  · simpa [z] using kk
theorem all_map {α : Type} {l : List α} {f : α → Bool} : (l.map f).all id = l.all f := by rw [List.all_map]; rfl
theorem map_get {α : Type} {f : α → D} {l : List α} {i : Nat} {d : D} (h : (l.map f)[i]? = some d) : ∃ e, l[i]? = some e ∧ d = f e := by
  rw [List.getElem?_map] at h
  obtain ⟨e, h1, h2⟩ := Option.map_eq_some_iff.mp h
  exact ⟨e, h1, h2.symm⟩
theorem mp_s {α β : Type} {l : List α} {i : Nat} {x : α} (h : l[i]? = some x) (f : α → β) : (l.take i).map f ++ [f x] = (l.take (i + 1)).map f := by
  rw [List.take_add_one, h]
  simp
theorem ft_t {α β : Type} {l : List α} {i : Nat} {x : α} (h : l[i]? = some x) (P : α → Bool) (f : α → β) (hp : P x = true) : ((l.take i).filter P).map f ++ [f x] = ((l.take (i + 1)).filter P).map f := by
  rw [List.take_add_one, h]
  simp [hp]
theorem ft_f {α β : Type} {l : List α} {i : Nat} {x : α} (h : l[i]? = some x) (P : α → Bool) (f : α → β) (hp : P x = false) : ((l.take i).filter P).map f = ((l.take (i + 1)).filter P).map f := by
  rw [List.take_add_one, h]
  simp [hp]
theorem take_all {α : Type} {l : List α} : l.take l.length = l := List.take_of_length_le (Nat.le_refl _)
theorem pure_is_word (as : List Sx) (p : RS → List Sx → Prop) (hl : as.length = 1) (h : fs_is_word as p) : ds_is_word (endsOf as p) (startG 2 as) := by
  obtain ⟨s, rfl, hs, kk⟩ := h
  unfold ds_is_word
  walk_at "x"
  have hs' : s.cps.size ≤ 1000 := hs
  unfold isW at kk
  refine ⟨fun h1 => ⟨fun h2 => ?_, fun h2 => ?_⟩, fun h1 => ?_⟩
  · refine lc_a (by omega) (fun i => (s.cps.toList.take i).map fun c => D.bl (decide (c ∈ letters.cps.toList))) rfl ?_ ?_
    · rintro i _ hi ⟨c, hc, rfl⟩
      walk_at "x"
      refine ⟨c, rfl, mp_s (by rw [Array.getElem?_toList]; exact hc) _⟩
    · walk_at "x"
      refine ⟨(s.cps.toList.map fun c => decide (c ∈ letters.cps.toList)), ?_, ?_⟩
      · rw [List.take_of_length_le (by simp), List.map_map]
        rfl
      · rw [all_map]
        rw [decide_eq_true (show 1 ≤ s.length by omega), decide_eq_true (show s.length ≤ 8 by omega)] at kk
        exact kk
  · rw [decide_eq_false (show ¬ s.length ≤ 8 by omega)] at kk
    simpa using kk
  · rw [decide_eq_false (show ¬ 1 ≤ s.length by omega)] at kk
    simpa using kk
theorem pure_is_value (as : List Sx) (p : RS → List Sx → Prop) (hl : as.length = 2) (h : fs_is_value as p) : ds_is_value (endsOf as p) (startG 2 as) := by
  obtain ⟨w, d, rfl, hs, kk⟩ := h
  cases d <;> try exact hs.elim
  · rename_i v
    cases w
    · unfold ds_is_value
      walk_at "xs"
      have kk : p (.val (.bl (decide (-999999999 ≤ (v : Int)) && decide ((v : Int) ≤ 999999999)))) [.val (.str "number"), .val (.int v)] := kk
      refine ⟨fun z => ?_, fun z => ?_⟩
      · rw [decide_eq_true z] at kk
        exact kk
      · rw [decide_eq_false z] at kk
        exact kk
    · unfold ds_is_value
      walk_at "xs"
      walk_at "x"
      exact kk
  · rename_i v
    cases w
    · unfold ds_is_value
      walk_at "xs"
      exact kk
    · unfold ds_is_value
      walk_at "xs"
      walk_at "x"
      refine ⟨v, rfl, hs.1, ?_⟩
      walk_at "x"
      exact kk
theorem pD_e {w : Bool} {e : Pr w} : pD w e = .tup [vD w e.1, .int e.2] := rfl
theorem pool_len {ms : List Int} (h : Pool ms) : ∃ x xs, ms = x :: xs ∧ 0 ≤ x ∧ (∀ y ∈ xs, 0 ≤ y) ∧ xs.length ≤ 63 := by
  obtain ⟨h1, h2, h3⟩ := h
  cases ms with
  | nil => simp at h2
  | cons x xs => exact ⟨x, xs, rfl, h1 x List.mem_cons_self, fun y hy => h1 y (List.mem_cons_of_mem _ hy), by simp at h3; omega⟩
theorem pool_mk {x : Int} {xs : List Int} (h1 : 0 ≤ x) (h3 : ∀ y ∈ xs, 0 ≤ y) (h4 : xs.length ≤ 63) : Pool (x :: xs) := ⟨fun y hy => by
  rcases List.mem_cons.mp hy with rfl | hy
  · exact h1
  · exact h3 y hy, by simp, by simp; omega⟩
theorem pure_l_take (as : List Sx) (p : RS → List Sx → Prop) (hl : as.length = 2) (h : fs_l_take as p) : ds_l_take (endsOf as p) (startG 3 as) := by
  obtain ⟨ms, m, rfl, hp, h0, h1, k⟩ := h
  obtain ⟨x, xs, rfl, x0, hx, hl2⟩ := pool_len hp
  have rest : ∀ y ys, Pool (y :: ys) → DL.Later (dSeq (dAsg 2 (d2 fMod (dCB fInt (dCons (d2 fIxL (dVar 0) (dC (.int 0))) dNil)) (dVar 1)))
      (dSeq (dSetI 0 (d2 fDivW (d2 fIxL (dVar 0) (dC (.int 0))) (dVar 1)) (dC (.int 0))) (dRet (dVarM 2))))
      (endsOf [.own (some 0) (.lst (intsD (x :: xs))), .val (.int m)] p) [.own (some 0) (.lst (intsD (y :: ys))), .val (.int m), .no] := fun y ys hq => by
    obtain ⟨y', ys', e, y0, hy, hl3⟩ := pool_len hq
    cases e
    walk_at "dn"
    refine ⟨h0, ?_⟩
    walk_at "dn"
    refine ⟨divW h0 h1, ?_⟩
    walk_at "de"
    exact k (y % m) (y / m :: ys) (Int.emod_nonneg _ (by omega)) (Int.emod_lt_of_pos _ h0) (pool_mk (Int.ediv_nonneg y0 (by omega)) hy hl3)
  unfold ds_l_take
  walk_at "ds"
  refine ⟨fun z => ⟨fun w => ?_, fun w => ?_⟩, fun z => ?_⟩
  · cases xs with
    | nil => simp at w
    | cons y ys =>
      refine ⟨by decide, by decide, 1, .int y, by simp [seqIndex?]; omega, rfl, 0, ixN_zero (by simp), ?_⟩
      have y0 := hx y List.mem_cons_self
      exact rest y ys (pool_mk y0 (fun v hv => hx v (List.mem_cons_of_mem _ hv)) (by simp at hl2; omega))
  · exact rest x xs hp
  · exact rest x xs hp

theorem vlt_irr {w : Bool} {a : Vt w} : vlt w a a = false := by
  cases w
  · exact decide_eq_false (Int.lt_irrefl _)
  · exact decide_eq_false (List.lt_irrefl _)
theorem vlt_tr {w : Bool} {a b c : Vt w} (h : vlt w a b = true) (k : vlt w b c = true) : vlt w a c = true := by
  cases w
  · exact decide_eq_true (Int.lt_trans (of_decide_eq_true h) (of_decide_eq_true k))
  · exact decide_eq_true (List.lt_trans (of_decide_eq_true h) (of_decide_eq_true k))
theorem vlt_as {w : Bool} {a b : Vt w} (h : vlt w a b = true) : vlt w b a = false := by
  cases e : vlt w b a with
  | false => rfl
  | true =>
    have := vlt_tr h e
    rw [vlt_irr] at this
    cases this
theorem vlt_ne {w : Bool} {a b : Vt w} (h : vlt w a b = true) : a ≠ b := fun e => by
  subst e
  rw [vlt_irr] at h
  cases h
theorem vlt_tri {w : Bool} (a b : Vt w) : vlt w a b = true ∨ a = b ∨ vlt w b a = true := by
  cases w
  · rcases Int.lt_trichotomy a b with h | h | h
    · exact .inl (decide_eq_true h)
    · exact .inr (.inl h)
    · exact .inr (.inr (decide_eq_true h))
  · by_cases h : (show Str from a).cps.toList < (show Str from b).cps.toList
    · exact .inl (decide_eq_true h)
    · by_cases k : (show Str from b).cps.toList < (show Str from a).cps.toList
      · exact .inr (.inr (decide_eq_true k))
      · exact .inr (.inl (PySem.W.str_of_cps (List.le_antisymm (List.not_lt.mp k) (List.not_lt.mp h))))
theorem eqv_v {w : Bool} {a b : Vt w} : PyData.eqv (vD w a).py (vD w b).py = decide (a = b) := deq_vD
theorem alike_v {w : Bool} {a b : Vt w} : PySem.W.alike (vD w a).py (vD w b).py = true := by cases w <;> rfl
theorem dlt_v {w : Bool} {a b : Vt w} : PySem.W.dataLt (vD w a).py (vD w b).py = vlt w a b := by
  cases w
  · exact PySem.W.dataLt_int _ _
  · exact PySem.W.dataLt_str _ _
theorem dle_pD {w : Bool} (a b : Pr w) : dle (pD w a) (pD w b) = ple w a b := by
  unfold dle
  have e : ∀ c : Pr w, (pD w c).py = .tuple [(vD w c.1).py, .int c.2] := fun c => rfl
  rw [e, e, PySem.W.dataLt_pair alike_v rfl, eqv_v, dlt_v, PySem.W.dataLt_int]
  unfold ple
  rcases vlt_tri a.1 b.1 with h | h | h
  · rw [h, vlt_as h, if_neg (by simp; exact fun q => vlt_ne h q.symm)]
    rfl
  · rw [h, vlt_irr, if_pos (by simp)]
    simp only [PyData.eqv, Bool.false_or, decide_true, Bool.true_and]
    by_cases c : b.2 = a.2
    · simp [c]
    · by_cases d : b.2 < a.2
      · simp [c, d]
      · simp [c, d]
        omega
  · rw [h, vlt_as h, if_neg (by simp; exact fun q => vlt_ne h q)]
    simp only [Bool.not_true, Bool.false_or, Bool.false_eq, Bool.and_eq_false_iff, decide_eq_false_iff_not]
    exact .inl fun q => vlt_ne h q.symm
theorem ple_tr {w : Bool} (a b c : Pr w) (h : ple w a b = true) (k : ple w b c = true) : ple w a c = true := by
  unfold ple at *
  simp only [Bool.or_eq_true, Bool.and_eq_true, decide_eq_true_eq] at *
  rcases h with h | ⟨h1, h2⟩
  · rcases k with k | ⟨k1, k2⟩
    · exact .inl (vlt_tr h k)
    · rw [← k1]; exact .inl h
  · rw [h1]
    rcases k with k | ⟨k1, k2⟩
    · exact .inl k
    · exact .inr ⟨k1, by omega⟩
theorem ple_tot {w : Bool} (a b : Pr w) : (ple w a b || ple w b a) = true := by
  unfold ple
  simp only [Bool.or_eq_true, Bool.and_eq_true, decide_eq_true_eq]
  rcases vlt_tri a.1 b.1 with h | h | h
  · exact .inl (.inl h)
  · rcases Int.le_total a.2 b.2 with c | c
    · exact .inl (.inr ⟨h, c⟩)
    · exact .inr (.inr ⟨h.symm, c⟩)
  · exact .inr (.inl h)
theorem ple_as {w : Bool} (a b : Pr w) (h : ple w a b = true) (k : ple w b a = true) : a = b := by
  unfold ple at *
  simp only [Bool.or_eq_true, Bool.and_eq_true, decide_eq_true_eq] at *
  rcases h with h | ⟨h1, h2⟩
  · rcases k with k | ⟨k1, k2⟩
    · rw [vlt_as h] at k; cases k
    · exact absurd k1.symm (vlt_ne h)
  · rcases k with k | ⟨k1, k2⟩
    · exact absurd h1.symm (vlt_ne k)
    · exact Prod.ext h1 (by omega)
theorem srt_uniq {w : Bool} {es0 es : List (Pr w)} (h : es0.Perm es) (up : Up w es) : es0.mergeSort (ple w) = es := by
  refine List.Perm.eq_of_pairwise (le := fun a b => ple w a b = true) (fun a b _ _ => ple_as a b) (List.pairwise_mergeSort ple_tr ple_tot es0) (up.imp fun {a b} z => ?_) ((List.mergeSort_perm _ _).trans h)
  unfold ple
  rw [z]
  rfl
theorem sort_ps {w : Bool} {es0 es : List (Pr w)} (h : es0.Perm es) (up : Up w es) : (psD w es0).mergeSort dle = psD w es := by
  rw [sort_map (f := pD w) (le := ple w) dle_pD, srt_uniq h up]
/-- code before value -/
def qD (w : Bool) (e : Pr w) : D := .tup [.int e.2, vD w e.1]
theorem srtOk_ps {w : Bool} {es : List (Pr w)} (h : es.length ≤ 1000000) : SrtOk (psD w es) := by
  refine srtOk_of (f := pD w) (fun x => ?_) h (fun x y => ?_) (.inl fun b => ⟨_, _, rfl⟩) (fun x => ?_)
  · cases w <;> rfl
  · cases w <;> rfl
  · cases w <;> simp [pD, qD, vD, D.py, pyAll, PyData.depth, PyData.depthAll]
theorem srtOk_qs {w : Bool} {es : List (Pr w)} (h : es.length ≤ 1000000) : SrtOk (es.map (qD w)) := by
  refine srtOk_of (f := qD w) (fun x => ?_) h (fun x y => ?_) (.inl fun b => ⟨_, _, rfl⟩) (fun x => ?_)
  · cases w <;> rfl
  · cases w <;> rfl
  · cases w <;> simp [pD, qD, vD, D.py, pyAll, PyData.depth, PyData.depthAll]
theorem sort_qs {w : Bool} (es : List (Pr w)) : ∃ es' : List (Pr w), (es.map (qD w)).mergeSort dle = es'.map (qD w) ∧ es'.Perm es :=
  ⟨_, sort_map (f := qD w) (le := fun a b => dle (qD w a) (qD w b)) (fun _ _ => rfl) es, List.mergeSort_perm _ _⟩
theorem ok_pair {a b : D} (h : dOkN 0 a = true) (k : dOkN 0 b = true) : dOkN 1 (.tup [a, b]) = true :=
  ok_tup (f := fun x : D => x) (xs := [a, b]) fun x hx => by
    rcases List.mem_cons.mp hx with rfl | hx
    · exact h
    · rcases List.mem_cons.mp hx with rfl | hx
      · exact k
      · cases hx
/-- is the next code above? -/
def bo {w : Bool} (es : List (Pr w)) (j : Nat) : Bool := match es[j]?, es[j + 1]? with
  | some a, some b => decide (a.2 < b.2)
  | _, _ => false
theorem adj_up {w : Bool} (es : List (Pr w)) : (List.range (es.length - 1)).all (bo es) = upc es := by
  have e : (List.range (es.length - 1)).all (bo es) = true ↔ es.Pairwise fun a b => a.2 < b.2 := by
    rw [List.all_eq_true]
    constructor
    · intro h
      refine List.pairwise_iff_getElem.mpr fun i j hi hj hij => ?_
      have step : ∀ m, (hm : m + 1 < es.length) → es[m].2 < es[m + 1].2 := fun m hm => by
        have := h m (List.mem_range.mpr (by omega))
        unfold bo at this
        rw [List.getElem?_eq_getElem (show m < es.length by omega), List.getElem?_eq_getElem hm] at this
        exact of_decide_eq_true this
      have all : ∀ d, (hd : i + d + 1 < es.length) → es[i].2 < es[i + d + 1].2 := fun d => by
        induction d with
        | zero => exact fun hd => step i hd
        | succ d ih => exact fun hd => Int.lt_trans (ih (by omega)) (step (i + d + 1) hd)
      have := all (j - i - 1) (by omega)
      have q : i + (j - i - 1) + 1 = j := by omega
      simp only [q] at this
      exact this
    · intro h j hj
      have hj := List.mem_range.mp hj
      unfold bo
      rw [List.getElem?_eq_getElem (show j < es.length by omega), List.getElem?_eq_getElem (show j + 1 < es.length by omega)]
      exact decide_eq_true (List.pairwise_iff_getElem.mp h j (j + 1) (by omega) (by omega) (by omega))
  unfold upc
  by_cases c : es.Pairwise fun a b => a.2 < b.2
  · rw [decide_eq_true c, e.mpr c]
  · rw [decide_eq_false c]
    cases q : (List.range (es.length - 1)).all (bo es) with
    | false => rfl
    | true => exact absurd (e.mp q) c
theorem pure_in_order (as : List Sx) (p : RS → List Sx → Prop) (hl : as.length = 1) (h : fs_in_order as p) : ds_in_order (endsOf as p) (startG 5 as) := by
  obtain ⟨w, es, rfl, hn, up, kk⟩ := h
  unfold ds_in_order
  walk_at "x"
  rw [cut_from (by decide), show (1 : Int).toNat = 1 from rfl]
  have hm : min es.length ((psD w es).drop 1).length = es.length - 1 := by simp
  rw [hm]
  refine lc_a (by omega) (fun i => (List.range i).map fun j => D.bl (bo es j)) rfl ?_ ?_
  · rintro i _ hi ⟨x, y, hx, hy, rfl⟩
    rw [List.getElem?_drop] at hy
    obtain ⟨a, ha, rfl⟩ := map_get hx
    obtain ⟨b, hb, rfl⟩ := map_get hy
    rw [Nat.add_comm] at hb
    have hv : vlt w a.1 b.1 = true := by
      obtain ⟨h1, e1⟩ := List.getElem?_eq_some_iff.mp ha
      obtain ⟨h2, e2⟩ := List.getElem?_eq_some_iff.mp hb
      rw [← e1, ← e2]
      exact List.pairwise_iff_getElem.mp up i (i + 1) h1 h2 (by omega)
    have hb' : bo es i = decide (a.2 < b.2) := by
      unfold bo
      rw [ha, hb]
    have goal : (List.range i).map (fun j => D.bl (bo es j)) ++ [D.bl (decide (a.2 < b.2))] = (List.range (i + 1)).map fun j => D.bl (bo es j) := by
      rw [List.range_succ, List.map_append, ← hb']
      rfl
    rw [pD_e, pD_e]
    cases w
    · have hv' : (a.1 : Int) < (b.1 : Int) := of_decide_eq_true hv
      walk_at "x"
      exact ⟨fun _ => ⟨fun z => by rw [hb', decide_eq_true z], fun z => ⟨fun e => absurd e (vlt_ne hv), fun e => by rw [hb', decide_eq_false z]⟩⟩, fun z => absurd hv' z⟩
    · have hv' : slt a.1 b.1 = true := hv
      walk_at "x"
      exact ⟨fun _ => ⟨fun z => by rw [hb', decide_eq_true z], fun z => ⟨fun e => absurd e (vlt_ne hv), fun e => by rw [hb', decide_eq_false z]⟩⟩, fun z => by rw [hv'] at z; cases z⟩
  · walk_at "x"
    refine ⟨(List.range (es.length - 1)).map (bo es), List.map_map.symm, ?_⟩
    rw [all_map, adj_up]
    exact kk
theorem pure_told_by_first (as : List Sx) (p : RS → List Sx → Prop) (hl : as.length = 1) (h : fs_told_by_first as p) : ds_told_by_first (endsOf as p) (startG 3 as) := by
  obtain ⟨w, ps, rfl, hn, hf, nd, kk⟩ := h
  unfold ds_told_by_first
  walk_at "x"
  rw [cut_from (by decide), show (1 : Int).toNat = 1 from rfl]
  generalize hm : min ps.length _ = m
  have hm' : m ≤ 1000 := by
    have : m ≤ ps.length := by rw [← hm]; exact Nat.min_le_left _ _
    omega
  refine lc_a (by omega) (fun i => (List.replicate i true).map D.bl) rfl ?_ ?_
  · rintro i _ hi ⟨x, y, hx, hy, rfl⟩
    rw [List.getElem?_drop] at hy
    obtain ⟨a, ha, rfl⟩ := map_get hx
    obtain ⟨b, hb, rfl⟩ := map_get hy
    rw [Nat.add_comm] at hb
    obtain ⟨h1, e1⟩ := List.getElem?_eq_some_iff.mp ha
    obtain ⟨h2, e2⟩ := List.getElem?_eq_some_iff.mp hb
    have ne : a.1 ≠ b.1 := by
      have := List.pairwise_iff_getElem.mp nd i (i + 1) (by simpa using h1) (by simpa using h2) (by omega)
      rw [List.getElem_map, List.getElem_map, e1, e2] at this
      exact this
    have d1 : dOk (.tup [vD w a.1, a.2]) = true := dOk_of (ok_pair (hf a (by rw [← e1]; exact List.getElem_mem _)).1 (hf a (by rw [← e1]; exact List.getElem_mem _)).2) (by decide)
    have d2 : dOk (.tup [vD w b.1, b.2]) = true := dOk_of (ok_pair (hf b (by rw [← e2]; exact List.getElem_mem _)).1 (hf b (by rw [← e2]; exact List.getElem_mem _)).2) (by decide)
    have goal : (List.replicate i true).map D.bl ++ [D.bl true] = D.bl true :: (List.replicate i true).map D.bl := by
      rw [show D.bl true :: (List.replicate i true).map D.bl = (List.replicate (i + 1) true).map D.bl from rfl]
      simp [List.replicate_succ']
    cases w
    · have ne' : ¬ (a.1 : Int) = (b.1 : Int) := ne
      walk_at "x"
      exact ⟨fun z => goal, fun z => by rw [decide_eq_false ne']; exact goal⟩
    · have ne' : ¬ (a.1 : Str) = (b.1 : Str) := ne
      walk_at "x"
      exact ⟨fun z => goal, fun z => by rw [decide_eq_false ne']; exact goal⟩
  · walk_at "x"
    refine ⟨List.replicate m true, rfl, ?_⟩
    rw [show (List.replicate m true).all id = true by simp]
    exact kk
theorem ok_v {w : Bool} {v : Vt w} (h : isV w v = true) : dOkN 0 (vD w v) = true := by
  cases w
  · exact ok_int _
  · have h : isW v = true := h
    unfold isW at h
    simp only [Bool.and_eq_true, decide_eq_true_eq, List.all_eq_true] at h
    unfold dOkN
    have lt : ∀ c ∈ letters.cps.toList, c < 0x110000 := by decide
    have : PyData.strOk v = true := by
      unfold PyData.strOk
      rw [Array.all_eq_true]
      intro i hi
      exact decide_eq_true (lt _ (h.2.2 _ (by rw [Array.mem_toList_iff]; exact Array.getElem_mem hi)))
    simp [D.pure, vD, D.py, PyData.canLay0, PyData.depth, this]
theorem up_nd {w : Bool} {es : List (Pr w)} (up : Up w es) : (fsts es).Nodup := List.Pairwise.map _ (fun a b h => vlt_ne h) up
theorem eqg_cons {e : Pr false} {r : List (Pr false)} : eqg false (e :: r) = if (r.all fun x => decide (gap x = gap e)) = true then some (gap e) else none := rfl
theorem eqg_some {es : List (Pr false)} {g : Int} (ne : es ≠ []) (h : ∀ e ∈ es, gap e = g) : eqg false es = some g := by
  cases es with
  | nil => exact absurd rfl ne
  | cons e r =>
    have h0 := h e List.mem_cons_self
    rw [eqg_cons, if_pos (List.all_eq_true.mpr fun x hx => decide_eq_true (by rw [h x (List.mem_cons_of_mem _ hx), h0])), h0]
theorem eqg_all {es : List (Pr false)} {g : Int} (h : eqg false es = some g) : ∀ e ∈ es, gap e = g := by
  cases es with
  | nil => cases h
  | cons e r =>
    rw [eqg_cons] at h
    split at h
    · rename_i q
      injection h with h
      intro x hx
      rcases List.mem_cons.mp hx with rfl | hx
      · exact h
      · rw [← h]
        exact of_decide_eq_true (List.all_eq_true.mp q x hx)
    · cases h
theorem eqg_t {es : List (Pr true)} : eqg true es = none := by cases es <;> rfl
theorem kpt_none {w : Bool} {es : List (Pr w)} (ne : es ≠ []) (h : eqg w es = none) : kpt w es = if upc es then ("order" : Str) else ("same" : Str) := by
  unfold kpt
  rw [if_neg ne, h]
theorem kpt_some {w : Bool} {es : List (Pr w)} {g : Int} (ne : es ≠ []) (h : eqg w es = some g) : kpt w es = if g = 0 then ("value" : Str) else ("distance" : Str) := by
  unfold kpt
  rw [if_neg ne, h]
theorem eqg_upc {w : Bool} {es : List (Pr w)} {g : Int} (up : Up w es) (h : eqg w es = some g) : upc es = true := by
  cases w
  · refine decide_eq_true (List.Pairwise.imp_of_mem (fun {a b} ha hb (hab : vlt false a.1 b.1 = true) => ?_) up)
    have hab' : (a.1 : Int) < (b.1 : Int) := of_decide_eq_true hab
    have ma : a.2 - (a.1 : Int) = g := eqg_all h a ha
    have mb : b.2 - (b.1 : Int) = g := eqg_all h b hb
    have key : ∀ x y c d : Int, x < y → c - x = g → d - y = g → c < d := fun x y c d _ _ _ => by omega
    exact key a.1 b.1 a.2 b.2 hab' ma mb
  · rw [eqg_t] at h; cases h
theorem rl_kpt {w : Bool} {es : List (Pr w)} (up : Up w es) : (upc es = true → kpt w es = "order" ∨ kpt w es = "distance" ∨ kpt w es = "value") ∧ (upc es = false → kpt w es = "same") := by
  by_cases ne : es = []
  · subst ne
    exact ⟨fun _ => .inr (.inr rfl), fun q => by cases q⟩
  · cases h : eqg w es with
    | none =>
      rw [kpt_none ne h]
      exact ⟨fun u => .inl (by rw [u]; rfl), fun u => by rw [u]; rfl⟩
    | some g =>
      rw [kpt_some ne h, eqg_upc up h]
      refine ⟨fun _ => ?_, fun q => by cases q⟩
      split
      · exact .inr (.inr rfl)
      · exact .inr (.inl rfl)
def kb_T : DS := (dSeq (dIf (dB (dCallL 1 fs_in_order (dCons (dVar 1) dNil))) (dRet (dC (.str "order"))) dNext)
  (dSeq (dIf (dAnd (dB (dCallL 1 fs_told_by_first (dCons (dVar 1) dNil))) (dB (dCallL 1 fs_told_by_first (dCons (dCB fSorted (dCons (dLc (dIL (dVarV 1)) (gT 2 (gsCons (gN 3) (gsCons (gN 4) gsNil))) dYes (dTup (dCons (dVarV 4) (dCons (dVarV 3) dNil))) [3, 4]) dNil)) dNil)))) (dRet (dC (.str "same"))) dNext)
  (dRet (dC (.str "none")))))
theorem kb_rest {w : Bool} {es : List (Pr w)} {p : RS → List Sx → Prop} (hn : es.length ≤ 1000) (up : Up w es) (nd : (snds es).Nodup) (hv : ∀ e ∈ es, isV w e.1 = true) (ne : es ≠ []) (he : eqg w es = none) (kk : p (.val (.str (kpt w es))) [.val (.lst (psD w es))]) {s1 s2 : Sx}
    (h1 : s1 = .own none (.lst (psD w es)) ∨ s1 = .val (.lst (psD w es))) : DL.Later kb_T (endsOf [.val (.lst (psD w es))] p) [.val (.lst (psD w es)), s1, s2, .no, .no] := by
  have io : ∀ q : RS → List Sx → Prop, q (.val (.bl (upc es))) [.val (.lst (psD w es))] → fs_in_order [.val (.lst (psD w es))] q := fun q hq => ⟨w, es, rfl, hn, up, hq⟩
  have t1 : ∀ q : RS → List Sx → Prop, q (.val (.bl true)) [.val (.lst (psD w es))] → fs_told_by_first [.val (.lst (psD w es))] q := fun q hq => ⟨w, es.map fun e => (e.1, D.int e.2), by rw [List.map_map]; rfl, by simpa using hn, fun e he => by
    obtain ⟨a, ha, rfl⟩ := List.mem_map.mp he
    exact ⟨ok_v (hv a ha), ok_int _⟩, by rw [List.map_map]; exact up_nd up, hq⟩
  obtain ⟨es', hq, hperm⟩ := sort_qs es
  have t2 : ∀ q : RS → List Sx → Prop, q (.val (.bl true)) [.val (.lst (es'.map (qD w)))] → fs_told_by_first [.val (.lst (es'.map (qD w)))] q := fun q hq => ⟨false, es'.map fun e => (e.2, vD w e.1), by rw [List.map_map]; rfl, by rw [List.length_map, hperm.length_eq]; exact hn, fun e he => by
    obtain ⟨a, ha, rfl⟩ := List.mem_map.mp he
    exact ⟨ok_int _, ok_v (hv a (hperm.mem_iff.mp ha))⟩, by
    rw [List.map_map]
    exact (hperm.map Prod.snd).nodup_iff.mpr nd, hq⟩
  rw [kpt_none ne he] at kk
  unfold kb_T
  rcases h1 with rfl | rfl
  all_goals
    walk_at "xn"
    refine io _ ?_
    walk_at "xd"
    refine ⟨fun z => by rw [z] at kk; exact kk, fun z => ?_⟩
    walk_at "xn"
    refine t1 _ ?_
    walk_at "xd"
    refine lc_a (by omega) (fun i => (es.take i).map (qD w)) rfl ?_ ?_
    · rintro i _ hi hx
      obtain ⟨e, he, rfl⟩ := map_get hx
      rw [pD_e]
      walk_at "x"
      exact mp_s he (qD w)
    · rw [take_all]
      walk_at "xd"
      refine ⟨srtOk_qs (by omega), ?_⟩
      rw [hq]
      refine t2 _ ?_
      walk_at "xd"
      rw [z] at kk
      exact kk
theorem pure_kept_by (as : List Sx) (p : RS → List Sx → Prop) (hl : as.length = 1) (h : fs_kept_by as p) : ds_kept_by (endsOf as p) (startG 5 as) := by
  obtain ⟨w, es, rfl, hn, up, nd, hv, kk⟩ := h
  unfold ds_kept_by
  walk_at "xs"
  refine lc_a (by omega) (fun i => psD w (es.take i)) rfl ?_ ?_
  · rintro i _ hi hx
    obtain ⟨e, he, rfl⟩ := map_get hx
    rw [pD_e]
    walk_at "x"
    exact mp_s he (pD w)
  · rw [take_all]
    walk_at "xd"
    refine ⟨srtOk_ps (by omega), ?_⟩
    rw [sort_ps (List.Perm.refl es) up]
    walk_at "xn"
    refine ⟨fun z => ?_, fun z => ?_⟩
    · have : es = [] := by
        cases es with
        | nil => rfl
        | cons a b => simp at z
      subst this
      exact kk
    · have ne : es ≠ [] := fun e => by subst e; cases z
      obtain ⟨e0, h0⟩ : ∃ e0, es[0]? = some e0 := by
        cases es with
        | nil => exact absurd rfl ne
        | cons a b => exact ⟨a, rfl⟩
      have a0 : atI (psD w es) 0 = some (pD w e0) := atI_map (f := pD w) (atI_nat (j := 0) h0)
      cases w
      · walk_at "xn"
        refine ⟨_, a0, ?_⟩
        rw [pD_e]
        walk_at "xd"
        walk_at "xs"
        refine lc_a (by omega) (fun i => (es.take i).map fun e => D.int (e.2 - (e.1 : Int))) rfl ?_ ?_
        · rintro i _ hi hx
          obtain ⟨e, he, rfl⟩ := map_get hx
          rw [pD_e]
          walk_at "x"
          exact mp_s he fun e => D.int (e.2 - (e.1 : Int))
        · rw [take_all]
          walk_at "xd"
          walk_at "xe"
          have ln : 0 < (es.map fun e => e.2 - (e.1 : Int)).length := by
            rw [List.length_map]
            exact List.length_pos_iff.mpr ne
          have em : (es.map fun e => D.int (e.2 - (e.1 : Int))) = (es.map fun e => e.2 - (e.1 : Int)).map D.int := List.map_map.symm
          refine ⟨_, em, ln, fun m hm hlo => ⟨_, em, ln, fun M hM hhi => ⟨fun e => ?_, fun hne => ?_⟩⟩⟩
          · have all : ∀ x ∈ es, gap x = m := fun x hx => by
              have mx := List.mem_map_of_mem (f := fun e : Pr false => e.2 - (e.1 : Int)) hx
              have h1 : m ≤ x.2 - (x.1 : Int) := hlo _ mx
              have h2 : x.2 - (x.1 : Int) ≤ M := hhi _ mx
              have key : ∀ a b : Int, m ≤ b - a → b - a ≤ M → m = M → b - a = m := fun a b _ _ _ => by omega
              exact key x.1 x.2 h1 h2 e
            have g := eqg_some ne all
            rw [kpt_some ne g] at kk
            have e0m : e0.2 - (e0.1 : Int) = m := all e0 (List.mem_of_getElem? h0)
            refine ⟨_, atI_map (f := fun e : Pr false => D.int (e.2 - (e.1 : Int))) (atI_nat (j := 0) h0), ?_⟩
            walk_at "xd"
            rw [e0m]
            refine ⟨fun z => by rw [if_pos z] at kk; exact kk, fun z => by rw [if_neg z] at kk; exact kk⟩
          · refine kb_rest hn up nd hv ne ?_ kk (.inr rfl)
            cases g : eqg false es with
            | none => rfl
            | some g' =>
              have all := eqg_all g
              obtain ⟨a, ha, ea⟩ := List.mem_map.mp hm
              obtain ⟨b, hb, eb⟩ := List.mem_map.mp hM
              have h1 : m = g' := by rw [← ea]; exact all a ha
              have h2 : M = g' := by rw [← eb]; exact all b hb
              exact absurd (h1.trans h2.symm) hne
      · walk_at "xn"
        refine ⟨_, a0, ?_⟩
        rw [pD_e]
        walk_at "xd"
        exact kb_rest hn up nd hv ne eqg_t kk (.inl rfl)

theorem isVD_v {w : Bool} {v : Vt w} : isVD w (vD w v) = isV w v := by cases w <;> rfl
theorem isVD_of {w : Bool} {d : D} (h : isVD w d = true) : ∃ v : Vt w, d = vD w v ∧ isV w v = true := by
  cases d <;> try (cases h; done)
  · rename_i n
    cases w
    · exact ⟨n, rfl, h⟩
    · cases h
  · rename_i n
    cases w
    · cases h
    · exact ⟨n, rfl, h⟩
theorem iq_ok {t : Bool} {ds : List D} {P : List D → Prop} (h : P ds) : (match ltD t ds with
  | .lst ds => P ds
  | .tup ds => P ds
  | _ => False) := by cases t <;> exact h
theorem in_dom {w : Bool} {q : RS → Prop} (h : q (.val (.bl false))) : fInQ true (.str (dom w)) (.tup [.str "number", .str "word"]) q := by
  cases w
  · refine ⟨rfl, rfl, ?_⟩
    simpa [deq_str, dom_f] using h
  · refine ⟨rfl, rfl, ?_⟩
    simpa [deq_str, dom_t] using h
def kdv (w : Bool) (es : List (Pr w)) : List (Key × D) := es.map fun e => (vK w e.1, .int e.2)
def kdc (w : Bool) (es : List (Pr w)) : List (Key × D) := es.map fun e => (.inl e.2, vD w e.1)
theorem any_key {α : Type} {f : α → Key × D} {l : List α} {k : Key} : ((l.map f).any fun kv => decide (kv.1 = k)) = l.any fun a => decide ((f a).1 = k) := by rw [List.any_map]; rfl
theorem vlk_some {kd : List (Key × D)} {k : Key} : (vlk kd k).isSome = kd.any fun kv => decide (kv.1 = k) := by
  unfold vlk
  rw [Option.isSome_map]
  rw [Bool.eq_iff_iff, List.find?_isSome, List.any_eq_true]
theorem kdv_in {w : Bool} {es : List (Pr w)} {v : Vt w} : (vlk (kdv w es) (vK w v)).isSome = decide (v ∈ fsts es) := by
  rw [vlk_some]
  unfold kdv
  rw [any_key, Bool.eq_iff_iff, List.any_eq_true, decide_eq_true_eq, List.mem_map]
  constructor
  · rintro ⟨e, he, hk⟩
    exact ⟨e, he, vK_inj (of_decide_eq_true hk)⟩
  · rintro ⟨e, he, rfl⟩
    exact ⟨e, he, decide_eq_true rfl⟩
theorem kdc_in {w : Bool} {es : List (Pr w)} {c : Int} : (vlk (kdc w es) (.inl c)).isSome = decide (c ∈ snds es) := by
  rw [vlk_some]
  unfold kdc
  rw [any_key, Bool.eq_iff_iff, List.any_eq_true, decide_eq_true_eq, List.mem_map]
  constructor
  · rintro ⟨e, he, hk⟩
    have := of_decide_eq_true hk
    exact ⟨e, he, by injection this⟩
  · rintro ⟨e, he, rfl⟩
    exact ⟨e, he, decide_eq_true rfl⟩
theorem vlk_kdv {w : Bool} {es : List (Pr w)} (nd : (fsts es).Nodup) {e : Pr w} (he : e ∈ es) : vlk (kdv w es) (vK w e.1) = some (.int e.2) := by
  unfold vlk kdv
  rw [List.find?_map]
  have key : es.find? ((fun kv : Key × D => decide (kv.1 = vK w e.1)) ∘ fun e => (vK w e.1, D.int e.2)) = some e := by
    have hs : (es.find? ((fun kv : Key × D => decide (kv.1 = vK w e.1)) ∘ fun e => (vK w e.1, D.int e.2))).isSome = true := List.find?_isSome.mpr ⟨e, he, decide_eq_true rfl⟩
    obtain ⟨a, ha⟩ := Option.isSome_iff_exists.mp hs
    have h1 := List.mem_of_find?_eq_some ha
    have h2 := List.find?_some ha
    have h3 : a.1 = e.1 := vK_inj (of_decide_eq_true h2)
    rw [ha]
    congr 1
    obtain ⟨i, hi, rfl⟩ := List.mem_iff_getElem.mp h1
    obtain ⟨j, hj, rfl⟩ := List.mem_iff_getElem.mp he
    have : i = j := by
      have := (List.getElem_inj (h₀ := by simpa using hi) (h₁ := by simpa using hj) nd).mp (by simpa using h3)
      exact this
    subst this
    rfl
  rw [key]
  rfl
theorem vlk_kdc {w : Bool} {es : List (Pr w)} (nd : (snds es).Nodup) {e : Pr w} (he : e ∈ es) : vlk (kdc w es) (.inl e.2) = some (vD w e.1) := by
  unfold vlk kdc
  rw [List.find?_map]
  have key : es.find? ((fun kv : Key × D => decide (kv.1 = .inl e.2)) ∘ fun e => ((.inl e.2 : Key), vD w e.1)) = some e := by
    have hs : (es.find? ((fun kv : Key × D => decide (kv.1 = .inl e.2)) ∘ fun e => ((.inl e.2 : Key), vD w e.1))).isSome = true := List.find?_isSome.mpr ⟨e, he, decide_eq_true rfl⟩
    obtain ⟨a, ha⟩ := Option.isSome_iff_exists.mp hs
    have h1 := List.mem_of_find?_eq_some ha
    have h2 := List.find?_some ha
    have h3 : a.2 = e.2 := by have := of_decide_eq_true h2; injection this
    rw [ha]
    congr 1
    obtain ⟨i, hi, rfl⟩ := List.mem_iff_getElem.mp h1
    obtain ⟨j, hj, rfl⟩ := List.mem_iff_getElem.mp he
    have : i = j := by
      have := (List.getElem_inj (h₀ := by simpa using hi) (h₁ := by simpa using hj) nd).mp (by simpa using h3)
      exact this
    subst this
    rfl
  rw [key]
  rfl
theorem ptk_new {kd : List (Key × D)} {k : Key} {d : D} (h : (vlk kd k).isSome = false) : ptk kd k d = kd ++ [(k, d)] := by
  unfold ptk
  rw [← vlk_some, h]
  rfl
theorem nd_at {α : Type} {l : List α} {i : Nat} {a : α} (nd : l.Nodup) (h : l[i]? = some a) : a ∉ l.take i := fun hm => by
  obtain ⟨j, hj, e⟩ := List.mem_iff_getElem.mp hm
  rw [List.length_take] at hj
  rw [List.getElem_take] at e
  obtain ⟨hi, e2⟩ := List.getElem?_eq_some_iff.mp h
  have := List.pairwise_iff_getElem.mp nd j i (by omega) hi (by omega)
  exact this (e.trans e2.symm)
def bi_T (xc : DX) : DS := (dSeq (dIf (dB (d2 fGt (dCB fLenD (dCons (dVar 4) dNil)) (d1 (fCon "MOST" mc_MOST) (dVar 0)))) (dRaise1 xc 7 "value" (dCons (d2 fIxT (d2 fIxQ (dVar 3) (d1 (fCon "MOST" mc_MOST) (dVar 0))) (dC (.int (0)))) dNil)) dNext)
  (dSeq (dAsg 6 (dCB fSorted (dCons (dLc (dIQ (dVarV 3)) (gT 2 (gsCons (gN 8) (gsCons (gN 9) gsNil))) dYes (dTup (dCons (dVarV 8) (dCons (dVarV 9) dNil))) [8, 9]) dNil)))
  (dSeq (dAsg 7 (dLc (dIL (dVarV 6)) (gT 2 (gsCons (gN 8) (gsCons (gN 9) gsNil))) (dB (d2 fLt (dVar 9) (dVar 2))) (dTup (dCons (dVarV 8) (dCons (dVarV 9) dNil))) [8, 9]))
  (dSeq (dFor (dIZ (dCons (dVarV 7) (dCons (dSl fSlL (dVar 7) (dPart (dC (.int (1)))) dNo) dNil))) (gT 2 (gsCons (gT 2 (gsCons (gN 10) (gsCons (gN 11) gsNil))) (gsCons (gT 2 (gsCons (gN 8) (gsCons (gN 9) gsNil))) gsNil))) (dIf (dB (d2 fLe (dVar 9) (dVar 11))) (dRaise1 xc 8 "value" (dCons (dVarV 8) dNil)) dNext))
  (dSeq (dSetF exFt 0 "domain" (dVarV 1))
  (dSeq (dSetF exFt 0 "room" (dVarV 2))
  (dSeq (dSetF exFt 0 "entries" (dCB fTuple (dCons (dVar 6) dNil)))
  (dSeq (dSetF exFt 0 "code_by_value" (dVarV 4))
  (dSeq (dSetF exFt 0 "value_by_code" (dVarV 5))
  (dSetF exFt 0 "relation" (dCall 1 fs_kept_by [] (dCons (dVarV 6) dNil))))))))))))
theorem bi_rest {w t : Bool} {room : Int} {es0 es : List (Pr w)} {p : RS → List Sx → Prop} {xc : DX} {a8 a9 : Sx} (hp : es0.Perm es) (E : Ents w es room)
    (kk : ∀ fs, Bk w room es fs → p (.val .non) [.own (some 0) (.ins "Book" fs), .val (.str (dom w)), .val (.int room), .val (ltD t (psD w es0))]) :
    DL.Later (bi_T xc) (endsOf [.own (some 0) (.ins "Book" []), .val (.str (dom w)), .val (.int room), .val (ltD t (psD w es0))] p)
      [.own (some 0) (.ins "Book" []), .val (.str (dom w)), .val (.int room), .val (ltD t (psD w es0)), .own none (.dct (kdv w es0)), .own none (.dct (kdc w es0)), .no, .no, a8, a9, .no, .no] := by
  have hn := E.len
  have hn0 : es0.length ≤ 120 := by rw [hp.length_eq]; exact hn
  have l4 : (kdv w es0).length = es0.length := List.length_map ..
  unfold bi_T
  walk_at "xn"
  rw [l4]
  refine ⟨fun z => by omega, fun _ => ?_⟩
  walk_at "xn"
  refine iq_ok (P := fun ds => LcOk ds.length (fun i d => ds[i]? = some d) _ _ _ _ _ _) ?_
  simp only [List.length_map]
  refine lc_a (by omega) (fun i => psD w (es0.take i)) rfl ?_ ?_
  · rintro i _ hi hx
    obtain ⟨e, he, rfl⟩ := map_get hx
    rw [pD_e]
    walk_at "x"
    exact mp_s he (pD w)
  rw [take_all]
  walk_at "xd"
  refine ⟨srtOk_ps (by omega), ?_⟩
  rw [sort_ps hp E.up]
  walk_at "xn"
  refine lc_a (by omega) (fun i => psD w ((es.take i).filter fun e => decide (e.2 < room))) rfl ?_ ?_
  · rintro i _ hi hx
    obtain ⟨e, he, rfl⟩ := map_get hx
    rw [pD_e]
    walk_at "x"
    exact ⟨fun z => ft_t he _ (pD w) (decide_eq_true z), fun z => ft_f he _ (pD w) (decide_eq_false z)⟩
  rw [take_all]
  walk_at "xd"
  have inr := E.inr
  have lR : (es.filter fun e => decide (e.2 < room)).length ≤ es.length := List.length_filter_le _ _
  generalize (es.filter fun e => decide (e.2 < room)) = R at inr lR
  walk_at "xn"
  rw [cut_from (by decide), show (1 : Int).toNat = 1 from rfl]
  refine for_ok (fun i γ => ∃ b8 b9 b10 b11, γ = [.own (some 0) (.ins "Book" []), .val (.str (dom w)), .val (.int room), .val (ltD t (psD w es0)), .own none (.dct (kdv w es0)), .own none (.dct (kdc w es0)), .val (.lst (psD w es)), .val (.lst (psD w R)), b8, b9, b10, b11]) ⟨_, _, _, _, rfl⟩ ?_ ?_
  · rintro i _ hi ⟨b8, b9, b10, b11, rfl⟩ _ ⟨x, y, hx, hy, rfl⟩
    rw [List.getElem?_drop] at hy
    obtain ⟨a, ha, rfl⟩ := map_get hx
    obtain ⟨b, hb, rfl⟩ := map_get hy
    rw [Nat.add_comm] at hb
    have lt : a.2 < b.2 := by
      obtain ⟨h1, e1⟩ := List.getElem?_eq_some_iff.mp ha
      obtain ⟨h2, e2⟩ := List.getElem?_eq_some_iff.mp hb
      rw [← e1, ← e2]
      exact List.pairwise_iff_getElem.mp inr i (i + 1) h1 h2 (by omega)
    rw [pD_e, pD_e]
    walk_at "x"
    exact fun z => ⟨_, _, _, _, rfl⟩
  · rintro _ ⟨b8, b9, b10, b11, rfl⟩
    walk_at "x"
    refine ⟨w, es, rfl, by omega, E.up, E.nd, E.val, ?_⟩
    walk_at "x"
    refine kk _ ⟨rfl, rfl, rfl, rfl, rfl, rfl, rfl, ⟨_, rfl, fun v => ?_, fun e he => ?_⟩, ⟨_, rfl, fun c => ?_, fun e he => ?_⟩⟩
    · rw [kdv_in]
      exact decide_eq_decide.mpr (hp.map Prod.fst).mem_iff
    · exact vlk_kdv ((hp.map Prod.fst).nodup_iff.mpr (up_nd E.up)) (hp.mem_iff.mpr he)
    · rw [kdc_in]
      exact decide_eq_decide.mpr (hp.map Prod.snd).mem_iff
    · exact vlk_kdc ((hp.map Prod.snd).nodup_iff.mpr E.nd) (hp.mem_iff.mpr he)
theorem vS_of {w : Bool} {v : Vt w} (h : isV w v = true) : vS w v := by
  cases w
  · exact trivial
  · have h : isW v = true := h
    unfold isW at h
    simp only [Bool.and_eq_true, decide_eq_true_eq] at h
    have := h.2.1
    show v.length ≤ 1000
    omega
theorem strOk_v {v : Str} (h : isW v = true) : PyData.strOk v = true := by
  unfold isW at h
  simp only [Bool.and_eq_true, decide_eq_true_eq, List.all_eq_true] at h
  have lt : ∀ c ∈ letters.cps.toList, c < 0x110000 := by decide
  unfold PyData.strOk
  rw [Array.all_eq_true]
  intro i hi
  exact decide_eq_true (lt _ (h.2.2 _ (by rw [Array.mem_toList_iff]; exact Array.getElem_mem hi)))
theorem vl_of {w : Bool} {v : Vt w} (h : isV w v = true) : vlOk (vD w v) := by
  cases w
  · exact trivial
  · exact ⟨vS_of (w := true) h, strOk_v h⟩
theorem pure_Book___init__ (as : List Sx) (p : RS → List Sx → Prop) (x : Nat → Xf → List Sx → Prop) (hl : as.length = 4) (h : fs_Book___init__ as p x) : ds_Book___init__ (xcOf as x) (endsOf as p) (startG 12 as) := by
  obtain ⟨w, t, room, es0, rfl, h⟩ := h
  unfold ds_Book___init__
  walk_at "xs"
  refine in_dom ?_
  walk_at "xd"
  walk_at "xn"
  rcases h with ⟨bad, hx⟩ | ⟨es, hp, E, kk⟩
  · refine ⟨room, rfl, fun _ => ?_, fun z => absurd bad z⟩
    walk_at "x"
    exact hx
  have hn := E.len
  have hn0 : es0.length ≤ 120 := by rw [hp.length_eq]; exact hn
  have nd0 : (snds es0).Nodup := (hp.map Prod.snd).nodup_iff.mpr E.nd
  have nv0 : (fsts es0).Nodup := (hp.map Prod.fst).nodup_iff.mpr (up_nd E.up)
  have val0 : ∀ e ∈ es0, isV w e.1 = true := fun e he => E.val e (hp.mem_iff.mp he)
  have cod0 : ∀ e ∈ es0, 0 ≤ e.2 ∧ e.2 ≤ 9999999 := fun e he => E.cod e (hp.mem_iff.mp he)
  have r0 := E.r0
  have r1 := E.r1
  refine ⟨room, rfl, fun z => absurd ⟨r0, r1⟩ z, fun _ => ?_⟩
  walk_at "xd"
  walk_at "xn"
  walk_at "xn"
  walk_at "xn"
  refine iq_ok (P := fun ds => ForOk ds.length (fun i d => ds[i]? = some d) _ _ _ _) ?_
  simp only [List.length_map]
  refine for_ok (fun i γ => ∃ a8 a9, γ = [.own (some 0) (.ins "Book" []), .val (.str (dom w)), .val (.int room), .val (ltD t (psD w es0)), .own none (.dct (kdv w (es0.take i))), .own none (.dct (kdc w (es0.take i))), .no, .no, a8, a9, .no, .no]) ⟨_, _, rfl⟩ ?_ ?_
  · rintro i _ hi ⟨a8, a9, rfl⟩ _ hx
    obtain ⟨e, he, rfl⟩ := map_get hx
    have me : e ∈ es0 := List.mem_of_getElem? he
    have n1 : (vlk (kdv w (es0.take i)) (vK w e.1)).isSome = false := by
      rw [kdv_in]
      refine decide_eq_false ?_
      show e.1 ∉ (es0.take i).map Prod.fst
      rw [List.map_take]
      exact nd_at nv0 (by rw [List.getElem?_map, he]; rfl)
    have n2 : (vlk (kdc w (es0.take i)) (.inl e.2)).isSome = false := by
      rw [kdc_in]
      refine decide_eq_false ?_
      show e.2 ∉ (es0.take i).map Prod.snd
      rw [List.map_take]
      exact nd_at nd0 (by rw [List.getElem?_map, he]; rfl)
    have p1 : ptk (kdv w (es0.take i)) (vK w e.1) (.int e.2) = kdv w (es0.take (i + 1)) := by
      rw [ptk_new n1]
      exact mp_s he fun e => (vK w e.1, D.int e.2)
    have p2 : ptk (kdc w (es0.take i)) (.inl e.2) (vD w e.1) = kdc w (es0.take (i + 1)) := by
      rw [ptk_new n2]
      exact mp_s he fun e => ((.inl e.2 : Key), vD w e.1)
    have q1 : (kdv w (es0.take i)).length < 1000000 := by unfold kdv; rw [List.length_map, List.length_take]; omega
    have q2 : (kdc w (es0.take i)).length < 1000000 := by unfold kdc; rw [List.length_map, List.length_take]; omega
    rw [pD_e]
    walk_at "xd"
    walk_at "xs"
    refine ⟨w, vD w e.1, rfl, vl_of (val0 e me), ?_⟩
    rw [isVD_v, val0 e me]
    walk_at "xd"
    walk_at "xn"
    refine ⟨e.2, rfl, ?_⟩
    rw [decide_eq_true (cod0 e me).1, decide_eq_true (cod0 e me).2]
    walk_at "xd"
    walk_at "xn"
    rw [n1, n2]
    walk_at "xd"
    walk_at "xn"
    refine ⟨⟨_, _, rfl, rfl⟩, q1, ?_⟩
    rw [p1]
    walk_at "xe"
    refine ⟨⟨_, _, rfl, rfl⟩, q2, ?_⟩
    rw [p2]
    exact ⟨_, _, rfl⟩
  · rintro _ ⟨a8, a9, rfl⟩
    rw [take_all]
    exact bi_rest hp E kk

theorem pure_Book___contains__ (as : List Sx) (p : RS → List Sx → Prop) (hl : as.length = 2) (h : fs_Book___contains__ as p) : ds_Book___contains__ (endsOf as p) (startG 2 as) := by
  obtain ⟨w, room, es, fs, v, rfl, B, val, kk⟩ := h
  unfold ds_Book___contains__
  walk_at "x"
  refine ⟨_, B.dm, ?_⟩
  refine ⟨w, vD w v, rfl, vl_of val, ?_⟩
  rw [isVD_v, val]
  walk_at "x"
  obtain ⟨kd, k1, k2, k3⟩ := B.cv
  refine ⟨_, k1, ?_⟩
  walk_at "x"
  rw [k2 v]
  exact kk
theorem pure_Book_code_of (as : List Sx) (p : RS → List Sx → Prop) (x : Nat → Xf → List Sx → Prop) (hl : as.length = 2) (h : fs_Book_code_of as p x) : ds_Book_code_of (xcOf as x) (endsOf as p) (startG 2 as) := by
  obtain ⟨w, room, es, fs, e, rfl, B, val, he, kk⟩ := h
  unfold ds_Book_code_of
  walk_at "xs"
  refine ⟨w, room, es, fs, e.1, rfl, B, val, ?_⟩
  rw [decide_eq_true (List.mem_map_of_mem (f := Prod.fst) he)]
  refine ⟨_, rfl, fun z => (by cases z), fun _ => ?_⟩
  walk_at "x"
  obtain ⟨kd, k1, k2, k3⟩ := B.cv
  refine ⟨_, k1, ?_⟩
  walk_at "x"
  exact ⟨_, _, rfl, k3 e he, kk⟩
theorem cnt_len {low : Int} {n : Nat} : (cnt low n).length = n := by unfold cnt; simp

theorem pure_l_words (as : List Sx) (p : RS → List Sx → Prop) (hl : as.length = 0) (h : fs_l_words as p) : ds_l_words (endsOf as p) (startG 1 as) := by
  obtain ⟨rfl, kk⟩ := h
  unfold ds_l_words
  walk_at "x"
  exact kk
theorem pure_Book_strays (as : List Sx) (p : RS → List Sx → Prop) (hl : as.length = 1) (h : fs_Book_strays as p) : ds_Book_strays (endsOf as p) (startG 3 as) := by
  obtain ⟨w, room, es, fs, rfl, B, hn, kk⟩ := h
  unfold ds_Book_strays
  walk_at "x"
  refine ⟨_, B.en, ?_⟩
  refine lc_a (by simp; omega) (fun i => ((es.take i).filter fun e => decide (room ≤ e.2)).map fun e => vD w e.1) rfl ?_ ?_
  · rintro i _ hi hx
    obtain ⟨e, he, rfl⟩ := map_get hx
    rw [pD_e]
    walk_at "x"
    refine ⟨_, B.rm, ?_⟩
    walk_at "x"
    refine ⟨fun z => ft_t he _ _ (decide_eq_true z), fun z => ft_f he _ _ (decide_eq_false z)⟩
  · walk_at "x"
    rw [take_all]
    exact kk
theorem pure_l_whole (as : List Sx) (p : RS → List Sx → Prop) (hl : as.length = 1) (h : fs_l_whole as p) : ds_l_whole (endsOf as p) (startG 1 as) := by
  obtain ⟨a, rfl, k⟩ := h
  unfold ds_l_whole
  walk_at "dd"
  exact k
theorem pure_l_room (as : List Sx) (p : RS → List Sx → Prop) (hl : as.length = 1) (h : fs_l_room as p) : ds_l_room (endsOf as p) (startG 2 as) := by
  obtain ⟨ms, rfl, hp, kk⟩ := h
  unfold ds_l_room
  walk_at "xs"
  refine ⟨ms, 3, rfl, hp, by decide, by decide, fun d ms1 d0 d1 hp1 => ?_⟩
  walk_at "xd"
  walk_at "xn"
  refine ⟨fun z => ?_, fun z => ?_⟩
  · refine ⟨ms1, 1000000, rfl, hp1, by decide, by decide, fun e ms2 e0 e1 hp2 => ?_⟩
    walk_at "xd"
    exact kk _ _ (by omega) (by omega) hp2
  walk_at "xn"
  refine ⟨fun z => ?_, fun z => ?_⟩
  · refine ⟨ms1, 12, rfl, hp1, by decide, by decide, fun e ms2 e0 e1 hp2 => ?_⟩
    walk_at "xd"
    exact kk _ _ (by omega) (by omega) hp2
  walk_at "xe"
  exact kk _ _ (by omega) (by omega) hp1
theorem pure_leads (as : List Sx) (p : RS → List Sx → Prop) (hl : as.length = 1) (h : fs_leads as p) : ds_leads (endsOf as p) (startG 4 as) := by
  obtain ⟨w, room, es, fs, rfl, B, hn, kk⟩ := h
  unfold ds_leads
  walk_at "x"
  refine ⟨_, B.en, ?_⟩
  show LcOk (psD w es).length _ _ _ _ _ _ _
  rw [List.length_map]
  refine lc_a (by omega) (fun i => intsD ((List.range i).map fun k => (snds es).getD k 0 - (k : Int))) rfl ?_ ?_
  · rintro i _ hi ⟨x, hx, rfl⟩
    obtain ⟨e, he, rfl⟩ := map_get hx
    rw [pD_e]
    walk_at "x"
    have q : (snds es).getD i 0 = e.2 := by rw [List.getD_eq_getElem?_getD, List.getElem?_map, he]; rfl
    simp only [intsD, List.range_succ, List.map_append, List.map_cons, List.map_nil, q]
  · walk_at "x"
    have q : lds (snds es) = (List.range es.length).map fun k => (snds es).getD k 0 - (k : Int) := by unfold lds; rw [List.length_map]
    rw [q] at kk
    exact kk
theorem pure_Mending___init__ (as : List Sx) (p : RS → List Sx → Prop) (hl : as.length = 5) (h : fs_Mending___init__ as p) : ds_Mending___init__ (endsOf as p) (startG 5 as) := by
  obtain ⟨b, cost, ks, cs, rfl, kk⟩ := h
  unfold ds_Mending___init__
  walk_at "x"
  exact kk _ ⟨rfl, rfl, rfl⟩
theorem take_zl {α β : Type} : ∀ (i : Nat) (a : List α) (b : List β), (a.take i).zip b = (a.zip b).take i
  | 0, _, _ => by simp
  | i + 1, [], _ => by simp
  | i + 1, _ :: _, [] => by simp
  | i + 1, x :: a, y :: b => by simp [take_zl i a b]
theorem low_snoc {acc : Hs} {found : List Int} {lead : Int} {i : Nat} {h : Option Int} {o : Int} (len : acc.length ≤ found.length) (ha : acc[i]? = some h) (hf : found[i]? = some o) :
    low (acc.take (i + 1)) found lead = low (acc.take i) found lead ++ match h with
      | some x => if o ≤ lead then [x] else []
      | none => [] := by
  have il : i < acc.length := (List.getElem?_eq_some_iff.mp ha).1
  unfold low
  rw [take_zl, take_zl, List.take_add_one, List.filterMap_append]
  have z : (acc.zip found)[i]? = some (h, o) := by rw [List.getElem?_zip_eq_some]; exact ⟨ha, hf⟩
  rw [z]
  cases h with
  | none => rfl
  | some x =>
    by_cases c : o ≤ lead
    · simp [c]
    · simp [c]
theorem pure_heights_of (as : List Sx) (p : RS → List Sx → Prop) (hl : as.length = 3) (h : fs_heights_of as p) : ds_heights_of (endsOf as p) (startG 9 as) := by
  obtain ⟨found, loads, slack, rfl, len, hn, kk⟩ := h
  unfold ds_heights_of
  walk_at "xs"
  walk_at "xn"
  refine for_ok (fun i γ => ∃ s4 s5 s6 : Sx, γ = [.val (.lst (intsD found)), .val (.lst (intsD loads)), .val (.int slack), .own none (.lst (optD (hts found loads slack i))), s4, s5, s6, .no, .no]) ⟨_, _, _, rfl⟩ ?_ ?_
  · rintro i _ hi ⟨s4, s5, s6, rfl⟩ _ ⟨x, hx, rfl⟩
    obtain ⟨lead, he, rfl⟩ := map_get hx
    have el : found.getD i 0 = lead := by rw [List.getD_eq_getElem?_getD, he]; rfl
    have hl2 : (hts found loads slack i).length = i := hts_len i
    walk_at "xd"
    have hs : optD (hts found loads slack (i + 1)) = optD (hts found loads slack i) ++ [hD (hat (hts found loads slack i) found loads slack lead i)] := by
      rw [← el]
      show List.map hD (hts found loads slack i ++ [_]) = _
      rw [List.map_append]
      rfl
    refine ⟨fun z0 => ⟨fun z1 => ?_, fun z1 => ?_⟩, fun z0 => ?_⟩
    · walk_at "xs"
      rw [hl2, Nat.min_eq_left (by omega)]
      refine lc_a (by omega) (fun j => intsD (low ((hts found loads slack i).take j) found lead)) rfl ?_ ?_
      · rintro j _ hj ⟨a, b, ha, hb, rfl⟩
        obtain ⟨h, eh, rfl⟩ := map_get ha
        obtain ⟨o, eo, rfl⟩ := map_get hb
        have sn := low_snoc (lead := lead) (by omega) eh eo
        cases h with
        | none =>
          rw [hD_n]
          walk_at "x"
          rw [sn]
          simp
        | some x =>
          rw [hD_s]
          walk_at "x"
          rw [sn]
          refine ⟨fun c => ?_, fun c => ?_⟩
          · simp [c]
          · simp [c]
      · rw [List.take_of_length_le (by omega)]
        walk_at "x"
        have gl : (intsD loads)[i]? = some (.int (loads.getD i 0)) := by
          rw [List.getElem?_map, List.getD_eq_getElem?_getD, List.getElem?_eq_getElem (by omega)]
          rfl
        refine ⟨_, atI_nat gl, low (hts found loads slack i) found lead, 0, rfl, rfl, ?_⟩
        walk_at "x"
        refine ⟨.val (.int (i : Int)), .val (.int lead), .own none (.lst (intsD (low (hts found loads slack i) found lead))), ?_⟩
        rw [hs, hat, if_pos ⟨z0, z1⟩, hD_s]
    · refine ⟨by omega, .val (.int (i : Int)), .val (.int lead), s6, ?_⟩
      rw [hs, hat, if_neg (fun c => z1 c.2)]
      rfl
    · refine ⟨by omega, .val (.int (i : Int)), .val (.int lead), s6, ?_⟩
      rw [hs, hat, if_neg (fun c => z0 c.1)]
      rfl
  · rintro γ ⟨s4, s5, s6, rfl⟩
    walk_at "xe"
    exact kk

theorem opt_get {loads found : List Int} {slack : Int} {k n : Nat} (h : k < n) : (optD (hts found loads slack n))[k]? = some (hD (hgt found loads slack k)) := by
  rw [List.getElem?_map, hts_get h]
  rfl
theorem int_get {ns : List Int} {k : Nat} (h : k < ns.length) : (intsD ns)[k]? = some (.int (ns.getD k 0)) := by
  rw [List.getElem?_map, List.getD_eq_getElem?_getD, List.getElem?_eq_getElem h]
  rfl
theorem atI_neg1 {α : Type} {l : List α} {x : α} : atI (l ++ [x]) (-1) = some x := by
  unfold atI
  rw [List.length_append, List.length_singleton]
  have q : ixN (l.length + 1) (-1) = some l.length := by
    unfold ixN
    rw [if_neg (by omega)]
    first
    | rw [if_pos (by omega)]; congr 1; omega
    | simp; omega
  rw [q]
  simp
theorem asc_len : ∀ {S : List Nat} {lo n : Nat}, S.Pairwise (· < ·) → (∀ k ∈ S, lo ≤ k ∧ k < n) → lo ≤ n → S.length + lo ≤ n
  | [], lo, n, _, _, h => by simpa using h
  | a :: S, lo, n, up, h, _ => by
    obtain ⟨h1, h2⟩ := h a (List.mem_cons_self ..)
    obtain ⟨u1, u2⟩ := List.pairwise_cons.mp up
    have := asc_len (lo := a + 1) (n := n) u2 (fun k hk => ⟨u1 k hk, (h k (List.mem_cons_of_mem _ hk)).2⟩) h2
    rw [List.length_cons]
    omega
theorem pure_kept_ranks (as : List Sx) (p : RS → List Sx → Prop) (hl : as.length = 3) (h : fs_kept_ranks as p) : ds_kept_ranks (endsOf as p) (startG 7 as) := by
  obtain ⟨found, loads, slack, rfl, len, hn, pos, kk⟩ := h
  unfold ds_kept_ranks
  walk_at "xs"
  refine lc_a (by rw [hts_len]; omega) (fun j => intsD (((hts found loads slack found.length).take j).filterMap id)) rfl ?_ ?_
  · rintro j _ hj hx
    obtain ⟨h, eh, rfl⟩ := map_get hx
    have tk : ((hts found loads slack found.length).take (j + 1)).filterMap id = ((hts found loads slack found.length).take j).filterMap id ++ h.toList := by
      rw [List.take_add_one, eh, List.filterMap_append]
      cases h <;> rfl
    cases h with
    | none =>
      rw [hD_n]
      walk_at "x"
      rw [tk]
      simp
    | some x =>
      rw [hD_s]
      walk_at "x"
      rw [tk]
      simp
  · rw [List.take_of_length_le (by simp)]
    walk_at "x"
    refine ⟨((hts found loads slack found.length).filterMap id), 0, rfl, rfl, ?_⟩
    walk_at "xn"
    walk_at "xn"
    refine ⟨by omega, by omega, ?_⟩
    rw [Int.toNat_natCast]
    refine for_ok (fun i γ => ∃ (R : List Nat) (left : Int) (s5 s6 : Sx), γ = [.val (.lst (intsD found)), .val (.lst (intsD loads)), .val (.lst (optD (hts found loads slack found.length))), .val (.int left), .own none (.lst (natD R.reverse)), s5, s6] ∧ i ≤ found.length ∧ Back found loads slack (found.length - i) R left) ?_ ?_ ?_
    · exact ⟨[], _, _, _, rfl, by omega, back_start pos⟩
    · rintro i _ hi ⟨R, left, s5, s6, rfl, hi2, B⟩ _ rfl
      obtain ⟨r, er⟩ : ∃ r : Nat, r = found.length - 1 - i := ⟨_, rfl⟩
      have ri : (found.length : Int) - 1 - (i : Int) = (r : Int) := by omega
      have rl : r < found.length := by omega
      have e1 : found.length - i = r + 1 := by omega
      have e2 : found.length - (i + 1) = r := by omega
      rw [e1] at B
      rw [ri, e2]
      walk_at "x"
      refine ⟨fun lp => ⟨_, atI_nat (opt_get rl), ?_⟩, fun ln => ⟨R, left, _, _, rfl, by omega, back_pass pos rl B (fun c => ln c.1)⟩⟩
      cases eh : hgt found loads slack r with
      | none =>
        rw [hD_n]
        walk_at "x"
        have nq : deq D.non (D.int left) = false := rfl
        rw [nq]
        exact ⟨rfl, (fun c => nomatch c), fun _ => ⟨R, left, _, _, rfl, by omega, back_pass pos rl B (fun c => by rw [eh] at c; cases c.2.1)⟩⟩
      | some x =>
        rw [hD_s]
        walk_at "x"
        refine ⟨rfl, rfl, fun e => ⟨_, atI_nat (int_get (by omega)), ?_⟩, fun ne => ⟨R, left, _, _, rfl, by omega, back_pass pos rl B (fun c => ne (Option.some.inj (eh.symm.trans c.2.1)))⟩⟩
        subst e
        walk_at "x"
        refine ⟨fun w0 => ?_, fun w0 => ⟨R, x, _, _, rfl, by omega, back_pass pos rl B (fun c => w0 c.2.2.1)⟩⟩
        have take : ∀ (h : ∀ k ∈ R, found.getD r 0 ≤ found.getD k 0) (s5 s6 : Sx), ∃ (R2 : List Nat) (left : Int) (s5' s6' : Sx), [Sx.val (.lst (intsD found)), .val (.lst (intsD loads)), .val (.lst (optD (hts found loads slack found.length))), .val (.int (x - loads.getD r 0)), .own none (.lst (natD R.reverse ++ [.int (r : Int)])), s5, s6] =
            [.val (.lst (intsD found)), .val (.lst (intsD loads)), .val (.lst (optD (hts found loads slack found.length))), .val (.int left), .own none (.lst (natD R2.reverse)), s5', s6'] ∧ i + 1 ≤ found.length ∧ Back found loads slack r R2 left := fun h s5 s6 =>
          ⟨r :: R, x - loads.getD r 0, s5, s6, by simp only [natD, List.reverse_cons, List.map_append, List.map_cons, List.map_nil], by omega, back_take pos rl B eh h⟩
        have lr : atI (intsD loads) (r : Int) = some (.int (loads.getD r 0)) := atI_nat (int_get (by omega))
        rcases R with _ | ⟨k, R'⟩
        · refine ⟨fun _ => ?_, fun c => nomatch c⟩
          walk_at "xs"
          walk_at "x"
          refine ⟨_, lr, ?_⟩
          exact take (fun k hk => nomatch hk) _ _
        · have top : ∀ k2 ∈ k :: R', found.getD k 0 ≤ found.getD k2 0 := fun k2 h2 => by
            rcases List.mem_cons.mp h2 with rfl | h2
            · exact Int.le_refl _
            · exact (List.rel_of_pairwise_cons B.fit.up h2).2
          have kl := (B.fit.ok k (List.mem_cons_self ..)).1
          have en : natD (k :: R').reverse = natD R'.reverse ++ [.int (k : Int)] := by simp only [natD, List.reverse_cons, List.map_append, List.map_cons, List.map_nil]
          rw [en] at take ⊢
          have em : (natD R'.reverse ++ [D.int (k : Int)]).isEmpty = false := by simp
          have la : atI (natD R'.reverse ++ [D.int (k : Int)]) (-1) = some (.int (k : Int)) := atI_neg1
          refine ⟨(fun c => by rw [em] at c; cases c), fun _ => ⟨_, atI_nat (int_get (by omega)), _, la, _, atI_nat (int_get kl), ?_⟩⟩
          walk_at "x"
          refine ⟨fun c => ?_, fun c => ?_⟩
          · walk_at "xs"
            walk_at "x"
            have few := asc_len (lo := 0) (B.fit.up.imp fun q => q.1) (fun k hk => ⟨Nat.zero_le _, (B.fit.ok k hk).1⟩) (Nat.zero_le _)
            rw [List.length_cons] at few
            refine ⟨by simp; omega, ?_⟩
            walk_at "x"
            refine ⟨_, lr, ?_⟩
            exact take (fun k2 h2 => Int.le_trans c (top k2 h2)) _ _
          · exact ⟨k :: R', x, _, _, by rw [en], by omega, back_pass pos rl B (fun d => c (d.2.2.2 k (List.mem_cons_self ..)))⟩
    · rintro γ ⟨R, left, s5, s6, rfl, _, B⟩
      rw [Nat.sub_self] at B
      obtain ⟨fit, hw⟩ := back_end B
      walk_at "xe"
      have back : (natD R.reverse).reverse = natD R := by rw [← List.map_reverse, List.reverse_reverse]
      rw [back]
      exact kk R fit hw

theorem an_get {A : Anc} {j : Nat} {a : Int × Int} (h : A[j]? = some a) : an A j = a := by
  unfold an
  rw [List.getD_eq_getElem?_getD, h]
  rfl
theorem drop_one {A : Anc} : cut (A.map ancD) (some 1) none = (A.drop 1).map ancD := by
  rw [cut_from (by decide), List.map_drop]
  rfl
theorem cut_m1 {xs : List D} : cut xs none (some (-1)) = xs.dropLast := by
  unfold cut
  rw [HT.sIx_none, List.drop_zero, Nat.sub_zero, List.dropLast_eq_take]
  congr 1
  unfold HT.sIx
  simp
  omega
theorem pure_spread_leads (as : List Sx) (p : RS → List Sx → Prop) (hl : as.length = 1) (h : fs_spread_leads as p) : ds_spread_leads (endsOf as p) (startG 7 as) := by
  obtain ⟨A, rfl, len, two, asc, bd, kk⟩ := h
  unfold ds_spread_leads
  walk_at "xs"
  walk_at "xn"
  rw [drop_one, List.length_map, List.length_drop, Nat.min_eq_right (by omega)]
  refine for_ok (fun i γ => ∃ s2 s3 s4 s5 s6 : Sx, γ = [.val (.lst (A.map ancD)), .own none (.lst (intsD (spr A i))), s2, s3, s4, s5, s6]) ⟨_, _, _, _, _, rfl⟩ ?_ ?_
  · rintro i _ hi ⟨s2, s3, s4, s5, s6, rfl⟩ _ ⟨x, y, hx, hy, rfl⟩
    obtain ⟨a, ea, rfl⟩ := map_get hx
    obtain ⟨b, eb, rfl⟩ := map_get hy
    rw [List.getElem?_drop, Nat.add_comm 1 i] at eb
    have ha := bd a (List.mem_of_getElem? ea)
    have hb := bd b (List.mem_of_getElem? eb)
    have ab := asc i (by omega)
    rw [an_get ea, an_get eb] at ab
    have all := spr_all asc i (by omega)
    rw [an_get ea] at all
    have a0 := bd (an A 0) (by rw [an_get (List.getElem?_eq_getElem (by omega : 0 < A.length))]; exact List.getElem_mem _)
    have big : (spr A i).length ≤ 1001 := by omega
    rw [show ancD a = .tup [.int a.1, .int a.2] from rfl, show ancD b = .tup [.int b.1, .int b.2] from rfl]
    walk_at "xd"
    walk_at "x"
    refine for_ok (fun j γ => ∃ s2 : Sx, γ = [.val (.lst (A.map ancD)), .own none (.lst (intsD (spr A i ++ (List.range j).map (segv a.1 a.2 b.1 b.2)))), s2, .val (.int a.1), .val (.int a.2), .val (.int b.1), .val (.int b.2)]) ⟨s2, by simp⟩ ?_ ?_
    · rintro j _ hj ⟨s2, rfl⟩ _ rfl
      walk_at "x"
      refine ⟨Or.inl ⟨by omega, by omega⟩, ⟨by omega, by omega⟩, by simp only [List.length_append, List.length_map, List.length_range]; omega, .val (.int (a.1 + 1 + (j : Int))), ?_⟩
      have e1 : a.2 + (b.2 - a.2) * (a.1 + 1 + (j : Int) - a.1) / (b.1 - a.1) = segv a.1 a.2 b.1 b.2 j := by
        unfold segv
        rw [show a.1 + 1 + (j : Int) - a.1 = (j : Int) + 1 by omega]
      rw [e1]
      simp only [intsD, List.range_succ, List.map_append, List.map_cons, List.map_nil, List.append_assoc]
    · rintro γ ⟨s2, rfl⟩
      refine ⟨s2, .val (.int a.1), .val (.int a.2), .val (.int b.1), .val (.int b.2), ?_⟩
      rw [spr, an_get ea, an_get eb, seg, show b.1 + 1 - (a.1 + 1) = b.1 - a.1 by omega]
  · rintro γ ⟨s2, s3, s4, s5, s6, rfl⟩
    walk_at "xe"
    rw [cut_m1, show (intsD (spr A (A.length - 1))).dropLast = intsD (spr A (A.length - 1)).dropLast from List.map_dropLast.symm]
    exact kk

theorem two_parts (k : Int) : ∀ ms : List Int, (ms.filter fun x => decide (x < k)).length + (ms.filter fun x => decide (k < x)).length ≤ ms.length
  | [] => Nat.le_refl _
  | m :: ms => by
    have := two_parts k ms
    by_cases a : m < k
    · have b : ¬ k < m := by omega
      simp [a, b]
      omega
    · by_cases b : k < m
      · simp [a, b]
        omega
      · simp [a, b]
        omega
theorem asc_exists : ∀ ns : List Int, ∃ ms : List Int, ms.Pairwise (· < ·) ∧ (∀ k, k ∈ ms ↔ k ∈ ns) ∧ ms.length ≤ ns.length
  | [] => ⟨[], .nil, fun _ => Iff.rfl, Nat.le_refl _⟩
  | k :: ns => by
    obtain ⟨ms, up, mem, len⟩ := asc_exists ns
    by_cases c : k ∈ ms
    · refine ⟨ms, up, fun x => ?_, by rw [List.length_cons]; omega⟩
      rw [mem, List.mem_cons]
      constructor
      · exact .inr
      · rintro (rfl | h)
        · exact (mem _).mp c
        · exact h
    · refine ⟨(ms.filter fun x => decide (x < k)) ++ k :: (ms.filter fun x => decide (k < x)), ?_, fun x => ?_, ?_⟩
      · refine List.pairwise_append.mpr ⟨up.filter _, List.pairwise_cons.mpr ⟨fun x hx => by simpa using (List.mem_filter.mp hx).2, up.filter _⟩, fun x hx y hy => ?_⟩
        have h1 : x < k := by simpa using (List.mem_filter.mp hx).2
        rcases List.mem_cons.mp hy with rfl | hy
        · exact h1
        · have h2 : k < y := by simpa using (List.mem_filter.mp hy).2
          omega
      · simp only [List.mem_append, List.mem_cons, List.mem_filter, decide_eq_true_eq, mem]
        constructor
        · rintro (h | h | h)
          · exact .inr h.1
          · exact .inl h
          · exact .inr h.1
        · rintro (h | h)
          · exact .inr (.inl h)
          · have hm := (mem x).mpr h
            have ne : x ≠ k := fun e => c (e ▸ hm)
            by_cases q : x < k
            · exact .inl ⟨h, q⟩
            · exact .inr (.inr ⟨h, by omega⟩)
      · have := two_parts k ms
        simp only [List.length_append, List.length_cons]
        omega
def triD (w : Bool) (t : Int × Int × Vt w) : D := .tup [.int t.1, .int t.2.1, vD w t.2.2]
theorem triD_e {w : Bool} {t : Int × Int × Vt w} : triD w t = .tup [.int t.1, .int t.2.1, vD w t.2.2] := rfl
def law_cl1 : DS := (dSeq (dAsg 5 (dLst dNil))
  (dSeq (dFor (dIZ (dCons (dVarV 4) (dCons (dSl fSlL (dVar 4) (dPart (dC (.int (1)))) dNo) dNil))) (gT 2 (gsCons (gN 6) (gsCons (gN 7) gsNil))) (dSeq (dAsg 8 (dLc (dIL (dVarV 3)) (gT 3 (gsCons (gN 12) (gsCons (gN 13) (gsCons (gN 9) gsNil)))) (dAnd (dB (d2 fLe (dVar 12) (dVar 6))) (dB (d2 fLe (dVar 7) (dVar 13)))) (dVarV 9) [12, 13, 9]))
  (dDrop (dMut 5 mApp (dCons (dTup (dCons (d2 fSub (dVar 7) (dVar 6)) (dCons (dCB fTuple (dCons (dVar 8) dNil)) dNil))) dNil)))))
  (dRet (dVarM 5))))
theorem pure_clash_chains (as : List Sx) (p : RS → List Sx → Prop) (hl : as.length = 3) (h : fs_clash_chains as p) : ds_clash_chains (endsOf as p) (startG 15 as) := by
  obtain ⟨w, vs, loads, hs, rfl, lv, kk⟩ := h
  unfold ds_clash_chains
  walk_at "xs"
  refine lc_ok (by omega) (fun i acc γ => ∃ ts : List (Int × Int × Vt w), acc = ts.map (triD w) ∧ ts.length ≤ i ∧ γ = [.val (.lst (vs.map (vD w))), .val (.lst (intsD loads)), .val (.lst (optD hs)), .no, .no, .no, .no, .no, .no, .no, .no, .no, .no, .no, .no]) ⟨[], rfl, Nat.le_refl _, rfl⟩ ?_ ?_
  · rintro i acc _ hi ⟨ts, rfl, tl, rfl⟩ _ ⟨x, y, z, hx, hy, hz, rfl⟩
    obtain ⟨v, ev, rfl⟩ := map_get hx
    obtain ⟨l, el, rfl⟩ := map_get hy
    obtain ⟨h, eh, rfl⟩ := map_get hz
    cases h with
    | none =>
      rw [hD_n]
      walk_at "x"
      exact ⟨ts, rfl, by omega⟩
    | some x =>
      rw [hD_s]
      walk_at "x"
      exact ⟨fun _ => ⟨ts ++ [(x - l, x, v)], by simp [triD], by simp; omega⟩, fun _ => ⟨ts, rfl, by omega⟩⟩
  · rintro acc _ ⟨ts, rfl, tl, rfl⟩
    walk_at "xn"
    refine lc_a (by omega) (fun i => intsD ((ts.take i).map fun t => t.1)) rfl ?_ ?_
    · rintro i _ hi hx
      obtain ⟨t, et, rfl⟩ := map_get hx
      rw [triD_e]
      walk_at "x"
      rw [List.take_add_one, et]
      simp
    walk_at "x"
    refine lc_a (by omega) (fun i => intsD ((ts.take i).map fun t => t.2.1)) rfl ?_ ?_
    · rintro i _ hi hx
      obtain ⟨t, et, rfl⟩ := map_get hx
      rw [triD_e]
      walk_at "x"
      rw [List.take_add_one, et]
      simp
    walk_at "x"
    rw [take_all]
    obtain ⟨ms, up, mem, len⟩ := asc_exists (ts.map (fun t => t.1) ++ ts.map fun t => t.2.1)
    simp only [List.length_append, List.length_map] at len
    refine ⟨by omega, ts.map (fun t => t.1) ++ ts.map (fun t => t.2.1), ms, by simp [intsD], by simp; omega, up, mem, ?_⟩
    walk_at "xn"
    walk_at "xn"
    refine for_ok (fun i γ => ∃ (cs : List D) (s6 s7 s8 : Sx), γ = [.val (.lst (vs.map (vD w))), .val (.lst (intsD loads)), .val (.lst (optD hs)), .val (.lst (ts.map (triD w))), .val (.lst (ms.map D.int)), .own none (.lst cs), s6, s7, s8, .no, .no, .no, .no, .no, .no] ∧ cs.length ≤ i) ⟨[], _, _, _, rfl, Nat.le_refl _⟩ ?_ ?_
    · rintro i _ hi ⟨cs, s6, s7, s8, rfl, cl⟩ _ ⟨x, y, hx, hy, rfl⟩
      rw [cut_map] at hy
      obtain ⟨lo, el, rfl⟩ := map_get hx
      obtain ⟨hg, eh, rfl⟩ := map_get hy
      have il : i < ms.length := by omega
      walk_at "xd"
      walk_at "xs"
      refine lc_ok (by omega) (fun _ acc γ => γ = [.val (.lst (vs.map (vD w))), .val (.lst (intsD loads)), .val (.lst (optD hs)), .val (.lst (ts.map (triD w))), .val (.lst (ms.map D.int)), .own none (.lst cs), .val (.int lo), .val (.int hg), s8, .no, .no, .no, .no, .no, .no]) rfl ?_ ?_
      · rintro j acc _ hj rfl _ hx
        obtain ⟨t, et, rfl⟩ := map_get hx
        rw [triD_e]
        walk_at "x"
      · rintro acc _ rfl
        walk_at "x"
        exact ⟨_, _, _, _, rfl, by simp; omega⟩
    · rintro _ ⟨cs, s6, s7, s8, rfl, cl⟩
      walk_at "xe"
      exact kk cs (by omega)

def ancs (found : List Int) (slack : Int) (R : List Nat) : Anc := (-1, 0) :: (R.map (fun (k : Nat) => ((k : Int), found.getD k 0)) ++ [((found.length : Int), slack)])
def fresh (found : List Int) (slack : Int) (R : List Nat) : List Int := (List.range found.length).map fun k => (spr (ancs found slack R) (R.length + 1)).getD k 0 + (k : Int)
theorem asc_of {A : Anc} (h : A.Pairwise fun a b => a.1 < b.1 ∧ a.2 ≤ b.2) : AscA A := fun j hj => by
  rw [an_get (List.getElem?_eq_getElem (by omega : j < A.length)), an_get (List.getElem?_eq_getElem hj)]
  exact List.pairwise_iff_getElem.mp h j (j + 1) (by omega) hj (by omega)
theorem ancs_pw {found : List Int} {slack : Int} {R : List Nat} (s0 : 0 ≤ slack) (fit : Fit found slack R) : (ancs found slack R).Pairwise fun a b => a.1 < b.1 ∧ a.2 ≤ b.2 := by
  unfold ancs
  refine List.pairwise_cons.mpr ⟨fun b hb => ?_, List.pairwise_append.mpr ⟨?_, List.pairwise_singleton _ _, fun x hx y hy => ?_⟩⟩
  · rcases List.mem_append.mp hb with hb | hb
    · obtain ⟨k, hk, rfl⟩ := List.mem_map.mp hb
      have := fit.ok k hk
      exact ⟨by show (-1 : Int) < (k : Int); omega, this.2.1⟩
    · rw [List.mem_singleton.mp hb]
      exact ⟨by show (-1 : Int) < (found.length : Int); omega, s0⟩
  · rw [List.pairwise_map]
    exact fit.up.imp fun q => ⟨Int.ofNat_lt.mpr q.1, q.2⟩
  · obtain ⟨k, hk, rfl⟩ := List.mem_map.mp hx
    rw [List.mem_singleton.mp hy]
    have := fit.ok k hk
    exact ⟨by show (k : Int) < (found.length : Int); omega, this.2.2⟩
theorem ancs_len {found : List Int} {slack : Int} {R : List Nat} : (ancs found slack R).length = R.length + 2 := by simp [ancs]
theorem ancs_last {found : List Int} {slack : Int} {R : List Nat} : an (ancs found slack R) (R.length + 1) = ((found.length : Int), slack) := by
  refine an_get ?_
  unfold ancs
  rw [List.getElem?_cons_succ, List.getElem?_append_right (by simp)]
  simp
theorem ancs_mid {found : List Int} {slack : Int} {R : List Nat} {i k : Nat} (h : R[i]? = some k) : an (ancs found slack R) (i + 1) = ((k : Int), found.getD k 0) := by
  refine an_get ?_
  unfold ancs
  have il : i < R.length := (List.getElem?_eq_some_iff.mp h).1
  rw [List.getElem?_cons_succ, List.getElem?_append_left (by simpa using il), List.getElem?_map, h]
  rfl
theorem fresh_ok {found : List Int} {slack room : Int} {R : List Nat} (s0 : 0 ≤ slack) (sr : slack + found.length = room) (fit : Fit found slack R) :
    (spr (ancs found slack R) (R.length + 1)).length = found.length + 1 ∧ Frs room (fresh found slack R) ∧ ∀ k ∈ R, (fresh found slack R).getD k 0 = found.getD k 0 + (k : Int) := by
  have A := ancs_pw s0 fit
  obtain ⟨a1, a2, a3, a4, a5, a6⟩ := spr_all (asc_of A) (R.length + 1) (by rw [ancs_len]; omega)
  have z : an (ancs found slack R) 0 = (-1, 0) := rfl
  rw [z, ancs_last] at a3 a4 a6
  have ln : (spr (ancs found slack R) (R.length + 1)).length = found.length + 1 := by
    simp only at a3
    omega
  have gd : ∀ {k : Nat}, k < found.length → (fresh found slack R).getD k 0 = (spr (ancs found slack R) (R.length + 1)).getD k 0 + (k : Int) := fun {k} h => by
    unfold fresh
    rw [List.getD_eq_getElem?_getD, List.getElem?_map, List.getElem?_range h]
    rfl
  have inn : ∀ {k : Nat}, k < found.length → 0 ≤ (spr (ancs found slack R) (R.length + 1)).getD k 0 ∧ (spr (ancs found slack R) (R.length + 1)).getD k 0 ≤ slack := fun {k} h => a4 _ (mem_get (by omega))
  refine ⟨ln, ⟨?_, fun x hx => ?_⟩, fun k hk => ?_⟩
  · unfold fresh
    rw [List.pairwise_map]
    refine List.Pairwise.imp_of_mem (fun {i j} hi hj q => ?_) List.pairwise_lt_range
    have hj := List.mem_range.mp hj
    have u := List.pairwise_iff_getElem.mp a5 i j (by omega) (by omega) q
    rw [List.getD_eq_getElem?_getD, List.getD_eq_getElem?_getD, List.getElem?_eq_getElem (by omega), List.getElem?_eq_getElem (by omega)]
    show _ + _ < _ + _
    have : (i : Int) < (j : Int) := by exact_mod_cast q
    simp only [Option.getD_some]
    omega
  · obtain ⟨k, hk, rfl⟩ := List.mem_map.mp hx
    have hk := List.mem_range.mp hk
    have := inn hk
    omega
  · obtain ⟨kl, _⟩ := fit.ok k hk
    obtain ⟨i, hi⟩ := List.mem_iff_getElem?.mp hk
    have il : i < R.length := (List.getElem?_eq_some_iff.mp hi).1
    obtain ⟨_, _, e⟩ := a6 (i + 1) (by omega) (by omega)
    rw [ancs_mid hi] at e
    rw [gd kl, List.getD_eq_getElem?_getD, show k = ((k : Int) - -1 - 1).toNat by omega]
    simp only at e
    rw [e]
    simp
theorem fresh_len {found : List Int} {slack : Int} {R : List Nat} : (fresh found slack R).length = found.length := by simp [fresh]
theorem reb_psD {w : Bool} : ∀ {es : List (Pr w)} {fr : List Int}, zipD ((fsts es).map (vD w)) (intsD fr) = psD w (reb es fr)
  | [], _ => by simp [zipD, reb]
  | e :: es, [] => by simp [zipD, reb]
  | e :: es, c :: fr => by
    have := reb_psD (es := es) (fr := fr)
    unfold zipD reb at this ⊢
    simp only [List.map_cons, List.zip_cons_cons, List.zipWith_cons_cons, intsD] at this ⊢
    rw [this]
    rfl
theorem reb_get {w : Bool} {es : List (Pr w)} {fr : List Int} {k : Nat} {e : Pr w} (h : es[k]? = some e) (len : fr.length = es.length) : (reb es fr)[k]? = some (e.1, fr.getD k 0) := by
  have kl := (List.getElem?_eq_some_iff.mp h).1
  unfold reb
  rw [List.getElem?_zipWith, h, List.getD_eq_getElem?_getD, List.getElem?_eq_getElem (by omega)]
  rfl
theorem reb_len {w : Bool} {es : List (Pr w)} {fr : List Int} (len : fr.length = es.length) : (reb es fr).length = es.length := by simp [reb, len]
theorem reb_fst {w : Bool} {es : List (Pr w)} {fr : List Int} (len : fr.length = es.length) : fsts (reb es fr) = fsts es := by
  refine List.ext_getElem (by simp [reb, len]) fun i h1 h2 => ?_
  simp [reb]
theorem reb_snd {w : Bool} {es : List (Pr w)} {fr : List Int} (len : fr.length = es.length) : snds (reb es fr) = fr := by
  refine List.ext_getElem (by simp [reb, len]) fun i h1 h2 => ?_
  simp [reb]
theorem reb_ents {w : Bool} {es : List (Pr w)} {fr : List Int} {room r : Int} (E : Ents w es room) (len : fr.length = es.length) (F : Frs r fr) (r0 : 1 ≤ r) (r1 : r ≤ 1000000) : Ents w (reb es fr) r := by
  have mem : ∀ e ∈ reb es fr, e.2 ∈ fr ∧ ∃ e2 ∈ es, e2.1 = e.1 := fun e he => by
    have h1 : e.2 ∈ snds (reb es fr) := List.mem_map_of_mem he
    have h2 : e.1 ∈ fsts (reb es fr) := List.mem_map_of_mem he
    rw [reb_snd len] at h1
    rw [reb_fst len] at h2
    obtain ⟨e2, q, z⟩ := List.mem_map.mp h2
    exact ⟨h1, e2, q, z⟩
  refine ⟨by rw [reb_len len]; exact E.len, ?_, ?_, fun e he => ?_, fun e he => ?_, ?_, r0, r1⟩
  · have q : (fsts es).Pairwise fun a b => vlt w a b = true := by rw [List.pairwise_map]; exact E.up
    rw [← reb_fst len (fr := fr), List.pairwise_map] at q
    exact q
  · rw [reb_snd len]
    exact F.up.imp fun q => Int.ne_of_lt q
  · obtain ⟨_, e2, h2, q⟩ := mem e he
    rw [← q]
    exact E.val e2 h2
  · have := F.ok _ (mem e he).1
    omega
  · have q := F.up
    rw [← reb_snd len (es := es), List.pairwise_map] at q
    exact q.filter _
theorem kps_succ {cs fr : List Int} {i : Nat} : kps cs fr (i + 1) = kps cs fr i ++ (if kq cs fr i = true then [i] else []) := by
  unfold kps
  rw [List.range_succ, List.filter_append]
  congr 1
  by_cases c : kq cs fr i = true
  · simp [c]
  · simp [c]
theorem csts_succ {cs fr : List Int} {i : Nat} : csts cs fr (i + 1) = csts cs fr i ++ (if kq cs fr i = true then [] else [i]) := by
  unfold csts
  rw [List.range_succ, List.filter_append]
  congr 1
  by_cases c : kq cs fr i = true
  · simp [c]
  · simp [c]
theorem vat_get {w : Bool} {es : List (Pr w)} {i : Nat} {e : Pr w} (h : es[i]? = some e) : vat w es i = vD w e.1 := by
  unfold vat
  rw [h]
theorem snd_get {w : Bool} {es : List (Pr w)} {i : Nat} {e : Pr w} (h : es[i]? = some e) : (snds es).getD i 0 = e.2 := by
  rw [List.getD_eq_getElem?_getD, List.getElem?_map, h]
  rfl
theorem up_inj {w : Bool} {es : List (Pr w)} {i k : Nat} {e f : Pr w} (up : Up w es) (h1 : es[i]? = some e) (h2 : es[k]? = some f) (q : e.1 = f.1) : i = k := by
  obtain ⟨l1, e1⟩ := List.getElem?_eq_some_iff.mp h1
  obtain ⟨l2, e2⟩ := List.getElem?_eq_some_iff.mp h2
  have pw := List.pairwise_iff_getElem.mp up
  rcases Nat.lt_trichotomy i k with c | c | c
  · have := pw i k l1 l2 c
    rw [e1, e2, q, vlt_irr] at this
    cases this
  · exact c
  · have := pw k i l2 l1 c
    rw [e1, e2, q, vlt_irr] at this
    cases this
theorem kept_flt {w : Bool} {es : List (Pr w)} {cs fr : List Int} {n : Nat} (h : n ≤ es.length) : ((kps cs fr n).map (vat w es)).all D.flt = true := by
  rw [List.all_eq_true]
  intro d hd
  obtain ⟨k, hk, rfl⟩ := List.mem_map.mp hd
  have kl := List.mem_range.mp (List.mem_filter.mp hk).1
  rw [vat_get (List.getElem?_eq_getElem (by omega : k < es.length))]
  exact vD_flt
theorem kept_any {w : Bool} {es : List (Pr w)} {cs fr : List Int} {i : Nat} {e : Pr w} (up : Up w es) (h : es[i]? = some e) : ((kps cs fr es.length).map (vat w es)).any (fun x => deq x (vD w e.1)) = kq cs fr i := by
  have il := (List.getElem?_eq_some_iff.mp h).1
  rw [Bool.eq_iff_iff, List.any_eq_true]
  constructor
  · rintro ⟨d, hd, q⟩
    obtain ⟨k, hk, rfl⟩ := List.mem_map.mp hd
    obtain ⟨k1, k2⟩ := List.mem_filter.mp hk
    have kl := List.mem_range.mp k1
    have gk := List.getElem?_eq_getElem kl
    rw [vat_get gk, deq_vD] at q
    have := up_inj up gk h (of_decide_eq_true q)
    rw [← this]
    exact k2
  · intro q
    refine ⟨_, List.mem_map.mpr ⟨i, List.mem_filter.mpr ⟨List.mem_range.mpr il, q⟩, rfl⟩, ?_⟩
    rw [vat_get h, deq_vD]
    exact decide_eq_true rfl
theorem pure_mend_book (as : List Sx) (p : RS → List Sx → Prop) (x : Nat → Xf → List Sx → Prop) (hl : as.length = 3) (h : fs_mend_book as p x) : ds_mend_book (xcOf as x) (endsOf as p) (startG 20 as) := by
  obtain ⟨w, room, r, es, g, kd, loads, rfl, B, E, few, W, k1, k2, k3⟩ := h
  unfold ds_mend_book
  walk_at "xs"
  refine ⟨r, rfl, fun bad => ?_, fun good => ?_⟩
  · walk_at "x"
    exact k1 bad
  walk_at "xn"
  refine ⟨_, B.en, ?_⟩
  walk_at "xd"
  walk_at "xn"
  refine ⟨fun z => ?_, fun z => ?_⟩
  · walk_at "x"
    exact k2 good z
  walk_at "xn"
  refine ⟨_, B.en, ?_⟩
  walk_at "xd"
  refine lc_a (by omega) (fun i => ((fsts es).take i).map (vD w)) rfl ?_ ?_
  · rintro i _ hi hx
    obtain ⟨e, ee, rfl⟩ := map_get hx
    rw [pD_e]
    walk_at "x"
    have q : (fsts es)[i]? = some e.1 := by rw [List.getElem?_map, ee]; rfl
    exact mp_s q _
  rw [List.take_of_length_le (show (fsts es).length ≤ es.length by simp)]
  walk_at "xd"
  walk_at "xn"
  have lf : (fsts es).length = es.length := by simp
  refine lc_a (by omega) (fun i => intsD (loads.take i)) rfl ?_ ?_
  · rintro i _ hi hx
    obtain ⟨v, ev, rfl⟩ := map_get hx
    have gv := W.get i v ev
    have il : i < loads.length := by rw [W.len]; exact (List.getElem?_eq_some_iff.mp ev).1
    walk_at "x"
    rw [gv]
    have gl : loads[i]? = some (loads.getD i 0) := by rw [List.getD_eq_getElem?_getD, List.getElem?_eq_getElem il]; rfl
    exact mp_s gl D.int
  have ll : loads.length = es.length := by rw [W.len, lf]
  have pos : ∀ k, 0 ≤ loads.getD k 0 := fun k => by
    by_cases c : k < loads.length
    · exact (W.pos _ (mem_get c)).1
    · rw [List.getD_eq_getElem?_getD, List.getElem?_eq_none (by omega)]
      exact Int.le_refl 0
  have cl : (snds es).length = es.length := by simp
  have fl : (lds (snds es)).length = es.length := by rw [lds_len, cl]
  rw [List.take_of_length_le (show loads.length ≤ es.length by omega)]
  walk_at "xd"
  walk_at "xn"
  refine ⟨w, room, es, g, rfl, B, by omega, ?_⟩
  walk_at "xd"
  walk_at "xn"
  refine ⟨lds (snds es), loads, r - es.length, rfl, by omega, by omega, ?_⟩
  walk_at "xd"
  walk_at "xn"
  refine ⟨lds (snds es), loads, r - es.length, rfl, by omega, by omega, pos, fun R fit hw => ?_⟩
  walk_at "xd"
  walk_at "xn"
  have rl : R.length ≤ es.length := by
    have := asc_len (lo := 0) (fit.up.imp fun q => q.1) (fun k hk => ⟨Nat.zero_le _, (fit.ok k hk).1⟩) (Nat.zero_le _)
    omega
  refine lc_a (by omega) (fun i => ((R.take i).map fun (k : Nat) => ((k : Int), (lds (snds es)).getD k 0)).map ancD) rfl ?_ ?_
  · rintro i _ hi hx
    obtain ⟨k, ek, rfl⟩ := map_get hx
    have kl := (fit.ok k (List.mem_of_getElem? ek)).1
    walk_at "x"
    refine ⟨_, atI_nat (int_get kl), ?_⟩
    rw [List.take_add_one, ek]
    simp [ancD]
  rw [List.take_of_length_le (Nat.le_refl _)]
  walk_at "x"
  refine ⟨by simp; omega, ?_⟩
  walk_at "xn"
  have s0 : 0 ≤ r - (es.length : Int) := by omega
  have ar : ¬ badRoom r → 1 ≤ r ∧ r ≤ 1000000 := fun h => by unfold badRoom at h; omega
  obtain ⟨r0, r1⟩ := ar good
  have AP := ancs_pw s0 fit
  have lf2 : (R.length : Int) + 2 ≤ 40 := by omega
  refine ⟨ancs (lds (snds es)) (r - es.length) R, ?_, by rw [ancs_len]; omega, by rw [ancs_len]; omega, asc_of AP, fun a ha => ?_, ?_⟩
  · unfold ancs
    simp only [List.map_cons, List.map_append, List.map_nil, fl]
    rfl
  · unfold ancs at ha
    rcases List.mem_cons.mp ha with rfl | ha
    · exact ⟨by decide, by decide, by decide, by decide⟩
    · rcases List.mem_append.mp ha with ha | ha
      · obtain ⟨k, hk, rfl⟩ := List.mem_map.mp ha
        have := fit.ok k hk
        refine ⟨?_, ?_, this.2.1, ?_⟩
        · show (-1 : Int) ≤ (k : Int); omega
        · show (k : Int) ≤ 1000; omega
        · show (lds (snds es)).getD k 0 ≤ 1000000; omega
      · rw [List.mem_singleton.mp ha]
        refine ⟨?_, ?_, s0, ?_⟩
        · show (-1 : Int) ≤ ((lds (snds es)).length : Int); omega
        · show ((lds (snds es)).length : Int) ≤ 1000; omega
        · show r - (es.length : Int) ≤ 1000000; omega
  obtain ⟨sl, F, hk⟩ := fresh_ok s0 (room := r) (by rw [fl]; omega) fit
  have frl : (fresh (lds (snds es)) (r - es.length) R).length = es.length := by rw [fresh_len, fl]
  have e1 : (ancs (lds (snds es)) (r - es.length) R).length - 1 = R.length + 1 := by rw [ancs_len]; rfl
  rw [e1]
  walk_at "x"
  rw [List.length_dropLast, sl, fl, Nat.add_sub_cancel]
  refine lc_a (by omega) (fun i => intsD ((List.range i).map fun k => (spr (ancs (lds (snds es)) (r - es.length) R) (R.length + 1)).getD k 0 + (k : Int))) rfl ?_ ?_
  · rintro i _ hi ⟨a, ha, rfl⟩
    obtain ⟨v, ev, rfl⟩ := map_get ha
    rw [List.getElem?_dropLast, if_pos (by omega)] at ev
    walk_at "x"
    have q : (spr (ancs (lds (snds es)) (r - es.length) R) (R.length + 1)).getD i 0 = v := by rw [List.getD_eq_getElem?_getD, ev]; rfl
    simp only [intsD, List.range_succ, List.map_append, List.map_cons, List.map_nil, q]
  rw [show ((List.range es.length).map fun k => (spr (ancs (lds (snds es)) (r - es.length) R) (R.length + 1)).getD k 0 + (k : Int)) = fresh (lds (snds es)) (r - es.length) R by unfold fresh; rw [fl]]
  generalize fresh (lds (snds es)) (r - es.length) R = fr at F hk frl ⊢
  walk_at "xd"
  walk_at "xn"
  have er := reb_psD (w := w) (es := es) (fr := fr)
  unfold zipD at er
  rw [er]
  refine ⟨_, B.dm, by omega, w, false, r, reb es fr, rfl, .inr ⟨reb es fr, .refl _, reb_ents E frl F r0 r1, fun g2 B2 => ?_⟩⟩
  have E2 := reb_ents E frl F r0 r1
  walk_at "x"
  refine ⟨_, B.en, ?_⟩
  walk_at "xd"
  refine lc_a (by omega) (fun i => (kps (snds es) fr i).map (vat w es)) rfl ?_ ?_
  · rintro i _ hi hx
    obtain ⟨e, ee, rfl⟩ := map_get hx
    have me := List.mem_of_getElem? ee
    have ge := reb_get ee frl
    rw [pD_e]
    walk_at "x"
    refine ⟨B2.co, w, r, reb es fr, g2, (e.1, fr.getD i 0), rfl, B2, E.val e me, List.mem_of_getElem? ge, ?_⟩
    walk_at "x"
    rw [kps_succ]
    refine ⟨fun c => ?_, fun c => ?_⟩
    · rw [if_pos (show kq (snds es) fr i = true from decide_eq_true (by rw [snd_get ee]; exact c)), List.map_append]
      simp only [List.map_cons, List.map_nil, vat_get ee]
    · rw [if_neg (fun h => c (by rw [← snd_get ee]; exact of_decide_eq_true h)), List.append_nil]
  walk_at "xd"
  walk_at "xn"
  rw [ll, Nat.min_self]
  refine lc_a (by omega) (fun i => intsD ((csts (snds es) fr i).map fun k => loads.getD k 0)) rfl ?_ ?_
  · rintro i _ hi ⟨a, b, ha, hb, rfl⟩
    obtain ⟨v, ev, rfl⟩ := map_get ha
    obtain ⟨l, el, rfl⟩ := map_get hb
    obtain ⟨e, ee, rfl⟩ : ∃ e, es[i]? = some e ∧ v = e.1 := by
      rw [List.getElem?_map] at ev
      obtain ⟨e, q, z⟩ := Option.map_eq_some_iff.mp ev
      exact ⟨e, q, z.symm⟩
    walk_at "x"
    refine ⟨vD_flt, ?_⟩
    show _ ∧ _
    refine ⟨kept_flt (Nat.le_refl _), ?_⟩
    rw [kept_any E.up ee]
    walk_at "x"
    rw [csts_succ]
    have gl : loads.getD i 0 = l := by rw [List.getD_eq_getElem?_getD, el]; rfl
    refine ⟨fun c => ?_, fun c => ?_⟩
    · rw [if_neg (by rw [c]; decide)]
      simp only [intsD, List.map_append, List.map_cons, List.map_nil, gl]
    · rw [if_pos c, List.append_nil]
  walk_at "x"
  refine ⟨_, rfl, ?_⟩
  walk_at "x"
  refine ⟨w, fsts es, loads, _, rfl, by omega, fun cs hcs => ?_⟩
  walk_at "x"
  refine ⟨.obj "Book" g2, _, _, cs, rfl, fun fs M => ?_⟩
  walk_at "x"
  refine k3 good (by omega) fs fr ⟨frl, F, ?_, g2, B2, ?_⟩
  · refine kept_best pos F (by rw [frl, cl]) (by rw [cl]; exact fit) (by rw [cl]; exact hw) fun k hk2 => ?_
    have kl := (fit.ok k hk2).1
    rw [hk k hk2, lds_get (by omega)]
    omega
  · rw [cl]
    exact M

theorem pure_l_mended (as : List Sx) (p : RS → List Sx → Prop) (hl : as.length = 3) (h : fs_l_mended as p) : ds_l_mended (endsOf as p) (startG 4 as) := by
  obtain ⟨w, room, r, es, g, kd, loads, rfl, B, E, few, W, k1, k2, k3⟩ := h
  unfold ds_l_mended
  walk_at "xd"
  refine ⟨w, room, r, es, g, kd, loads, rfl, B, E, few, W, fun bad => ?_, fun good lt => ?_, fun good le m fr M => ?_⟩
  · refine try_in rfl fun q => ?_
    walk_at "xs"
    refine ⟨_, _, rfl, rfl, r, rfl, ?_⟩
    walk_at "x"
    refine ⟨_, _, rfl, rfl, ?_⟩
    walk_at "x"
    exact k1 bad
  · refine try_in rfl fun q => ?_
    walk_at "xs"
    walk_at "xn"
    refine ⟨_, _, rfl, rfl, r, rfl, ?_⟩
    walk_at "x"
    refine ⟨_, _, rfl, rfl, ?_⟩
    walk_at "x"
    exact k2 good lt
  · walk_at "x"
    exact k3 good le m fr M
theorem pure_l_subsets (as : List Sx) (p : RS → List Sx → Prop) (hl : as.length = 1) (h : fs_l_subsets as p) : ds_l_subsets (endsOf as p) (startG 4 as) := by
  obtain ⟨n, rfl, hn, kk⟩ := h
  unfold ds_l_subsets
  walk_at "xs"
  walk_at "xn"
  have len : ∀ i, i ≤ 7 → (subs i).length ≤ 128 := fun i hi => by
    have : ∀ i, (subs i).length = 2 ^ i := fun i => by
      induction i with
      | zero => rfl
      | succ i ih => rw [subs, List.length_append, List.length_map, ih, Nat.pow_succ]; omega
    rw [this]
    exact Nat.pow_le_pow_right (by decide) hi
  refine ⟨by omega, by omega, ?_⟩
  refine for_ok (fun i γ => ∃ s2 s3 : Sx, γ = [.val (.int (n : Int)), .own none (.lst ((subs i).map fun S => D.lst (natD S))), s2, s3]) ⟨_, _, rfl⟩ ?_ ?_
  · rintro i _ hi ⟨s2, s3, rfl⟩ _ rfl
    have li := len i (by omega)
    have bound : ∀ S ∈ subs i, S.length ≤ 7 := fun S hS => by
      obtain ⟨a, b⟩ := subs_ok hS
      have := asc_len (lo := 0) a (fun k hk => ⟨Nat.zero_le _, b k hk⟩) (Nat.zero_le _)
      omega
    walk_at "x"
    refine lc_a (by omega) (fun j => ((subs i).take j).map fun S => D.lst (natD (S ++ [i]))) rfl ?_ ?_
    · rintro j _ hj hx
      obtain ⟨S, eS, rfl⟩ := map_get hx
      have bS := bound S (List.mem_of_getElem? eS)
      walk_at "x"
      rw [List.take_add_one, eS]
      simp
    rw [take_all]
    walk_at "x"
    have e : ((subs (i + 1)).map fun S => D.lst (natD S)) = ((subs i).map fun S => D.lst (natD S)) ++ (subs i).map fun S => D.lst (natD (S ++ [i])) := by
      rw [subs, List.map_append, List.map_map]
      rfl
    rw [e]
    exact ⟨_, _, rfl⟩
  · rintro _ ⟨s2, s3, rfl⟩
    walk_at "xe"
    exact kk
theorem nat_flt {S : List Nat} : (natD S).all D.flt = true := by
  rw [List.all_eq_true]
  intro d hd
  obtain ⟨k, _, rfl⟩ := List.mem_map.mp hd
  rfl
theorem nat_any {S : List Nat} {i : Nat} : (natD S).any (fun x => deq x (.int (i : Int))) = decide (i ∈ S) := by
  rw [Bool.eq_iff_iff, List.any_eq_true, decide_eq_true_iff]
  constructor
  · rintro ⟨d, hd, q⟩
    obtain ⟨k, hk, rfl⟩ := List.mem_map.mp hd
    rw [deq_int] at q
    have := of_decide_eq_true q
    rw [← Int.ofNat.inj this]
    exact hk
  · intro h
    refine ⟨_, List.mem_map.mpr ⟨i, h, rfl⟩, ?_⟩
    rw [deq_int]
    exact decide_eq_true rfl
theorem canL_none {cs : List Int} {S : List Nat} {i : Nat} (h : canL cs S i = none) : ∀ d, canL cs S (i + d) = none
  | 0 => h
  | d + 1 => by
    rw [show i + (d + 1) = (i + d) + 1 by omega, canL, canL_none h d]
theorem can_no {cs : List Int} {S : List Nat} {room : Int} {i : Nat} (h : canL cs S (i + 1) = none) (il : i < cs.length) : can cs S room = false := by
  have := canL_none h (cs.length - (i + 1))
  rw [show i + 1 + (cs.length - (i + 1)) = cs.length by omega] at this
  unfold can
  rw [this]
theorem pure_l_can (as : List Sx) (p : RS → List Sx → Prop) (hl : as.length = 3) (h : fs_l_can as p) : ds_l_can (endsOf as p) (startG 6 as) := by
  obtain ⟨cs, S, room, rfl, lc, kk⟩ := h
  unfold ds_l_can
  walk_at "xs"
  walk_at "xn"
  refine ⟨by omega, by omega, ?_⟩
  refine for_ok (fun i γ => ∃ (l : Int) (s4 s5 : Sx), γ = [.val (.lst (intsD cs)), .val (.lst (natD S)), .val (.int room), .val (.int l), s4, s5] ∧ canL cs S i = some l ∧ i ≤ cs.length) ⟨_, _, _, rfl, rfl, Nat.zero_le _⟩ ?_ ?_
  · rintro i _ hi ⟨l, s4, s5, rfl, hc, il⟩ _ rfl
    walk_at "x"
    refine ⟨rfl, ?_⟩
    show _ ∧ _
    refine ⟨nat_flt, ?_⟩
    rw [nat_any]
    walk_at "x"
    rw [Int.toNat_natCast] at hi
    have e1 : canL cs S (i + 1) = if (if i ∈ S then cs.getD i 0 else l + 1) ≤ l then none else some (if i ∈ S then cs.getD i 0 else l + 1) := by rw [canL, hc]
    refine ⟨fun m => ⟨_, atI_nat (int_get hi), ?_⟩, fun m => ?_⟩
    · rw [if_pos m] at e1
      walk_at "x"
      refine ⟨fun c => ?_, fun c => ?_⟩
      · rw [if_pos c] at e1
        rw [can_no e1 hi] at kk
        exact kk
      · rw [if_neg c] at e1
        walk_at "x"
        exact ⟨_, _, _, rfl, e1, hi⟩
    · rw [if_neg m] at e1
      walk_at "x"
      intro c
      rw [if_neg c] at e1
      walk_at "x"
      exact ⟨_, _, _, rfl, e1, hi⟩
  · rintro _ ⟨l, s4, s5, rfl, hc, il⟩
    walk_at "xe"
    rw [Int.toNat_natCast] at hc
    unfold can at kk
    rw [hc] at kk
    exact kk
theorem pure_l_least (as : List Sx) (p : RS → List Sx → Prop) (hl : as.length = 3) (h : fs_l_least as p) : ds_l_least (endsOf as p) (startG 7 as) := by
  obtain ⟨cs, loads, room, rfl, lc, ll, kk⟩ := h
  unfold ds_l_least
  walk_at "xs"
  refine ⟨loads, rfl, ?_⟩
  walk_at "xn"
  refine ⟨cs.length, rfl, lc, ?_⟩
  walk_at "x"
  refine for_ok (fun i γ => ∃ (m : Int) (s4 s5 : Sx), γ = [.val (.lst (intsD cs)), .val (.lst (intsD loads)), .val (.int room), .val (.int m), s4, s5, .no] ∧ m ≤ loads.sum ∧ (∀ S ∈ (subs cs.length).take i, can cs S room = true → m ≤ loads.sum - wt loads S) ∧ (m = loads.sum ∨ ∃ S ∈ subs cs.length, can cs S room = true ∧ m = loads.sum - wt loads S)) ⟨_, _, _, rfl, Int.le_refl _, fun S h => by simp at h, .inl rfl⟩ ?_ ?_
  · rintro i _ hi ⟨m, s4, s5, rfl, h1, h2, h3⟩ _ hx
    obtain ⟨S, eS, rfl⟩ := map_get hx
    have mS := List.mem_of_getElem? eS
    obtain ⟨Sa, Sb⟩ := subs_ok mS
    have sl := asc_len (lo := 0) Sa (fun k hk => ⟨Nat.zero_le _, Sb k hk⟩) (Nat.zero_le _)
    have tk : (subs cs.length).take (i + 1) = (subs cs.length).take i ++ [S] := by rw [List.take_add_one, eS]; rfl
    walk_at "x"
    refine ⟨loads, rfl, ?_⟩
    refine lc_a (by omega) (fun j => intsD ((S.take j).map fun k => loads.getD k 0)) rfl ?_ ?_
    · rintro j _ hj hx
      obtain ⟨k, ek, rfl⟩ := map_get hx
      have kl := Sb k (List.mem_of_getElem? ek)
      walk_at "x"
      refine ⟨_, atI_nat (int_get (by omega)), ?_⟩
      rw [List.take_add_one, ek]
      simp [intsD]
    rw [take_all]
    walk_at "x"
    refine ⟨_, rfl, ?_⟩
    have es : ((S.map fun k => loads.getD k 0).sum) = wt loads S := rfl
    rw [es]
    have nxt : ∀ m2, m2 ≤ m → (can cs S room = true → m2 ≤ loads.sum - wt loads S) → ∀ T ∈ (subs cs.length).take (i + 1), can cs T room = true → m2 ≤ loads.sum - wt loads T := fun m2 le hS T hT c => by
      rw [tk] at hT
      rcases List.mem_append.mp hT with hT | hT
      · exact Int.le_trans le (h2 T hT c)
      · rw [List.mem_singleton.mp hT] at c ⊢
        exact hS c
    walk_at "x"
    refine ⟨fun lt => ?_, fun ge => ?_⟩
    · refine ⟨cs, S, room, rfl, lc, ?_⟩
      walk_at "x"
      refine ⟨fun c => ⟨_, _, _, rfl, by omega, nxt _ (by omega) fun _ => Int.le_refl _, .inr ⟨S, mS, c, rfl⟩⟩, fun c => ⟨_, _, _, rfl, h1, nxt _ (Int.le_refl _) fun d => (by rw [c] at d; cases d), h3⟩⟩
    · exact ⟨_, _, _, rfl, h1, nxt _ (Int.le_refl _) fun _ => (by omega), h3⟩
  · rintro _ ⟨m, s4, s5, rfl, h1, h2, h3⟩
    walk_at "xe"
    refine kk m ⟨h1, fun S hS => h2 S (by rw [List.take_of_length_le (by simp)]; exact hS), h3⟩

def ptI (ks : List (Key × Int)) (k : Key) (n : Int) : List (Key × Int) := if ks.any (fun e => decide (e.1 = k)) then ks.map (fun e => if e.1 = k then (e.1, n) else e) else ks ++ [(k, n)]
theorem ptk_ki {ks : List (Key × Int)} {k : Key} {n : Int} : ptk (kiD ks) k (.int n) = kiD (ptI ks k n) := by
  unfold ptk ptI kiD
  have e : ((ks.map fun p => (p.1, D.int p.2)).any fun kv => decide (kv.1 = k)) = ks.any fun e => decide (e.1 = k) := by rw [List.any_map]; rfl
  rw [e]
  split
  · rw [List.map_map, List.map_map]
    refine List.map_congr_left fun a _ => ?_
    simp only [Function.comp]
    split <;> rfl
  · rw [List.map_append]
    rfl
theorem ptI_len {ks : List (Key × Int)} {k : Key} {n : Int} : (ptI ks k n).length ≤ ks.length + 1 := by
  unfold ptI
  split <;> simp
theorem ptI_mem {ks : List (Key × Int)} {k : Key} {n : Int} {e : Key × Int} (h : e ∈ ptI ks k n) : e ∈ ks ∨ e.2 = n := by
  unfold ptI at h
  split at h
  · obtain ⟨a, ha, q⟩ := List.mem_map.mp h
    split at q
    · subst q; exact .inr rfl
    · subst q; exact .inl ha
  · rcases List.mem_append.mp h with h | h
    · exact .inl h
    · rw [List.mem_singleton.mp h]; exact .inr rfl
theorem pure_l_weights (as : List Sx) (p : RS → List Sx → Prop) (hl : as.length = 2) (h : fs_l_weights as p) : ds_l_weights (endsOf as p) (startG 5 as) := by
  obtain ⟨ms, w, vs, rfl, hp, lv, kk⟩ := h
  unfold ds_l_weights
  walk_at "xs"
  walk_at "xn"
  refine ⟨by omega, by omega, ?_⟩
  refine for_ok (fun i γ => ∃ (ms' : List Int) (ks : List (Key × Int)) (s3 s4 : Sx), γ = [.own (some 0) (.lst (intsD ms')), .val (.lst (vs.map (vD w))), .own none (.dct (kiD ks)), s3, s4] ∧ Pool ms' ∧ ks.length ≤ i ∧ ∀ e ∈ ks, 0 ≤ e.2 ∧ e.2 ≤ 1000000) ⟨ms, [], _, _, rfl, hp, Nat.le_refl _, fun e h => (nomatch h)⟩ ?_ ?_
  · rintro i _ hi ⟨ms1, ks, s3, s4, rfl, hp1, kl, kb⟩ _ rfl
    rw [Int.toNat_natCast] at hi
    have next : ∀ (n : Int) (ms' : List Int) (s3 s4 : Sx), 0 ≤ n → n ≤ 1000000 → Pool ms' → ∀ k : Key, ∃ (ms2 : List Int) (ks2 : List (Key × Int)) (s3' s4' : Sx), [Sx.own (some 0) (.lst (intsD ms')), .val (.lst (vs.map (vD w))), .own none (.dct (ptk (kiD ks) k (.int n))), s3, s4] = [.own (some 0) (.lst (intsD ms2)), .val (.lst (vs.map (vD w))), .own none (.dct (kiD ks2)), s3', s4'] ∧ Pool ms2 ∧ ks2.length ≤ i + 1 ∧ ∀ e ∈ ks2, 0 ≤ e.2 ∧ e.2 ≤ 1000000 := fun n ms' s3 s4 n0 n1 hp' k =>
      ⟨ms', ptI ks k n, s3, s4, by rw [ptk_ki], hp', by have := ptI_len (ks := ks) (k := k) (n := n); omega, fun e he => by
        rcases ptI_mem he with h | h
        · exact kb e h
        · rw [h]; exact ⟨n0, n1⟩⟩
    walk_at "x"
    refine ⟨ms1, 8, rfl, hp1, by decide, by decide, fun d ms2 d0 d1 hp2 => ?_⟩
    walk_at "x"
    have gv : atI (vs.map (vD w)) (i : Int) = some (vD w vs[i]) := atI_nat (by rw [List.getElem?_map, List.getElem?_eq_getElem hi]; rfl)
    refine ⟨fun c => ?_, fun c => ⟨fun c2 => ?_, fun c2 => ⟨ms2, ks, _, _, rfl, hp2, by omega, kb⟩⟩⟩
    · refine ⟨ms2, 3, rfl, hp2, by decide, by decide, fun e ms3 e0 e1 hp3 => ?_⟩
      walk_at "x"
      refine ⟨⟨_, _, rfl, rfl⟩, _, gv, ?_⟩
      rw [key_vD]
      exact ⟨by simp [kiD]; omega, next _ ms3 _ _ (by omega) (by omega) hp3 _⟩
    · refine ⟨ms2, 8, rfl, hp2, by decide, by decide, fun e ms3 e0 e1 hp3 => ?_⟩
      walk_at "x"
      refine ⟨Or.inl ⟨by decide, by decide⟩, by decide, ⟨_, _, rfl, rfl⟩, _, gv, ?_⟩
      rw [key_vD]
      exact ⟨by simp [kiD]; omega, next _ ms3 _ _ (by omega) (by omega) hp3 _⟩
  · rintro _ ⟨ms1, ks, s3, s4, rfl, hp1, kl, kb⟩
    rw [Int.toNat_natCast] at kl
    walk_at "xe"
    exact kk ks ms1 (by omega) kb hp1

theorem word_at {k : Int} (h0 : 0 ≤ k) (h1 : k < 20) : atI (words.map D.str) k = some (.str (words.getD k.toNat "")) := by
  refine atI_map (f := D.str) ?_
  obtain ⟨j, rfl⟩ : ∃ j : Nat, k = (j : Int) := ⟨k.toNat, by omega⟩
  have hj : j < words.length := by show j < 20; omega
  rw [Int.toNat_natCast, List.getD_eq_getElem?_getD, List.getElem?_eq_getElem hj]
  exact atI_ofNat hj
theorem words_up : words.Pairwise fun a b => slt a b = true := by decide
theorem words_isW : ∀ s ∈ words, isW s = true := by decide
theorem words_stray : ∀ s ∈ words, s ≠ "zebra" := by decide
/-- the value that stands at a place of the scale -/
def scl : (w : Bool) → Int → Int → Vt w
  | false, low, z => (low + z : Int)
  | true, _, z => words.getD z.toNat ""
def lowOk (low : Int) : Prop := low = -3 ∨ low = -999999999 ∨ low = 999999900
theorem scl_up {w : Bool} {low y z : Int} (h0 : 0 ≤ y) (h1 : y < z) (h2 : z < 20 ∨ w = false) : vlt w (scl w low y) (scl w low z) = true := by
  cases w
  · show decide (low + y < low + z) = true
    exact decide_eq_true (by omega)
  · have hz : z < 20 := by rcases h2 with h | h; exact h; cases h
    show slt (words.getD y.toNat "") (words.getD z.toNat "") = true
    have l1 : y.toNat < words.length := by show y.toNat < 20; omega
    have l2 : z.toNat < words.length := by show z.toNat < 20; omega
    rw [List.getD_eq_getElem?_getD, List.getD_eq_getElem?_getD, List.getElem?_eq_getElem l1, List.getElem?_eq_getElem l2]
    exact List.pairwise_iff_getElem.mp words_up _ _ l1 l2 (by omega)
theorem scl_ok {w : Bool} {low z : Int} (h0 : 0 ≤ z) (h1 : z < 31) (h2 : z < 20 ∨ w = false) (hl : lowOk low) : isV w (scl w low z) = true ∧ scl w low z ≠ stray w := by
  unfold lowOk at hl
  cases w
  · refine ⟨?_, fun h => ?_⟩
    · show (decide (-999999999 ≤ low + z) && decide (low + z ≤ 999999999)) = true
      rw [decide_eq_true (by omega), decide_eq_true (by omega)]
      rfl
    · have : low + z = 777777777 := h
      omega
  · have hz : z < 20 := by rcases h2 with h | h; exact h; cases h
    have l1 : z.toNat < words.length := by show z.toNat < 20; omega
    have e : scl true low z = words[z.toNat] := by
      show words.getD z.toNat "" = _
      rw [List.getD_eq_getElem?_getD, List.getElem?_eq_getElem l1]
      rfl
    rw [e]
    exact ⟨words_isW _ (List.getElem_mem l1), words_stray _ (List.getElem_mem l1)⟩
/-- values drawn so far: places below at -/
structure Vs (w : Bool) (low : Int) (i : Nat) (vs : List (Vt w)) (at' : Int) : Prop where
  len : vs.length = i
  up : vs.Pairwise fun a b => vlt w a b = true
  mem : ∀ v ∈ vs, ∃ y, 0 ≤ y ∧ y < at' ∧ v = scl w low y
  ok : ∀ v ∈ vs, isV w v = true ∧ v ≠ stray w
  a0 : 0 ≤ at'
  a1 : at' ≤ 2 + (if w then 2 else 4) * (i : Int)
theorem Vs.step {w : Bool} {low : Int} {i : Nat} {vs : List (Vt w)} {z d : Int} (V : Vs w low i vs z) (hl : lowOk low) (hi : i < 7) (d0 : 0 ≤ d) (d1 : d < if w then 2 else 4) : Vs w low (i + 1) (vs ++ [scl w low z]) (z + 1 + d) := by
  have a0 := V.a0
  have a1 := V.a1
  have lt : z < 20 ∨ w = false := by
    cases w
    · exact .inr rfl
    · left
      simp only [if_true] at a1
      omega
  have lt2 : z < 31 := by
    cases w <;> simp at a1 <;> omega
  refine ⟨by simp [V.len], ?_, fun v hv => ?_, fun v hv => ?_, by omega, ?_⟩
  · refine List.pairwise_append.mpr ⟨V.up, List.pairwise_singleton _ _, fun x hx y hy => ?_⟩
    obtain ⟨t, t0, t1, rfl⟩ := V.mem x hx
    rw [List.mem_singleton.mp hy]
    exact scl_up t0 t1 lt
  · rcases List.mem_append.mp hv with hv | hv
    · obtain ⟨t, t0, t1, q⟩ := V.mem v hv
      exact ⟨t, t0, by omega, q⟩
    · exact ⟨z, a0, by omega, List.mem_singleton.mp hv⟩
  · rcases List.mem_append.mp hv with hv | hv
    · exact V.ok v hv
    · rw [List.mem_singleton.mp hv]
      exact scl_ok a0 lt2 lt hl
  · cases w <;> simp at a1 d1 ⊢ <;> omega
theorem pure_l_values (as : List Sx) (p : RS → List Sx → Prop) (hl : as.length = 3) (h : fs_l_values as p) : ds_l_values (endsOf as p) (startG 7 as) := by
  obtain ⟨ms, w, n, rfl, hp, hn, kk⟩ := h
  unfold ds_l_values
  walk_at "xs"
  refine ⟨ms, 3, rfl, hp, by decide, by decide, fun e ms1 e0 e1 hp1 => ?_⟩
  walk_at "xd"
  obtain ⟨low, gl, hlow⟩ : ∃ low : Int, atI [D.int (-3), D.int (-999999999), D.int 999999900] e = some (.int low) ∧ lowOk low := by
    obtain ⟨k, rfl⟩ : ∃ k : Nat, e = (k : Int) := ⟨e.toNat, by omega⟩
    have : k < 3 := by omega
    match k, this with
    | 0, _ => exact ⟨-3, rfl, .inl rfl⟩
    | 1, _ => exact ⟨-999999999, rfl, .inr (.inl rfl)⟩
    | 2, _ => exact ⟨999999900, rfl, .inr (.inr rfl)⟩
  refine ⟨_, gl, ?_⟩
  walk_at "xn"
  refine ⟨ms1, 3, rfl, hp1, by decide, by decide, fun d ms2 d0 d1 hp2 => ?_⟩
  walk_at "xd"
  walk_at "xn"
  refine ⟨by omega, by omega, ?_⟩
  show ForOk _ _ _ _ _ _
  rw [Int.toNat_natCast]
  refine for_ok (fun i γ => ∃ (ms' : List Int) (vs : List (Vt w)) (z : Int) (s6 : Sx), γ = [.own (some 0) (.lst (intsD ms')), .val (.str (dom w)), .val (.int (n : Int)), .val (.int low), .val (.int z), .own none (.lst (vs.map (vD w))), s6] ∧ Pool ms' ∧ Vs w low i vs z) ⟨ms2, [], d, _, rfl, hp2, ⟨rfl, .nil, fun v h => (nomatch h), fun v h => (nomatch h), d0, by simp; omega⟩⟩ ?_ ?_
  · rintro i _ hi ⟨ms3, vs, z, s6, rfl, hp3, V⟩ _ rfl
    have vl := V.len
    have a0 := V.a0
    have a1 := V.a1
    cases w
    · walk_at "x"
      refine ⟨ms3, 4, rfl, hp3, by decide, by decide, fun b ms4 b0 b1 hp4 => ?_⟩
      walk_at "x"
      exact ⟨ms4, vs ++ [scl false low z], z + 1 + b, _, by rw [List.map_append]; rfl, hp4, V.step hlow (by omega) b0 (by simpa using b1)⟩
    · have lt : z < 20 := by
        simp only [if_true] at a1
        omega
      walk_at "x"
      refine ⟨rfl, ?_⟩
      walk_at "x"
      refine ⟨_, word_at a0 lt, ?_⟩
      walk_at "x"
      refine ⟨ms3, 2, rfl, hp3, by decide, by decide, fun b ms4 b0 b1 hp4 => ?_⟩
      walk_at "x"
      exact ⟨ms4, vs ++ [scl true low z], z + 1 + b, _, by rw [List.map_append]; rfl, hp4, V.step hlow (by omega) b0 (by simpa using b1)⟩
  · rintro _ ⟨ms3, vs, z, s6, rfl, hp3, V⟩
    walk_at "dd"
    exact kk vs ms3 V.len V.up V.ok hp3

theorem map_erase {α β : Type} {f : α → β} : ∀ {l : List α} {j : Nat}, (l.map f).eraseIdx j = (l.eraseIdx j).map f
  | [], _ => rfl
  | _ :: _, 0 => rfl
  | a :: l, j + 1 => by
    show f a :: (l.map f).eraseIdx j = f a :: (l.eraseIdx j).map f
    rw [map_erase]
theorem map_set {α β : Type} {f : α → β} : ∀ {l : List α} {j : Nat} {x : α}, (l.map f).set j (f x) = (l.set j x).map f
  | [], _, _ => rfl
  | _ :: _, 0, _ => rfl
  | a :: l, j + 1, x => by
    show f a :: (l.map f).set j (f x) = f a :: (l.set j x).map f
    rw [map_set]
/-- codes drawn so far, what is left -/
structure Cd (rest cs : List Int) : Prop where
  nd : cs.Nodup
  el : ∀ c ∈ cs, (0 ≤ c ∧ c < 20 ∧ c ∉ rest) ∨ (9999979 ≤ c ∧ c < 9999999 ∧ c - 9999979 ∉ rest)
  rn : rest.Nodup
  rb : ∀ b ∈ rest, 0 ≤ b ∧ b < 20
theorem Cd.step {rest cs : List Int} {j : Nat} {off : Int} (C : Cd rest cs) (hj : j < rest.length) (ho : off = 0 ∨ off = 9999979) : Cd (rest.eraseIdx j) (cs ++ [rest[j] + off]) := by
  have hb := List.getElem_mem hj
  have bb := C.rb _ hb
  have sub : ∀ x, x ∈ rest.eraseIdx j → x ∈ rest := fun x h => (List.eraseIdx_sublist rest j).subset h
  have out : rest[j] ∉ rest.eraseIdx j := fun h => by
    obtain ⟨i, hi, e⟩ := List.mem_eraseIdx_iff_getElem.mp h
    obtain ⟨ne, e⟩ := e
    exact ne ((List.getElem_inj C.rn).mp e)
  refine ⟨List.nodup_append.mpr ⟨C.nd, List.pairwise_singleton _ _, fun a ha b hb2 e => ?_⟩, fun c hc => ?_, C.rn.sublist (List.eraseIdx_sublist rest j), fun b h => C.rb b (sub b h)⟩
  · have hb3 := List.mem_singleton.mp hb2
    subst hb3
    subst e
    rcases ho with rfl | rfl
    · rw [Int.add_zero] at ha
      rcases C.el _ ha with ⟨_, _, h⟩ | ⟨h, _, _⟩
      · exact h hb
      · omega
    · rcases C.el _ ha with ⟨_, h, _⟩ | ⟨_, _, h⟩
      · omega
      · rw [Int.add_sub_cancel] at h
        exact h hb
  · rcases List.mem_append.mp hc with hc | hc
    · rcases C.el c hc with ⟨a, b, h⟩ | ⟨a, b, h⟩
      · exact .inl ⟨a, b, fun q => h (sub _ q)⟩
      · exact .inr ⟨a, b, fun q => h (sub _ q)⟩
    · rw [List.mem_singleton.mp hc]
      rcases ho with rfl | rfl
      · rw [Int.add_zero]
        exact .inl ⟨bb.1, bb.2, out⟩
      · refine .inr ⟨by omega, by omega, ?_⟩
        rw [Int.add_sub_cancel]
        exact out
/-- the second round: those in the room are put in order -/
structure Ord (q : Int → Bool) (cs S : List Int) (k : Nat) (cur sm : List Int) : Prop where
  len : cur.length = cs.length
  rest : cur.drop k = cs.drop k
  put : (cur.take k).filter q ++ sm = S
  out : (cur.take k).filter (fun c => !q c) = (cs.take k).filter (fun c => !q c)
  cnt : ((cur.take k).filter q).length = ((cs.take k).filter q).length
theorem ord_get {q : Int → Bool} {cs S cur sm : List Int} {k : Nat} (O : Ord q cs S k cur sm) (hk : k < cs.length) : cur[k]? = some cs[k] := by
  have : (cur.drop k)[0]? = (cs.drop k)[0]? := by rw [O.rest]
  rw [List.getElem?_drop, List.getElem?_drop, Nat.add_zero, List.getElem?_eq_getElem hk] at this
  exact this
theorem ord_drop {q : Int → Bool} {cs S cur sm : List Int} {k : Nat} (O : Ord q cs S k cur sm) (x : Int) : (cur.set k x).drop (k + 1) = cs.drop (k + 1) := by
  rw [List.drop_set_of_lt (by omega)]
  have : (cur.drop k).drop 1 = (cs.drop k).drop 1 := by rw [O.rest]
  rwa [List.drop_drop, List.drop_drop] at this
theorem ord_pass {q : Int → Bool} {cs S cur sm : List Int} {k : Nat} (O : Ord q cs S k cur sm) (hk : k < cs.length) (h : q cs[k] = false) : Ord q cs S (k + 1) cur sm := by
  have g := ord_get O hk
  have t1 : cur.take (k + 1) = cur.take k ++ [cs[k]] := by rw [List.take_add_one, g]; rfl
  have t2 : cs.take (k + 1) = cs.take k ++ [cs[k]] := by rw [List.take_add_one, List.getElem?_eq_getElem hk]; rfl
  have f0 : [cs[k]].filter q = [] := by simp [h]
  refine ⟨O.len, ?_, ?_, ?_, ?_⟩
  · have : (cur.drop k).drop 1 = (cs.drop k).drop 1 := by rw [O.rest]
    rwa [List.drop_drop, List.drop_drop] at this
  · rw [t1, List.filter_append, f0, List.append_nil]; exact O.put
  · rw [t1, t2, List.filter_append, List.filter_append, O.out]
  · rw [t1, t2, List.filter_append, List.filter_append, f0, List.append_nil, List.append_nil]; exact O.cnt
theorem ord_put {q : Int → Bool} {cs S cur sm : List Int} {k : Nat} (O : Ord q cs S k cur sm) (hS : S.Perm (cs.filter q)) (hk : k < cs.length) (h : q cs[k] = true) : ∃ s sm', sm = s :: sm' ∧ Ord q cs S (k + 1) (cur.set k s) sm' := by
  have kc : k < cur.length := by rw [O.len]; exact hk
  have t2 : cs.take (k + 1) = cs.take k ++ [cs[k]] := by rw [List.take_add_one, List.getElem?_eq_getElem hk]; rfl
  have more : 0 < sm.length := by
    have a := congrArg List.length O.put
    have b := hS.length_eq
    have c : (cs.filter q).length = ((cs.take k).filter q).length + ((cs.drop k).filter q).length := by rw [← List.length_append, ← List.filter_append, List.take_append_drop]
    have d : cs.drop k = cs[k] :: cs.drop (k + 1) := List.drop_eq_getElem_cons hk
    have e : ((cs.drop k).filter q).length = ((cs.drop (k + 1)).filter q).length + 1 := by rw [d, List.filter_cons, if_pos h]; rfl
    have f := O.cnt
    rw [List.length_append] at a
    omega
  obtain ⟨s, sm', rfl⟩ : ∃ s sm', sm = s :: sm' := by
    cases sm with
    | nil => cases more
    | cons s r => exact ⟨s, r, rfl⟩
  have qs : q s = true := by
    have m : s ∈ S := by rw [← O.put]; simp
    exact (List.mem_filter.mp (hS.mem_iff.mp m)).2
  have t1 : (cur.set k s).take (k + 1) = cur.take k ++ [s] := by
    rw [List.take_add_one, List.getElem?_set_self kc, List.take_set_of_le (Nat.le_refl _)]
    rfl
  have f1 : [s].filter q = [s] := by simp [qs]
  have f2 : [cs[k]].filter q = [cs[k]] := by simp [h]
  refine ⟨s, sm', rfl, by rw [List.length_set]; exact O.len, ord_drop O s, ?_, ?_, ?_⟩
  · rw [t1, List.filter_append, f1, List.append_assoc]; exact O.put
  · rw [t1, t2, List.filter_append, List.filter_append, O.out]
    congr 1
    simp [qs, h]
  · rw [t1, t2, List.filter_append, List.filter_append, f1, f2, List.length_append, List.length_append, O.cnt]
    rfl
theorem ord_end {q : Int → Bool} {cs S cur sm : List Int} (O : Ord q cs S cs.length cur sm) (hS : S.Perm (cs.filter q)) : cur.filter q = S ∧ cur.Perm cs := by
  have t : cur.take cs.length = cur := by rw [← O.len]; exact take_all
  have u : cs.take cs.length = cs := take_all
  have c := O.cnt
  have p := O.put
  have o := O.out
  rw [t] at c p o
  rw [u] at c o
  have n : sm = [] := by
    have a := congrArg List.length p
    have b := hS.length_eq
    rw [List.length_append] at a
    exact List.length_eq_zero_iff.mp (by omega)
  rw [n, List.append_nil] at p
  refine ⟨p, ?_⟩
  have h1 := List.filter_append_perm q cur
  have h2 := List.filter_append_perm q cs
  rw [p, o] at h1
  exact h1.symm.trans ((hS.append_right _).trans h2)

theorem pure_l_codes (as : List Sx) (p : RS → List Sx → Prop) (hl : as.length = 3) (h : fs_l_codes as p) : ds_l_codes (endsOf as p) (startG 9 as) := by
  obtain ⟨ms, n, room, rfl, hp, hn, r0, r1, kk⟩ := h
  unfold ds_l_codes
  walk_at "xs"
  refine ⟨ms, 4, rfl, hp, by decide, by decide, fun e ms1 e0 e1 hp1 => ?_⟩
  walk_at "xd"
  obtain ⟨N, gl, N9, N20⟩ : ∃ N : Nat, atI [D.int 12, D.int 9, D.int 20, D.int 10] e = some (.int (N : Int)) ∧ 9 ≤ N ∧ N ≤ 20 := by
    obtain ⟨k, rfl⟩ : ∃ k : Nat, e = (k : Int) := ⟨e.toNat, by omega⟩
    have : k < 4 := by omega
    match k, this with
    | 0, _ => exact ⟨12, rfl, by decide, by decide⟩
    | 1, _ => exact ⟨9, rfl, by decide, by decide⟩
    | 2, _ => exact ⟨20, rfl, by decide, by decide⟩
    | 3, _ => exact ⟨10, rfl, by decide, by decide⟩
  refine ⟨_, gl, ?_⟩
  walk_at "xd"
  refine ⟨by omega, by omega, ?_⟩
  walk_at "xn"
  walk_at "xn"
  refine ⟨by omega, by omega, ?_⟩
  rw [Int.toNat_natCast]
  refine for_ok (fun i γ => ∃ (ms' rest cs : List Int) (s5 s6 s7 : Sx), γ = [.own (some 0) (.lst (intsD ms')), .val (.int (n : Int)), .val (.int room), .own none (.lst (intsD rest)), .own none (.lst (intsD cs)), s5, s6, s7, .no] ∧ Pool ms' ∧ cs.length = i ∧ rest.length + i = N ∧ Cd rest cs) ?_ ?_ ?_
  · refine ⟨ms1, (List.range N).map fun i : Nat => (i : Int), [], .no, .no, .no, by simp [intsD, rgD, Function.comp_def], hp1, rfl, by simp, ⟨.nil, fun c h => (nomatch h), ?_, fun b hb => ?_⟩⟩
    · refine List.pairwise_map.mpr (List.pairwise_lt_range.imp fun q => ?_)
      omega
    · obtain ⟨k, hk, rfl⟩ := List.mem_map.mp hb
      have := List.mem_range.mp hk
      omega
  · rintro i _ hi ⟨ms2, rest, cs, s5, s6, s7, rfl, hp2, cl, rl, C⟩ _ rfl
    walk_at "x"
    refine ⟨ms2, (rest.length : Int), rfl, hp2, by omega, by omega, fun c ms3 c0 c1 hp3 => ?_⟩
    walk_at "xd"
    have j0 : 0 ≤ (c + 5 * i) % (rest.length : Int) := Int.emod_nonneg _ (by omega)
    have j1 : (c + 5 * i) % (rest.length : Int) < rest.length := Int.emod_lt_of_pos _ (by omega)
    refine ⟨.inr ⟨by omega, by omega⟩, by omega, ?_⟩
    generalize hJ : (c + 5 * i) % (rest.length : Int) = J at j0 j1
    obtain ⟨j, rfl⟩ : ∃ j : Nat, J = (j : Int) := ⟨J.toNat, by omega⟩
    have jl : j < rest.length := by omega
    have hx : rest[j]? = some rest[j] := List.getElem?_eq_getElem jl
    walk_at "xe"
    refine ⟨by omega, by omega, j, .int rest[j], by simp [seqIndex?]; omega, by rw [List.getElem?_map, hx]; rfl, ?_⟩
    have em : (intsD rest).eraseIdx j = intsD (rest.eraseIdx j) := map_erase
    rw [em]
    walk_at "x"
    refine ⟨ms3, 4, rfl, hp3, by decide, by decide, fun d ms4 d0 d1 hp4 => ?_⟩
    walk_at "x"
    obtain ⟨off, go, ho⟩ : ∃ off : Int, atI [D.int 0, D.int 0, D.int 0, D.int 9999979] d = some (.int off) ∧ (off = 0 ∨ off = 9999979) := by
      obtain ⟨k, rfl⟩ : ∃ k : Nat, d = (k : Int) := ⟨d.toNat, by omega⟩
      have : k < 4 := by omega
      match k, this with
      | 0, _ => exact ⟨0, rfl, .inl rfl⟩
      | 1, _ => exact ⟨0, rfl, .inl rfl⟩
      | 2, _ => exact ⟨0, rfl, .inl rfl⟩
      | 3, _ => exact ⟨9999979, rfl, .inr rfl⟩
    refine ⟨_, go, ?_⟩
    walk_at "x"
    exact ⟨ms4, rest.eraseIdx j, cs ++ [rest[j] + off], _, _, _, by rw [show intsD (cs ++ [rest[j] + off]) = intsD cs ++ [.int (rest[j] + off)] from List.map_append], hp4, by simp; omega, by rw [List.length_eraseIdx, if_pos jl]; omega, C.step jl ho⟩
  · rintro _ ⟨ms2, rest, cs, s5, s6, s7, rfl, hp2, cl, rl, C⟩
    walk_at "x"
    refine lc_a (by omega) (fun i => intsD ((cs.take i).filter fun c => decide (c < room))) rfl ?_ ?_
    · rintro i _ hi hx
      obtain ⟨c, ec, rfl⟩ := map_get hx
      walk_at "x"
      refine ⟨fun z => ft_t ec _ _ (decide_eq_true z), fun z => ft_f ec _ _ (decide_eq_false z)⟩
    rw [take_all]
    have fl : (cs.filter fun c => decide (c < room)).length ≤ 7 := Nat.le_trans (List.length_filter_le ..) (by omega)
    refine ⟨nol_ints _, ?_⟩
    walk_at "x"
    refine ⟨srtOk_ints (by omega), ?_⟩
    rw [sort_ints]
    have hS := List.mergeSort_perm (cs.filter fun c => decide (c < room)) fun a b => decide (a ≤ b)
    have hU : (cs.filter fun c => decide (c < room)).mergeSort (fun a b => decide (a ≤ b)) |>.Pairwise fun a b => decide (a ≤ b) = true := List.pairwise_mergeSort (fun a b c h1 h2 => by simp at h1 h2 ⊢; omega) (fun a b => by simp; omega) _
    generalize hs : (cs.filter fun c => decide (c < room)).mergeSort (fun a b => decide (a ≤ b)) = S at hS hU ⊢
    walk_at "x"
    rw [Int.toNat_natCast]
    refine for_ok (fun i γ => ∃ (cur sm : List Int) (s5 s7 : Sx), γ = [.own (some 0) (.lst (intsD ms2)), .val (.int (n : Int)), .val (.int room), .own none (.lst (intsD rest)), .own none (.lst (intsD cur)), s5, .own none (.lst (intsD sm)), s7, .no] ∧ Ord (fun c => decide (c < room)) cs S i cur sm) ⟨cs, S, _, _, rfl, ⟨rfl, rfl, rfl, rfl, rfl⟩⟩ ?_ ?_
    · rintro i _ hi ⟨cur, sm, s5, s7, rfl, O⟩ _ rfl
      have ic : i < cs.length := by omega
      have g := ord_get O ic
      have ga : atI (intsD cur) (i : Int) = some (.int cs[i]) := atI_nat (by rw [List.getElem?_map, g]; rfl)
      walk_at "x"
      refine ⟨_, ga, ?_⟩
      walk_at "x"
      refine ⟨fun lt => ?_, fun ge => ⟨cur, sm, _, _, rfl, ord_pass O ic (decide_eq_false ge)⟩⟩
      obtain ⟨x, sm2, rfl, O2⟩ := ord_put O hS ic (decide_eq_true lt)
      refine ⟨by decide, by decide, 0, .int x, by simp [seqIndex?], rfl, ?_⟩
      walk_at "x"
      have kx : ixN cur.length (i : Int) = some i := by
        unfold ixN
        rw [if_pos (by omega), if_pos (by rw [O.len]; omega), Int.toNat_natCast]
      refine ⟨i, kx, cur.set i x, sm2, .val (.int (i : Int)), s7, ?_, O2⟩
      rw [show (intsD cur).set i (.int x) = intsD (cur.set i x) from map_set]
    · rintro _ ⟨cur, sm, s5, s7, rfl, O⟩
      walk_at "xe"
      rw [← cl] at O
      obtain ⟨f1, pm⟩ := ord_end O hS
      refine kk cur ms2 (by rw [pm.length_eq, cl]) ⟨pm.nodup_iff.mpr C.nd, fun x hx => ?_, ?_⟩ hp2
      · rcases C.el x (pm.mem_iff.mp hx) with ⟨a, b, _⟩ | ⟨a, b, _⟩
        · exact ⟨a, by omega⟩
        · exact ⟨by omega, by omega⟩
      · rw [f1]
        have nd : S.Nodup := hS.nodup_iff.mpr (C.nd.filter _)
        exact (hU.and nd).imp fun q => by
          have := of_decide_eq_true q.1
          have := q.2
          omega

theorem atI_end {α : Type} {xs : List α} {x : α} (h : xs[xs.length - 1]? = some x) : atI xs (-1) = some x := by
  have l := (List.getElem?_eq_some_iff.mp h).1
  unfold atI ixN
  rw [if_neg (by omega), if_pos (by omega), show (-1 + (xs.length : Int)).toNat = xs.length - 1 by omega]
  exact h
theorem both_of {P Q L : Prop} (h : L) (f : L → P) : P ∧ (Q → L) := ⟨f h, fun _ => h⟩
theorem pure_l_good (as : List Sx) (p : RS → List Sx → Prop) (hl : as.length = 5) (h : fs_l_good as p) : ds_l_good (endsOf as p) (startG 14 as) := by
  obtain ⟨w, es, r, loads, m, fr, rfl, M, few, up, val, ll, kk⟩ := h
  obtain ⟨g, B, Mf⟩ := M.mf
  have len := M.len
  have F := M.frs
  have cl : (snds es).length = es.length := by simp
  have lf : (fsts es).length = es.length := by simp
  rw [cl] at Mf
  have rf : fsts (reb es fr) = fsts es := reb_fst len
  have rs : snds (reb es fr) = fr := reb_snd len
  have rl : (reb es fr).length = es.length := reb_len len
  unfold ds_l_good
  walk_at "xs"
  refine lc_a (by omega) (fun i => ((fsts es).take i).map (vD w)) rfl ?_ ?_
  · rintro i _ hi hx
    obtain ⟨e, ee, rfl⟩ := map_get hx
    rw [pD_e]
    walk_at "x"
    have q : (fsts es)[i]? = some e.1 := by rw [List.getElem?_map, ee]; rfl
    exact mp_s q _
  rw [List.take_of_length_le (by omega)]
  walk_at "x"
  refine lc_a (by omega) (fun i => intsD ((snds es).take i)) rfl ?_ ?_
  · rintro i _ hi hx
    obtain ⟨e, ee, rfl⟩ := map_get hx
    rw [pD_e]
    walk_at "x"
    have q : (snds es)[i]? = some e.2 := by rw [List.getElem?_map, ee]; rfl
    exact mp_s q D.int
  rw [List.take_of_length_le (by omega)]
  walk_at "x"
  refine ⟨_, Mf.book, ?_⟩
  walk_at "x"
  refine ⟨_, B.dm, ?_⟩
  walk_at "x"
  refine ⟨_, B.rm, r, rfl, ?_⟩
  walk_at "x"
  refine ⟨_, B.rm, ?_⟩
  walk_at "x"
  refine ⟨_, B.en, ?_⟩
  walk_at "x"
  have nos : (reb es fr).filter (fun e => decide (r ≤ e.2)) = [] := by
    rw [List.filter_eq_nil_iff]
    intro e he
    have := F.ok e.2 (by rw [← rs]; exact List.mem_map_of_mem he)
    simp
    omega
  refine ⟨w, r, reb es fr, g, rfl, B, by omega, ?_⟩
  rw [nos]
  walk_at "x"
  refine ⟨_, B.en, ?_⟩
  walk_at "x"
  refine lc_a (by omega) (fun i => ((fsts es).take i).map (vD w)) rfl ?_ ?_
  · rintro i _ hi hx
    obtain ⟨e, ee, rfl⟩ := map_get hx
    rw [pD_e]
    walk_at "x"
    have q : (fsts es)[i]? = some e.1 := by rw [← rf, List.getElem?_map, ee]; rfl
    exact mp_s q _
  rw [rl, List.take_of_length_le (show (fsts es).length ≤ es.length by omega)]
  walk_at "x"
  have valv : ∀ v ∈ fsts es, isV w v = true := fun v hv => by
    obtain ⟨e, he, rfl⟩ := List.mem_map.mp hv
    exact val e he
  have okv : dOk (.lst ((fsts es).map (vD w))) = true := dOk_of (ok_lst fun v hv => ok_v (valv v hv)) (by decide)
  refine ⟨okv, okv, fun c => (by rw [DL.deq_self okv] at c; cases c), fun _ => ?_⟩
  walk_at "x"
  refine ⟨_, B.en, ?_⟩
  walk_at "x"
  refine lc_a (by omega) (fun i => intsD (fr.take i)) rfl ?_ ?_
  · rintro i _ hi hx
    obtain ⟨e, ee, rfl⟩ := map_get hx
    rw [pD_e]
    walk_at "x"
    have q : fr[i]? = some e.2 := by rw [← rs, List.getElem?_map, ee]; rfl
    exact mp_s q D.int
  rw [rl, List.take_of_length_le (show fr.length ≤ es.length by omega)]
  walk_at "x"
  refine lc_a (by omega) (fun i => (fr.take i).map fun _ => D.bl true) rfl ?_ ?_
  · rintro i _ hi hx
    obtain ⟨c, ec, rfl⟩ := map_get hx
    walk_at "x"
    refine ⟨c, rfl, ?_⟩
    walk_at "x"
    rw [List.take_add_one, ec]
    simp
  rw [take_all]
  walk_at "x"
  have srt : (intsD fr).mergeSort dle = intsD fr := by
    rw [sort_ints, List.mergeSort_of_pairwise]
    exact F.up.imp fun q => decide_eq_true (Int.le_of_lt q)
  have okf : dOk (.lst (intsD fr)) = true := dOk_ints fr
  refine ⟨fr.map fun _ => true, by simp, fun c => (by simp at c), fun _ => ⟨srtOk_ints (by omega), ?_⟩⟩
  rw [srt]
  walk_at "xd"
  have nd : fr.Nodup := F.up.imp fun q => Int.ne_of_lt q
  walk_at "x"
  refine ⟨fr, rfl, nd, by omega, ?_⟩
  walk_at "x"
  refine both_of ?_ fun L => ?_
  rotate_left
  · intro ne
    have f0 : 0 < fr.length := List.length_pos_iff.mpr ne
    have a0 : atI (intsD fr) 0 = some (.int (fr.getD 0 0)) := atI_nat (j := 0) (int_get f0)
    have a1 : atI (intsD fr) (-1) = some (.int (fr.getD (fr.length - 1) 0)) := atI_end (by rw [List.length_map]; exact int_get (by omega))
    have b0 := (F.ok _ (mem_get f0)).1
    have b2 := (F.ok _ (mem_get (by omega : fr.length - 1 < fr.length))).2
    have b1 : fr.getD 0 0 ≤ fr.getD (fr.length - 1) 0 := by
      by_cases c : fr.length = 1
      · rw [c]; exact Int.le_refl _
      · exact Int.le_of_lt (pw_get F.up (by omega) (by omega))
    refine ⟨_, a0, 0, _, rfl, rfl, fun _ => ⟨_, a1, _, rfl, fun _ => ⟨fun c => absurd b2 c, fun _ => L⟩, fun c => absurd c (by simpa using b1)⟩, fun c => absurd c (by simpa using b0)⟩
  walk_at "x"
  rw [Int.toNat_natCast]
  refine for_up (V := Nat × Sx) (fun v => [(9, .own none (.lst ((kps (snds es) fr v.1).map (vat w es)))), (10, .val (.int (wt loads (csts (snds es) fr v.1)))), (11, v.2)]) (fun i v => v.1 = i) (0, .no) rfl rfl ?_ ?_
  · rintro i ⟨k, s11⟩ hi rfl _ rfl
    have gf : atI (intsD fr) (k : Int) = some (.int (fr.getD k 0)) := atI_nat (int_get (by omega))
    have gc : atI (intsD (snds es)) (k : Int) = some (.int ((snds es).getD k 0)) := atI_nat (int_get (by omega))
    have gl : atI (intsD loads) (k : Int) = some (.int (loads.getD k 0)) := atI_nat (int_get (by omega))
    have gv : atI ((fsts es).map (vD w)) (k : Int) = some (vat w es k) := by
      have e := List.getElem?_eq_getElem hi
      rw [vat_get e]
      exact atI_nat (by rw [List.getElem?_map, List.getElem?_map, e]; rfl)
    simp only [puts]
    walk_at "x"
    refine ⟨_, gf, _, gc, ?_⟩
    walk_at "x"
    have kll : (kps (snds es) fr k).length ≤ 31 := Nat.le_trans (List.length_filter_le ..) (by simp; omega)
    refine ⟨fun c => ?_, fun c => ?_⟩
    · have q : kq (snds es) fr k = true := decide_eq_true c
      refine ⟨_, gv, by omega, (k + 1, .val (.int (k : Int))), ?_, rfl⟩
      rw [kps_succ, csts_succ, if_pos q, if_pos q, List.append_nil, List.map_append]
      rfl
    · have q : kq (snds es) fr k = false := decide_eq_false c
      refine ⟨_, gl, (k + 1, .val (.int (k : Int))), ?_, rfl⟩
      rw [kps_succ, csts_succ, if_neg (by rw [q]; decide), if_neg (by rw [q]; decide), List.append_nil, wt_snoc]
  · rintro ⟨k, s11⟩ rfl
    simp only [puts]
    walk_at "x"
    refine ⟨_, Mf.kept, ?_⟩
    walk_at "x"
    have okk : dOk (.tup ((kps (snds es) fr es.length).map (vat w es))) = true := dOk_of (ok_tup fun k hk => by
      have kl := List.mem_range.mp (List.mem_filter.mp hk).1
      have e := List.getElem?_eq_getElem kl
      rw [vat_get e]
      exact ok_v (val _ (List.getElem_mem kl))) (by decide)
    refine ⟨_, Mf.kept, okk, okk, fun c => (by rw [DL.deq_self okk] at c; cases c), fun _ => ?_⟩
    walk_at "x"
    refine ⟨_, Mf.cost, ?_⟩
    walk_at "x"
    refine ⟨_, rfl, ?_⟩
    walk_at "x"
    refine ⟨_, Mf.cost, ?_⟩
    walk_at "x"
    exact kk

def law_T14 : DS := (dSeq (dAsg 12 (dFz (dMakeN "Book" 4 fs_Book___init__ [] (dCons (dVarV 2) (dCons (dVarV 4) (dCons (dCB fList (dCons (dVar 7) dNil)) dNil))))))
  (dSeq (dAsg 13 (dCall 1 fs_leads [] (dCons (dVarV 12) dNil)))
  (dSeq (dIf (dOr (dNot (dB (dCB fIsi (dCons (dVar 13) (dCons (dC (.ty "list")) dNil))))) (dNot (dB (dCB fAll (dCons (dLc (dIL (dVarV 13)) (gN 23) dYes (dCall 1 fs_l_whole [] (dCons (dVarV 23) dNil)) [23]) dNil))))) (dRet (dC (.bl false))) dNext)
  (dSeq (dIf (dB (d2 fNeD (dVar 13) (dLc (dIR1 (dCons (dVarV 3) dNil)) (gN 20) dYes (d2 fSub (d2 fIxL (dVar 5) (dVar 20)) (dVar 20)) [20]))) (dRet (dC (.bl false))) dNext)
  (dSeq (dAsg 14 (dCB fDict (dCons (dVar 8) dNil)))
  (dSeq (dSetK 14 (dC (.int (5))) (d2 fIxL (dLst (dCons (dC (.str "zebra")) (dCons (dC (.int (777777777))) dNil))) (dCB fInt (dCons (d2 fEq (dVar 2) (dC (.str "number"))) dNil))))
  (dSeq (dAsg 15 (dCB fDict (dCons (dVar 14) dNil)))
  (dSeq (dAsg 16 (dCall 3 fs_l_mended [] (dCons (dVarV 12) (dCons (dVarV 11) (dCons (dVar 14) dNil)))))
  (dSeq (dIf (dOr (dB (d2 (fSameK false) (dVar 14) (dVar 15))) (dOr (dB (d2 fNeD (d1 (fFld exFt "entries") (dVar 12)) (dCB fTuple (dCons (dVar 7) dNil)))) (dB (d2 fNe (d1 (fFld exFt "room") (dVar 12)) (dVar 4))))) (dRet (dC (.bl false))) dNext)
  (dSeq (dIf (dNot (dB (dChain fLe fLe (dC (.int (1))) (dVar 11) (dC (.int (1000000)))))) (dRet (d2 fEqD (dVar 16) (dTup (dCons (dC (.str "BadRoom")) (dCons (dVarV 11) dNil))))) dNext)
  (dSeq (dIf (dB (d2 fLt (dVar 11) (dVar 3))) (dRet (d2 fEqD (dVar 16) (dTup (dCons (dC (.str "NoRoom")) (dCons (dVarV 11) dNil))))) dNext)
  (dSeq (dAsg 17 (dCall 3 fs_l_least [] (dCons (dVarV 5) (dCons (dVarV 9) (dCons (dVarV 11) dNil)))))
  (dSeq (dDrop (dDClear 14))
  (dSeq (dIf (dOr (dB (d2 fNe (d2 fIxT (dVar 16) (dC (.int (0)))) (dC (.str "made")))) (dNot (dB (dCall 5 fs_l_good [] (dCons (d2 fIxT (dVar 16) (dC (.int (1)))) (dCons (dVarV 2) (dCons (dVarV 7) (dCons (dVarV 9) (dCons (dVarV 11) dNil))))))))) (dRet (dC (.bl false))) dNext)
  (dSeq (dIf (dB (d2 fNe (d1 (fFld exFt "cost") (d2 fIxT (dVar 16) (dC (.int (1))))) (dVar 17))) (dRet (dC (.bl false))) dNext)
  (dSeq (dAsg 18 (dCall 3 fs_l_mended [] (dCons (dVarV 12) (dCons (dVarV 11) (dCons (dVar 14) dNil)))))
  (dSeq (dAsg 19 (d2 fRep (dLst (dCons (dC (.int (0))) dNil)) (dVar 3)))
  (dSeq (dIf (dOr (dB (d2 fNe (d2 fIxT (dVar 18) (dC (.int (0)))) (dC (.str "made")))) (dNot (dB (dCall 5 fs_l_good [] (dCons (d2 fIxT (dVar 18) (dC (.int (1)))) (dCons (dVarV 2) (dCons (dVarV 7) (dCons (dVarV 19) (dCons (dVarV 11) dNil))))))))) (dRet (dC (.bl false))) dNext)
  (dRet (dAndV (d2 fEq (d1 (fFld exFt "cost") (d2 fIxT (dVar 18) (dC (.int (1))))) (dC (.int (0)))) (dCall 5 fs_l_good [] (dCons (d2 fIxT (dVar 16) (dC (.int (1)))) (dCons (dVarV 2) (dCons (dVarV 7) (dCons (dVarV 9) (dCons (dVarV 11) dNil))))))))))))))))))))))))))
/-- the weights and what is looked up in them -/
def lks (w : Bool) (vs : List (Vt w)) (ks : List (Key × Int)) : List Int := vs.map fun v => ((ks.find? fun e => decide (e.1 = vK w v)).map Prod.snd).getD 0
theorem vlk_ki {ks : List (Key × Int)} {k : Key} : (vlk (kiD ks) k).getD (.int 0) = .int (((ks.find? fun e => decide (e.1 = k)).map Prod.snd).getD 0) := by
  unfold vlk kiD
  rw [List.find?_map]
  cases h : ks.find? ((fun kv : Key × D => decide (kv.1 = k)) ∘ fun p => (p.1, D.int p.2)) with
  | none =>
    have h2 : ks.find? (fun e => decide (e.1 = k)) = none := h
    rw [h2]
    rfl
  | some e =>
    have h2 : ks.find? (fun e => decide (e.1 = k)) = some e := h
    rw [h2]
    rfl
theorem wts_of {w : Bool} {vs : List (Vt w)} {ks : List (Key × Int)} (hb : ∀ e ∈ ks, 0 ≤ e.2 ∧ e.2 ≤ 1000000) : Wts w vs (kiD ks) (lks w vs ks) := by
  refine ⟨by simp [lks], fun x hx => ?_, fun k v hv => ?_⟩
  · obtain ⟨v, _, rfl⟩ := List.mem_map.mp hx
    cases h : ks.find? fun e => decide (e.1 = vK w v) with
    | none => exact ⟨by decide, by decide⟩
    | some e => exact hb e (List.mem_of_find?_eq_some h)
  · rw [vlk_ki, lks, List.getD_eq_getElem?_getD, List.getElem?_map, hv]
    rfl
theorem ptI_find {ks : List (Key × Int)} {k k2 : Key} {n : Int} (ne : k2 ≠ k) : (ptI ks k n).find? (fun e => decide (e.1 = k2)) = ks.find? fun e => decide (e.1 = k2) := by
  unfold ptI
  split
  · rw [List.find?_map]
    have : ((fun e : Key × Int => decide (e.1 = k2)) ∘ fun e => if e.1 = k then (e.1, n) else e) = fun e => decide (e.1 = k2) := by
      funext e
      simp only [Function.comp]
      split <;> rfl
    rw [this]
    cases h : ks.find? fun e => decide (e.1 = k2) with
    | none => rfl
    | some e =>
      have := List.find?_some h
      have e2 : e.1 = k2 := of_decide_eq_true this
      show some (if e.1 = k then (e.1, n) else e) = some e
      rw [if_neg (by rw [e2]; exact ne)]
  · rw [List.find?_append]
    have : [(k, n)].find? (fun e => decide (e.1 = k2)) = none := by simp [Ne.symm ne]
    rw [this, Option.or_none]
theorem lks_put {w : Bool} {vs : List (Vt w)} {ks : List (Key × Int)} {n : Int} (h : ∀ v ∈ vs, v ≠ stray w) : lks w vs (ptI ks (vK w (stray w)) n) = lks w vs ks := by
  unfold lks
  refine List.map_congr_left fun v hv => ?_
  rw [ptI_find fun e => h v hv (vK_inj e)]
theorem wt_zero {n : Nat} : ∀ S : List Nat, wt (List.replicate n 0) S = 0
  | [] => rfl
  | k :: S => by
    rw [wt_cons, wt_zero S, List.getD_eq_getElem?_getD]
    by_cases c : k < n
    · rw [List.getElem?_replicate_of_lt c]; rfl
    · rw [List.getElem?_eq_none (by simpa using c)]; rfl
theorem law_t14 {w : Bool} {old r : Int} {n : Nat} {es : List (Pr w)} {ks : List (Key × Int)} {ns : List Int} {p : RS → List Sx → Prop} {s1 s10 : Sx} (E : Ents w es old) (hn : es.length = n) (n7 : n ≤ 7) (hv : ∀ v ∈ fsts es, v ≠ stray w) (kl : ks.length ≤ 7) (hb : ∀ e ∈ ks, 0 ≤ e.2 ∧ e.2 ≤ 1000000) (kk : ∀ as', p (.val (.bl true)) as') :
    DL.Later law_T14 (endsOf [.val (.scr ns)] p) [.val (.scr ns), s1, .val (.str (dom w)), .val (.int (n : Int)), .val (.int old), .own none (.lst (intsD (snds es))), .val (.lst ((fsts es).map (vD w))), .own none (.lst (psD w es)), .own none (.dct (kiD ks)), .own none (.lst (intsD (lks w (fsts es) ks))), s10, .val (.int r), .no, .no, .no, .no, .no, .no, .no, .no, .no, .no, .no, .no] := by
  unfold law_T14
  have W := wts_of (w := w) (vs := fsts es) hb
  have lf : (fsts es).length = es.length := by simp
  have cl : (snds es).length = es.length := by simp
  walk_at "xn"
  refine ⟨w, false, old, es, rfl, .inr ⟨es, .refl _, E, fun g B => ?_⟩⟩
  walk_at "x"
  refine ⟨w, old, es, g, rfl, B, by omega, ?_⟩
  walk_at "x"
  have fl : (lds (snds es)).length = n := by rw [lds_len, cl, hn]
  have okl : dOk (.lst (intsD (lds (snds es)))) = true := dOk_ints _
  refine lc_a (by omega) (fun i => ((lds (snds es)).take i).map fun _ => D.bl true) rfl ?_ ?_
  · rintro i _ hi hx
    obtain ⟨c, ec, rfl⟩ := map_get hx
    walk_at "x"
    refine ⟨c, rfl, ?_⟩
    walk_at "x"
    rw [List.take_add_one, ec]
    simp
  rw [take_all]
  walk_at "x"
  refine ⟨(lds (snds es)).map fun _ => true, by simp, fun c => (by simp at c), fun _ => ?_⟩
  walk_at "x"
  rw [Int.toNat_natCast]
  refine lc_a (by omega) (fun i => intsD ((List.range i).map fun k => (snds es).getD k 0 - (k : Int))) rfl ?_ ?_
  · rintro i _ hi rfl
    walk_at "x"
    refine ⟨_, atI_nat (int_get (by omega)), ?_⟩
    simp only [intsD, List.range_succ, List.map_append, List.map_cons, List.map_nil]
    exact ⟨trivial, trivial⟩
  rw [show ((List.range n).map fun k => (snds es).getD k 0 - (k : Int)) = lds (snds es) by unfold lds; rw [cl, hn]]
  walk_at "x"
  refine ⟨⟨_, _, rfl, rfl⟩, ?_⟩
  have kz : atI [D.str "zebra", D.int 777777777] (if dom w = "number" then 1 else 0) = some (vD w (stray w)) := by
    cases w
    · rw [if_pos (show dom false = "number" from rfl)]; rfl
    · rw [if_neg (by decide)]; rfl
  have W2 : Wts w (fsts es) (kiD (ptI ks (vK w (stray w)) 5)) (lks w (fsts es) ks) := by
    rw [← lks_put (n := 5) hv]
    refine wts_of fun e he => ?_
    rcases ptI_mem he with h | h
    · exact hb e h
    · rw [h]; exact ⟨by decide, by decide⟩
  have k2l := ptI_len (ks := ks) (k := vK w (stray w)) (n := 5)
  refine ⟨_, kz, ?_⟩
  rw [key_vD]
  refine ⟨by simp [kiD]; omega, ?_⟩
  rw [ptk_ki]
  generalize ptI ks (vK w (stray w)) 5 = ks2 at W2 k2l ⊢
  have okt : dOk (.tup (psD w es)) = true := dOk_of (ok_tup fun e he => ok_pair (ok_v (E.val e he)) (ok_int _)) (by decide)
  walk_at "x"
  refine ⟨w, old, r, es, g, kiD ks2, lks w (fsts es) ks, rfl, B, E, by omega, W2, fun bad => ?_, fun good lt => ?_, fun good le m fr M => ?_⟩
  · walk_at "x"
    refine ⟨ks2, rfl, rfl, _, B.en, okt, okt, fun c => (by rw [DL.deq_self okt] at c; cases c), fun _ => ?_⟩
    walk_at "x"
    refine ⟨_, B.rm, ?_⟩
    walk_at "x"
    have okb : dOk (.tup [.str "BadRoom", .int r]) = true := dOk_of (ok_pair (by decide +kernel) (ok_int r)) (by decide)
    exact ⟨fun h1 => ⟨fun h2 => ⟨okb, okb, kk _⟩, fun h2 => absurd ⟨h1, h2⟩ bad⟩, fun h1 => ⟨okb, okb, kk _⟩⟩
  · walk_at "x"
    refine ⟨ks2, rfl, rfl, _, B.en, okt, okt, fun c => (by rw [DL.deq_self okt] at c; cases c), fun _ => ?_⟩
    walk_at "x"
    refine ⟨_, B.rm, ?_⟩
    walk_at "x"
    have okb : dOk (.tup [.str "NoRoom", .int r]) = true := dOk_of (ok_pair (by decide +kernel) (ok_int r)) (by decide)
    have in1 : 1 ≤ r ∧ r ≤ 1000000 := by unfold badRoom at good; omega
    refine ⟨fun h1 => ⟨fun h2 => absurd in1.2 h2, fun h2 => ?_⟩, fun h1 => absurd in1.1 h1⟩
    walk_at "x"
    exact ⟨fun _ => ⟨okb, okb, kk _⟩, fun c => absurd (by omega) c⟩
  · walk_at "x"
    refine ⟨ks2, rfl, rfl, _, B.en, okt, okt, fun c => (by rw [DL.deq_self okt] at c; cases c), fun _ => ?_⟩
    walk_at "x"
    refine ⟨_, B.rm, ?_⟩
    walk_at "x"
    have in1 : 1 ≤ r ∧ r ≤ 1000000 := by unfold badRoom at good; omega
    refine ⟨fun h1 => ⟨fun h2 => absurd in1.2 h2, fun h2 => ?_⟩, fun h1 => absurd in1.1 h1⟩
    walk_at "x"
    intro _
    have lll : (lks w (fsts es) ks).length = es.length := by rw [W.len, lf]
    walk_at "x"
    refine ⟨snds es, lks w (fsts es) ks, r, rfl, by omega, by omega, fun mm L => ?_⟩
    walk_at "x"
    have pos : ∀ k, 0 ≤ (lks w (fsts es) ks).getD k 0 := fun k => by
      by_cases c : k < (lks w (fsts es) ks).length
      · exact (W.pos _ (mem_get c)).1
      · rw [List.getD_eq_getElem?_getD, List.getElem?_eq_none (by omega)]
        exact Int.le_refl 0
    obtain ⟨g3, B3, Mf⟩ := M.mf
    have ec := cost_least (by omega) (by omega) pos M.frs (by rw [M.len, cl]) M.bst L
    refine ⟨w, es, r, _, m, fr, rfl, M, by omega, E.up, E.val, lll, ?_⟩
    walk_at "x"
    refine ⟨_, Mf.cost, ?_⟩
    rw [ec]
    walk_at "x"
    have W0 : Wts w (fsts es) [] (List.replicate n 0) := by
      refine ⟨by simp [hn], fun x hx => ?_, fun k v hv => ?_⟩
      · rw [List.eq_of_mem_replicate hx]
        exact ⟨by decide, by decide⟩
      · have kl2 := (List.getElem?_eq_some_iff.mp hv).1
        rw [List.getD_eq_getElem?_getD, List.getElem?_replicate_of_lt (by omega)]
        rfl
    refine ⟨w, old, r, es, g, [], List.replicate n 0, rfl, B, E, by omega, W0, fun bad => absurd bad good, fun _ lt => absurd le (by omega), fun _ _ m2 fr2 M2 => ?_⟩
    obtain ⟨g4, B4, Mf2⟩ := M2.mf
    walk_at "x"
    refine ⟨w, es, r, List.replicate n 0, m2, fr2, ?_, M2, by omega, E.up, E.val, by simp [hn], ?_⟩
    · simp [intsD]
    walk_at "x"
    refine ⟨_, Mf2.cost, ?_⟩
    rw [wt_zero]
    walk_at "x"
    refine ⟨w, es, r, _, m, fr, rfl, M, by omega, E.up, E.val, lll, ?_⟩
    walk_at "x"
    exact kk _

theorem pool_start (ns : List Int) (h : ns.length ≤ 63) : Pool (0 :: ns.map fun n => if n < 0 then -n else n) := pool_mk (Int.le_refl _) (fun y hy => by
  obtain ⟨n, _, rfl⟩ := List.mem_map.mp hy
  split <;> omega) (by simpa using h)
theorem ints_snoc {l : List Int} {i : Nat} {x : Int} (h : l[i]? = some x) : intsD (l.take i) ++ [D.int x] = intsD (l.take (i + 1)) := by
  rw [List.take_add_one, h]
  simp
abbrev fs_law : FS := fsLaw
theorem zip_ents {w : Bool} {vs : List (Vt w)} {cs : List Int} {room : Int} (len : vs.length = cs.length) (l7 : vs.length ≤ 7) (up : vs.Pairwise fun a b => vlt w a b = true) (val : ∀ v ∈ vs, isV w v = true ∧ v ≠ stray w) (C : Cods room cs) (r0 : 1 ≤ room) (r1 : room ≤ 1000000) : Ents w (vs.zip cs) room ∧ fsts (vs.zip cs) = vs ∧ snds (vs.zip cs) = cs := by
  have f1 : fsts (vs.zip cs) = vs := List.map_fst_zip (by omega)
  have f2 : snds (vs.zip cs) = cs := List.map_snd_zip (by omega)
  refine ⟨⟨by simp; omega, ?_, by rw [f2]; exact C.nd, fun e he => ?_, fun e he => ?_, ?_, r0, r1⟩, f1, f2⟩
  · have q := up
    rw [← f1, List.pairwise_map] at q
    exact q
  · exact (val e.1 (by rw [← f1]; exact List.mem_map_of_mem he)).1
  · exact C.ok e.2 (by rw [← f2]; exact List.mem_map_of_mem he)
  · have q := C.inr
    rw [← f2, List.filter_map, List.pairwise_map] at q
    exact q
theorem pure_law (as : List Sx) (p : RS → List Sx → Prop) (hl : as.length = 1) (h : fs_law as p) : ds_law (endsOf as p) (startG 24 as) := by
  obtain ⟨ns, rfl, hn, kk⟩ := h
  unfold ds_law
  walk_at "xs"
  have hc : cut ns none (some 63) = ns := by
    rw [cut_to (by decide)]
    exact List.take_of_length_le hn
  rw [hc]
  obtain ⟨ab, hab⟩ : ∃ ab, ab = ns.map fun n => if n < 0 then -n else n := ⟨_, rfl⟩
  refine lc_a (by omega) (fun i => intsD (ab.take i)) rfl ?_ ?_
  · rintro i _ hi hx
    rw [List.getElem?_map, List.getElem?_eq_getElem hi] at hx
    cases hx
    walk_at "x"
    exact ints_snoc (by rw [hab, List.getElem?_map, List.getElem?_eq_getElem hi]; rfl)
  rw [List.take_of_length_le (by rw [hab]; simp)]
  have hp := pool_start ns hn
  have hal : ab.length ≤ 63 := by rw [hab]; simpa using hn
  rw [← hab] at hp
  have hms' : D.int 0 :: intsD ab = intsD (0 :: ab) := rfl
  generalize (0 :: ab) = ms at hp hms'
  walk_at "xd"
  rw [hms']
  refine ⟨by omega, ?_⟩
  walk_at "xn"
  refine ⟨ms, 2, rfl, hp, by decide, by decide, fun d ms1 d0 d1 hp1 => ?_⟩
  walk_at "xd"
  obtain ⟨w, hw⟩ : ∃ w : Bool, atI [D.str "number", D.str "word"] d = some (.str (dom w)) := by
    by_cases c : d = 0
    · subst c; exact ⟨false, rfl⟩
    · have : d = 1 := by omega
      subst this; exact ⟨true, rfl⟩
  refine ⟨_, hw, ?_⟩
  walk_at "xn"
  refine ⟨ms1, 8, rfl, hp1, by decide, by decide, fun m ms2 m0 m1 hp2 => ?_⟩
  walk_at "xd"
  refine ⟨by decide, ?_⟩
  obtain ⟨n, hN⟩ : ∃ n : Nat, (5 + m) % 8 = (n : Int) := ⟨((5 + m) % 8).toNat, by omega⟩
  have n7 : n ≤ 7 := by omega
  rw [hN]
  walk_at "xn"
  refine ⟨ms2, rfl, hp2, fun old ms3 r0 r1 hp3 => ?_⟩
  walk_at "xd"
  walk_at "xn"
  refine ⟨ms3, n, old, rfl, hp3, n7, r0, r1, fun cs ms4 cl C hp4 => ?_⟩
  walk_at "xd"
  walk_at "xn"
  refine ⟨ms4, w, n, rfl, hp4, n7, fun vs ms5 vl up val hp5 => ?_⟩
  obtain ⟨E, f1, f2⟩ := zip_ents (by omega) (by omega) up val C r0 r1
  have el : (vs.zip cs).length = n := by simp; omega
  walk_at "xd"
  walk_at "xn"
  refine ⟨by omega, by omega, ?_⟩
  rw [Int.toNat_natCast]
  refine lc_a (by omega) (fun i => psD w ((vs.zip cs).take i)) rfl ?_ ?_
  · rintro i _ hi rfl
    have gv : atI (vs.map (vD w)) (i : Int) = some (vD w vs[i]) := atI_nat (by rw [List.getElem?_map, List.getElem?_eq_getElem (by omega)]; rfl)
    have gc : atI (intsD cs) (i : Int) = some (.int cs[i]) := atI_nat (by rw [List.getElem?_map, List.getElem?_eq_getElem (by omega)]; rfl)
    walk_at "x"
    refine ⟨_, gv, _, gc, ?_⟩
    have z : (vs.zip cs)[i]? = some (vs[i], cs[i]) := by rw [List.getElem?_zip_eq_some]; exact ⟨List.getElem?_eq_getElem _, List.getElem?_eq_getElem _⟩
    exact mp_s z (pD w)
  rw [show (vs.zip cs).take n = vs.zip cs from List.take_of_length_le (by omega)]
  walk_at "x"
  refine ⟨ms5, w, vs, rfl, hp5, by omega, fun ks ms6 kl hb hp6 => ?_⟩
  walk_at "x"
  refine lc_a (by omega) (fun i => intsD (lks w (vs.take i) ks)) rfl ?_ ?_
  · rintro i _ hi hx
    obtain ⟨v, ev, rfl⟩ := map_get hx
    walk_at "x"
    rw [vlk_ki]
    unfold lks
    rw [List.take_add_one, ev]
    simp [intsD]
  rw [take_all]
  walk_at "x"
  refine ⟨ms6, 6, rfl, hp6, by decide, by decide, fun kd ms7 kd0 kd1 hp7 => ?_⟩
  walk_at "xd"
  walk_at "xn"
  refine ⟨ms7, 12, rfl, hp7, by decide, by decide, fun rr ms8 rr0 rr1 hp8 => ?_⟩
  walk_at "xd"
  have key : ∀ (r : Int) (s1 s10 : Sx), DL.Later law_T14 (endsOf [.val (.scr ns)] p) [.val (.scr ns), s1, .val (.str (dom w)), .val (.int (n : Int)), .val (.int old), .own none (.lst (intsD cs)), .val (.lst (vs.map (vD w))), .own none (.lst (psD w (vs.zip cs))), .own none (.dct (kiD ks)), .own none (.lst (intsD (lks w vs ks))), s10, .val (.int r), .no, .no, .no, .no, .no, .no, .no, .no, .no, .no, .no, .no] := fun r s1 s10 => by
    have q := law_t14 (s1 := s1) (s10 := s10) (r := r) (ns := ns) (p := p) E el n7 (fun v hv => (val v (by rw [← f1]; exact hv)).2) kl hb kk
    rwa [f1, f2] at q
  refine ⟨by decide, ?_⟩
  walk_at "xn"
  refine ⟨fun c => ?_, fun c3 => ?_⟩
  · subst c
    refine ⟨ms8, 3, rfl, hp8, by decide, by decide, fun e ms9 a0 a1 hp9 => ?_⟩
    walk_at "xd"
    obtain ⟨r, gr⟩ : ∃ r : Int, atI [D.int (n : Int), D.int 1000000, D.int 1] e = some (.int r) := by
      obtain ⟨k, rfl⟩ : ∃ k : Nat, e = (k : Int) := ⟨e.toNat, by omega⟩
      have : k < 3 := by omega
      match k, this with
      | 0, _ => exact ⟨_, rfl⟩
      | 1, _ => exact ⟨_, rfl⟩
      | 2, _ => exact ⟨_, rfl⟩
    refine ⟨_, gr, ?_⟩
    walk_at "xn"
    refine ⟨fun q => absurd q (by decide), fun _ => ?_⟩
    walk_at "xn"
    refine ⟨fun q => absurd q (by decide), fun _ => ?_⟩
    exact key r _ _
  walk_at "xn"
  refine ⟨fun c => ?_, fun c4 => ?_⟩
  · subst c
    refine ⟨ms8, 999990, rfl, hp8, by decide, by decide, fun e ms9 a0 a1 hp9 => ?_⟩
    walk_at "xd"
    walk_at "xn"
    refine ⟨fun q => absurd q (by decide), fun _ => ?_⟩
    exact key _ _ _
  walk_at "xn"
  refine ⟨fun c => ?_, fun c5 => ?_⟩
  · subst c
    refine ⟨ms8, 4, rfl, hp8, by decide, by decide, fun e ms9 a0 a1 hp9 => ?_⟩
    walk_at "xd"
    obtain ⟨r, gr⟩ : ∃ r : Int, atI [D.int 0, D.int ((n : Int) - 1), D.int 1000001, D.int (-3)] e = some (.int r) := by
      obtain ⟨k, rfl⟩ : ∃ k : Nat, e = (k : Int) := ⟨e.toNat, by omega⟩
      have : k < 4 := by omega
      match k, this with
      | 0, _ => exact ⟨_, rfl⟩
      | 1, _ => exact ⟨_, rfl⟩
      | 2, _ => exact ⟨_, rfl⟩
      | 3, _ => exact ⟨_, rfl⟩
    refine ⟨_, gr, ?_⟩
    exact key r _ _
  exact key _ _ _

/-! printed by gen.py: the text, the bodies as terms, the end -/
def topS (i : Nat) : Stmt := PySem.Challenge.pw_colonnade_k14_mendings_cheapest.main.body.getD i (.Pass ⟨0, 0, 0, 0⟩)
abbrev s_in_order : Stmt := topS 17
abbrev N_in_order : List Str := ["ordered", "value", "code", "above", "other"]
theorem sc_in_order : FnScope N_in_order ["ordered"] (defScope s_in_order) := ⟨rfl, rfl, rfl, by decide +kernel, rfl, by decide +kernel, by decide +kernel⟩
abbrev s_told_by_first : Stmt := topS 18
abbrev N_told_by_first : List Str := ["ordered", "pair", "other"]
theorem sc_told_by_first : FnScope N_told_by_first ["ordered"] (defScope s_told_by_first) := ⟨rfl, rfl, rfl, by decide +kernel, rfl, by decide +kernel, by decide +kernel⟩
abbrev s_kept_by : Stmt := topS 19
abbrev N_kept_by : List Str := ["pairs", "ordered", "shifts", "value", "code"]
theorem sc_kept_by : FnScope N_kept_by ["pairs"] (defScope s_kept_by) := ⟨rfl, rfl, rfl, by decide +kernel, rfl, by decide +kernel, by decide +kernel⟩
abbrev s_is_word : Stmt := topS 26
abbrev N_is_word : List Str := ["text", "letter"]
theorem sc_is_word : FnScope N_is_word ["text"] (defScope s_is_word) := ⟨rfl, rfl, rfl, by decide +kernel, rfl, by decide +kernel, by decide +kernel⟩
abbrev s_is_value : Stmt := topS 27
abbrev N_is_value : List Str := ["domain", "value"]
theorem sc_is_value : FnScope N_is_value ["domain", "value"] (defScope s_is_value) := ⟨rfl, rfl, rfl, by decide +kernel, rfl, by decide +kernel, by decide +kernel⟩
abbrev s_check_room : Stmt := topS 31
abbrev N_check_room : List Str := ["room"]
theorem sc_check_room : FnScope N_check_room ["room"] (defScope s_check_room) := ⟨rfl, rfl, rfl, by decide +kernel, rfl, by decide +kernel, by decide +kernel⟩
abbrev s_is_code : Stmt := topS 32
abbrev N_is_code : List Str := ["code"]
theorem sc_is_code : FnScope N_is_code ["code"] (defScope s_is_code) := ⟨rfl, rfl, rfl, by decide +kernel, rfl, by decide +kernel, by decide +kernel⟩
abbrev s_Book___init__ : Stmt := methOf 1 (topS 34)
abbrev N_Book___init__ : List Str := ["self", "domain", "room", "entries", "codes", "values", "ordered", "in_room", "value", "code", "_", "lower"]
theorem sc_Book___init__ : FnScope N_Book___init__ ["self", "domain", "room", "entries"] (defScope s_Book___init__) := ⟨rfl, rfl, rfl, by decide +kernel, rfl, by decide +kernel, by decide +kernel⟩
abbrev s_Book_strays : Stmt := methOf 4 (topS 34)
abbrev N_Book_strays : List Str := ["self", "value", "code"]
theorem sc_Book_strays : FnScope N_Book_strays ["self"] (defScope s_Book_strays) := ⟨rfl, rfl, rfl, by decide +kernel, rfl, by decide +kernel, by decide +kernel⟩
abbrev s_Book___contains__ : Stmt := methOf 6 (topS 34)
abbrev N_Book___contains__ : List Str := ["self", "value"]
theorem sc_Book___contains__ : FnScope N_Book___contains__ ["self", "value"] (defScope s_Book___contains__) := ⟨rfl, rfl, rfl, by decide +kernel, rfl, by decide +kernel, by decide +kernel⟩
abbrev s_Book_code_of : Stmt := methOf 7 (topS 34)
abbrev N_Book_code_of : List Str := ["self", "value"]
theorem sc_Book_code_of : FnScope N_Book_code_of ["self", "value"] (defScope s_Book_code_of) := ⟨rfl, rfl, rfl, by decide +kernel, rfl, by decide +kernel, by decide +kernel⟩
abbrev s_leads : Stmt := topS 36
abbrev N_leads : List Str := ["book", "rank", "_", "code"]
theorem sc_leads : FnScope N_leads ["book"] (defScope s_leads) := ⟨rfl, rfl, rfl, by decide +kernel, rfl, by decide +kernel, by decide +kernel⟩
abbrev s_Mending___init__ : Stmt := methOf 0 (topS 37)
abbrev N_Mending___init__ : List Str := ["self", "book", "cost", "kept", "chains"]
theorem sc_Mending___init__ : FnScope N_Mending___init__ ["self", "book", "cost", "kept", "chains"] (defScope s_Mending___init__) := ⟨rfl, rfl, rfl, by decide +kernel, rfl, by decide +kernel, by decide +kernel⟩
abbrev s_heights_of : Stmt := topS 38
abbrev N_heights_of : List Str := ["found", "loads", "slack", "heights", "rank", "lead", "lower", "height", "other"]
theorem sc_heights_of : FnScope N_heights_of ["found", "loads", "slack"] (defScope s_heights_of) := ⟨rfl, rfl, rfl, by decide +kernel, rfl, by decide +kernel, by decide +kernel⟩
abbrev s_kept_ranks : Stmt := topS 39
abbrev N_kept_ranks : List Str := ["found", "loads", "heights", "left", "ranks", "rank", "height"]
theorem sc_kept_ranks : FnScope N_kept_ranks ["found", "loads", "heights"] (defScope s_kept_ranks) := ⟨rfl, rfl, rfl, by decide +kernel, rfl, by decide +kernel, by decide +kernel⟩
abbrev s_spread_leads : Stmt := topS 40
abbrev N_spread_leads : List Str := ["anchors", "found", "rank", "start", "low", "end", "high"]
theorem sc_spread_leads : FnScope N_spread_leads ["anchors"] (defScope s_spread_leads) := ⟨rfl, rfl, rfl, by decide +kernel, rfl, by decide +kernel, by decide +kernel⟩
abbrev s_clash_chains : Stmt := topS 41
abbrev N_clash_chains : List Str := ["values", "loads", "heights", "taken", "cuts", "chains", "low", "high", "clashing", "value", "load", "height", "start", "end", "_"]
theorem sc_clash_chains : FnScope N_clash_chains ["values", "loads", "heights"] (defScope s_clash_chains) := ⟨rfl, rfl, rfl, by decide +kernel, rfl, by decide +kernel, by decide +kernel⟩
abbrev s_mend_book : Stmt := topS 42
abbrev N_mend_book : List Str := ["book", "room", "weights", "many", "values", "loads", "found", "heights", "ranks", "anchors", "codes", "mended", "kept", "cost", "value", "_", "rank", "lead", "code", "load"]
theorem sc_mend_book : FnScope N_mend_book ["book", "room", "weights"] (defScope s_mend_book) := ⟨rfl, rfl, rfl, by decide +kernel, rfl, by decide +kernel, by decide +kernel⟩
abbrev s_l_take : Stmt := topS 44
abbrev N_l_take : List Str := ["_law_pool", "_law_many", "_law_digit"]
theorem sc_l_take : FnScope N_l_take ["_law_pool", "_law_many"] (defScope s_l_take) := ⟨rfl, rfl, rfl, by decide +kernel, rfl, by decide +kernel, by decide +kernel⟩
abbrev s_l_whole : Stmt := topS 45
abbrev N_l_whole : List Str := ["_law_thing"]
theorem sc_l_whole : FnScope N_l_whole ["_law_thing"] (defScope s_l_whole) := ⟨rfl, rfl, rfl, by decide +kernel, rfl, by decide +kernel, by decide +kernel⟩
abbrev s_l_words : Stmt := topS 46
abbrev N_l_words : List Str := ["_law_words_here"]
theorem sc_l_words : FnScope N_l_words [] (defScope s_l_words) := ⟨rfl, rfl, rfl, by decide +kernel, rfl, by decide +kernel, by decide +kernel⟩
abbrev s_l_room : Stmt := topS 47
abbrev N_l_room : List Str := ["_law_pool", "_law_kind"]
theorem sc_l_room : FnScope N_l_room ["_law_pool"] (defScope s_l_room) := ⟨rfl, rfl, rfl, by decide +kernel, rfl, by decide +kernel, by decide +kernel⟩
abbrev s_l_codes : Stmt := topS 48
abbrev N_l_codes : List Str := ["_law_pool", "_law_many", "_law_room_here", "_law_rest", "_law_codes_here", "_law_k", "_law_small", "_law_at", "_law_code"]
theorem sc_l_codes : FnScope N_l_codes ["_law_pool", "_law_many", "_law_room_here"] (defScope s_l_codes) := ⟨rfl, rfl, rfl, by decide +kernel, rfl, by decide +kernel, by decide +kernel⟩
abbrev s_l_values : Stmt := topS 49
abbrev N_l_values : List Str := ["_law_pool", "_law_domain", "_law_many", "_law_low", "_law_at", "_law_values_here", "_law_k"]
theorem sc_l_values : FnScope N_l_values ["_law_pool", "_law_domain", "_law_many"] (defScope s_l_values) := ⟨rfl, rfl, rfl, by decide +kernel, rfl, by decide +kernel, by decide +kernel⟩
abbrev s_l_weights : Stmt := topS 50
abbrev N_l_weights : List Str := ["_law_pool", "_law_values_here", "_law_weights_here", "_law_k", "_law_kind"]
theorem sc_l_weights : FnScope N_l_weights ["_law_pool", "_law_values_here"] (defScope s_l_weights) := ⟨rfl, rfl, rfl, by decide +kernel, rfl, by decide +kernel, by decide +kernel⟩
abbrev s_l_subsets : Stmt := topS 51
abbrev N_l_subsets : List Str := ["_law_many", "_law_sets", "_law_k", "_law_row"]
theorem sc_l_subsets : FnScope N_l_subsets ["_law_many"] (defScope s_l_subsets) := ⟨rfl, rfl, rfl, by decide +kernel, rfl, by decide +kernel, by decide +kernel⟩
abbrev s_l_can : Stmt := topS 52
abbrev N_l_can : List Str := ["_law_codes_here", "_law_keep", "_law_room_here", "_law_last", "_law_rank", "_law_code"]
theorem sc_l_can : FnScope N_l_can ["_law_codes_here", "_law_keep", "_law_room_here"] (defScope s_l_can) := ⟨rfl, rfl, rfl, by decide +kernel, rfl, by decide +kernel, by decide +kernel⟩
abbrev s_l_least : Stmt := topS 53
abbrev N_l_least : List Str := ["_law_codes_here", "_law_loads", "_law_room_here", "_law_least_here", "_law_keep", "_law_cost", "_law_k"]
theorem sc_l_least : FnScope N_l_least ["_law_codes_here", "_law_loads", "_law_room_here"] (defScope s_l_least) := ⟨rfl, rfl, rfl, by decide +kernel, rfl, by decide +kernel, by decide +kernel⟩
abbrev s_l_mended : Stmt := topS 54
abbrev N_l_mended : List Str := ["_law_book", "_law_room_here", "_law_weights_here", "e"]
theorem sc_l_mended : FnScope N_l_mended ["_law_book", "_law_room_here", "_law_weights_here"] (defScope s_l_mended) := ⟨rfl, rfl, rfl, by decide +kernel, rfl, by decide +kernel, by decide +kernel⟩
abbrev s_l_good : Stmt := topS 55
abbrev N_l_good : List Str := ["_law_mending", "_law_domain", "_law_pairs", "_law_loads", "_law_room_here", "_law_values_here", "_law_codes_here", "_law_book", "_law_fresh", "_law_kept", "_law_cost", "_law_k", "_law_x", "_law_code"]
theorem sc_l_good : FnScope N_l_good ["_law_mending", "_law_domain", "_law_pairs", "_law_loads", "_law_room_here"] (defScope s_l_good) := ⟨rfl, rfl, rfl, by decide +kernel, rfl, by decide +kernel, by decide +kernel⟩
abbrev s_law : Stmt := topS 56
abbrev N_law : List Str := ["_law_script", "_law_pool", "_law_domain", "_law_many", "_law_old", "_law_codes_here", "_law_values_here", "_law_pairs", "_law_weights_here", "_law_loads", "_law_kind", "_law_room_here", "_law_book", "_law_told", "_law_handed", "_law_copy", "_law_made", "_law_least_here", "_law_free", "_law_light", "_law_k", "_law_value", "_law_cell", "_law_lead"]
theorem sc_law : FnScope N_law ["_law_script"] (defScope s_law) := ⟨rfl, rfl, rfl, by decide +kernel, rfl, by decide +kernel, by decide +kernel⟩
abbrev sI_1 : Stmt := methOf 0 (topS 3)
theorem scI_1 : FnScope ["self", "name"] ["self", "name"] (defScope sI_1) := ⟨rfl, rfl, rfl, by decide +kernel, rfl, by decide +kernel, by decide +kernel⟩
abbrev sI_2 : Stmt := methOf 0 (topS 4)
theorem scI_2 : FnScope ["self", "value"] ["self", "value"] (defScope sI_2) := ⟨rfl, rfl, rfl, by decide +kernel, rfl, by decide +kernel, by decide +kernel⟩
abbrev sI_3 : Stmt := methOf 0 (topS 5)
theorem scI_3 : FnScope ["self", "domain"] ["self", "domain"] (defScope sI_3) := ⟨rfl, rfl, rfl, by decide +kernel, rfl, by decide +kernel, by decide +kernel⟩
abbrev sI_4 : Stmt := methOf 0 (topS 6)
theorem scI_4 : FnScope ["self", "room"] ["self", "room"] (defScope sI_4) := ⟨rfl, rfl, rfl, by decide +kernel, rfl, by decide +kernel, by decide +kernel⟩
abbrev sI_5 : Stmt := methOf 0 (topS 7)
theorem scI_5 : FnScope ["self", "code"] ["self", "code"] (defScope sI_5) := ⟨rfl, rfl, rfl, by decide +kernel, rfl, by decide +kernel, by decide +kernel⟩
abbrev sI_6 : Stmt := methOf 0 (topS 8)
theorem scI_6 : FnScope ["self", "name"] ["self", "name"] (defScope sI_6) := ⟨rfl, rfl, rfl, by decide +kernel, rfl, by decide +kernel, by decide +kernel⟩
abbrev sI_7 : Stmt := methOf 0 (topS 9)
theorem scI_7 : FnScope ["self", "value"] ["self", "value"] (defScope sI_7) := ⟨rfl, rfl, rfl, by decide +kernel, rfl, by decide +kernel, by decide +kernel⟩
abbrev sI_8 : Stmt := methOf 0 (topS 10)
theorem scI_8 : FnScope ["self", "value"] ["self", "value"] (defScope sI_8) := ⟨rfl, rfl, rfl, by decide +kernel, rfl, by decide +kernel, by decide +kernel⟩
abbrev sI_9 : Stmt := methOf 0 (topS 11)
theorem scI_9 : FnScope ["self", "value"] ["self", "value"] (defScope sI_9) := ⟨rfl, rfl, rfl, by decide +kernel, rfl, by decide +kernel, by decide +kernel⟩
abbrev sI_10 : Stmt := methOf 0 (topS 12)
theorem scI_10 : FnScope ["self", "room"] ["self", "room"] (defScope sI_10) := ⟨rfl, rfl, rfl, by decide +kernel, rfl, by decide +kernel, by decide +kernel⟩
/-- what the top has written -/
structure Txt (K : PySem.W.Frag) (mg : Str → Option Value) : Type where
  f_in_order : Addr
  d_in_order : FuncData
  g_in_order : mg "in_order" = some (.ref f_in_order)
  F_in_order : Fun K "in_order" "in_order" s_in_order f_in_order d_in_order
  b_in_order : Binds K d_in_order ["ordered"] []
  f_told_by_first : Addr
  d_told_by_first : FuncData
  g_told_by_first : mg "told_by_first" = some (.ref f_told_by_first)
  F_told_by_first : Fun K "told_by_first" "told_by_first" s_told_by_first f_told_by_first d_told_by_first
  b_told_by_first : Binds K d_told_by_first ["ordered"] []
  f_kept_by : Addr
  d_kept_by : FuncData
  g_kept_by : mg "kept_by" = some (.ref f_kept_by)
  F_kept_by : Fun K "kept_by" "kept_by" s_kept_by f_kept_by d_kept_by
  b_kept_by : Binds K d_kept_by ["pairs"] []
  f_is_word : Addr
  d_is_word : FuncData
  g_is_word : mg "is_word" = some (.ref f_is_word)
  F_is_word : Fun K "is_word" "is_word" s_is_word f_is_word d_is_word
  b_is_word : Binds K d_is_word ["text"] []
  f_is_value : Addr
  d_is_value : FuncData
  g_is_value : mg "is_value" = some (.ref f_is_value)
  F_is_value : Fun K "is_value" "is_value" s_is_value f_is_value d_is_value
  b_is_value : Binds K d_is_value ["domain", "value"] []
  f_check_room : Addr
  d_check_room : FuncData
  g_check_room : mg "check_room" = some (.ref f_check_room)
  F_check_room : Fun K "check_room" "check_room" s_check_room f_check_room d_check_room
  b_check_room : Binds K d_check_room ["room"] []
  f_is_code : Addr
  d_is_code : FuncData
  g_is_code : mg "is_code" = some (.ref f_is_code)
  F_is_code : Fun K "is_code" "is_code" s_is_code f_is_code d_is_code
  b_is_code : Binds K d_is_code ["code"] []
  f_Book___init__ : Addr
  d_Book___init__ : FuncData
  F_Book___init__ : FunV K "__init__" "Book.__init__" s_Book___init__ f_Book___init__ d_Book___init__
  b_Book___init__ : Binds K d_Book___init__ ["self", "domain", "room", "entries"] []
  f_Book_strays : Addr
  d_Book_strays : FuncData
  F_Book_strays : Fun K "strays" "Book.strays" s_Book_strays f_Book_strays d_Book_strays
  b_Book_strays : Binds K d_Book_strays ["self"] []
  f_Book___contains__ : Addr
  d_Book___contains__ : FuncData
  F_Book___contains__ : Fun K "__contains__" "Book.__contains__" s_Book___contains__ f_Book___contains__ d_Book___contains__
  b_Book___contains__ : Binds K d_Book___contains__ ["self", "value"] []
  f_Book_code_of : Addr
  d_Book_code_of : FuncData
  F_Book_code_of : Fun K "code_of" "Book.code_of" s_Book_code_of f_Book_code_of d_Book_code_of
  b_Book_code_of : Binds K d_Book_code_of ["self", "value"] []
  f_leads : Addr
  d_leads : FuncData
  g_leads : mg "leads" = some (.ref f_leads)
  F_leads : Fun K "leads" "leads" s_leads f_leads d_leads
  b_leads : Binds K d_leads ["book"] []
  f_Mending___init__ : Addr
  d_Mending___init__ : FuncData
  F_Mending___init__ : Fun K "__init__" "Mending.__init__" s_Mending___init__ f_Mending___init__ d_Mending___init__
  b_Mending___init__ : Binds K d_Mending___init__ ["self", "book", "cost", "kept", "chains"] []
  f_heights_of : Addr
  d_heights_of : FuncData
  g_heights_of : mg "heights_of" = some (.ref f_heights_of)
  F_heights_of : Fun K "heights_of" "heights_of" s_heights_of f_heights_of d_heights_of
  b_heights_of : Binds K d_heights_of ["found", "loads", "slack"] []
  f_kept_ranks : Addr
  d_kept_ranks : FuncData
  g_kept_ranks : mg "kept_ranks" = some (.ref f_kept_ranks)
  F_kept_ranks : Fun K "kept_ranks" "kept_ranks" s_kept_ranks f_kept_ranks d_kept_ranks
  b_kept_ranks : Binds K d_kept_ranks ["found", "loads", "heights"] []
  f_spread_leads : Addr
  d_spread_leads : FuncData
  g_spread_leads : mg "spread_leads" = some (.ref f_spread_leads)
  F_spread_leads : Fun K "spread_leads" "spread_leads" s_spread_leads f_spread_leads d_spread_leads
  b_spread_leads : Binds K d_spread_leads ["anchors"] []
  f_clash_chains : Addr
  d_clash_chains : FuncData
  g_clash_chains : mg "clash_chains" = some (.ref f_clash_chains)
  F_clash_chains : Fun K "clash_chains" "clash_chains" s_clash_chains f_clash_chains d_clash_chains
  b_clash_chains : Binds K d_clash_chains ["values", "loads", "heights"] []
  f_mend_book : Addr
  d_mend_book : FuncData
  g_mend_book : mg "mend_book" = some (.ref f_mend_book)
  F_mend_book : Fun K "mend_book" "mend_book" s_mend_book f_mend_book d_mend_book
  b_mend_book : Binds K d_mend_book ["book", "room", "weights"] []
  f_l_take : Addr
  d_l_take : FuncData
  g_l_take : mg "_law_take" = some (.ref f_l_take)
  F_l_take : Fun K "_law_take" "_law_take" s_l_take f_l_take d_l_take
  b_l_take : Binds K d_l_take ["_law_pool", "_law_many"] []
  f_l_whole : Addr
  d_l_whole : FuncData
  g_l_whole : mg "_law_whole" = some (.ref f_l_whole)
  F_l_whole : Fun K "_law_whole" "_law_whole" s_l_whole f_l_whole d_l_whole
  b_l_whole : Binds K d_l_whole ["_law_thing"] []
  f_l_words : Addr
  d_l_words : FuncData
  g_l_words : mg "_law_words" = some (.ref f_l_words)
  F_l_words : Fun K "_law_words" "_law_words" s_l_words f_l_words d_l_words
  b_l_words : Binds K d_l_words [] []
  f_l_room : Addr
  d_l_room : FuncData
  g_l_room : mg "_law_room" = some (.ref f_l_room)
  F_l_room : Fun K "_law_room" "_law_room" s_l_room f_l_room d_l_room
  b_l_room : Binds K d_l_room ["_law_pool"] []
  f_l_codes : Addr
  d_l_codes : FuncData
  g_l_codes : mg "_law_codes" = some (.ref f_l_codes)
  F_l_codes : Fun K "_law_codes" "_law_codes" s_l_codes f_l_codes d_l_codes
  b_l_codes : Binds K d_l_codes ["_law_pool", "_law_many", "_law_room_here"] []
  f_l_values : Addr
  d_l_values : FuncData
  g_l_values : mg "_law_values" = some (.ref f_l_values)
  F_l_values : Fun K "_law_values" "_law_values" s_l_values f_l_values d_l_values
  b_l_values : Binds K d_l_values ["_law_pool", "_law_domain", "_law_many"] []
  f_l_weights : Addr
  d_l_weights : FuncData
  g_l_weights : mg "_law_weights" = some (.ref f_l_weights)
  F_l_weights : Fun K "_law_weights" "_law_weights" s_l_weights f_l_weights d_l_weights
  b_l_weights : Binds K d_l_weights ["_law_pool", "_law_values_here"] []
  f_l_subsets : Addr
  d_l_subsets : FuncData
  g_l_subsets : mg "_law_subsets" = some (.ref f_l_subsets)
  F_l_subsets : Fun K "_law_subsets" "_law_subsets" s_l_subsets f_l_subsets d_l_subsets
  b_l_subsets : Binds K d_l_subsets ["_law_many"] []
  f_l_can : Addr
  d_l_can : FuncData
  g_l_can : mg "_law_can" = some (.ref f_l_can)
  F_l_can : Fun K "_law_can" "_law_can" s_l_can f_l_can d_l_can
  b_l_can : Binds K d_l_can ["_law_codes_here", "_law_keep", "_law_room_here"] []
  f_l_least : Addr
  d_l_least : FuncData
  g_l_least : mg "_law_least" = some (.ref f_l_least)
  F_l_least : Fun K "_law_least" "_law_least" s_l_least f_l_least d_l_least
  b_l_least : Binds K d_l_least ["_law_codes_here", "_law_loads", "_law_room_here"] []
  f_l_mended : Addr
  d_l_mended : FuncData
  g_l_mended : mg "_law_mended" = some (.ref f_l_mended)
  F_l_mended : Fun K "_law_mended" "_law_mended" s_l_mended f_l_mended d_l_mended
  b_l_mended : Binds K d_l_mended ["_law_book", "_law_room_here", "_law_weights_here"] []
  f_l_good : Addr
  d_l_good : FuncData
  g_l_good : mg "_law_good" = some (.ref f_l_good)
  F_l_good : Fun K "_law_good" "_law_good" s_l_good f_l_good d_l_good
  b_l_good : Binds K d_l_good ["_law_mending", "_law_domain", "_law_pairs", "_law_loads", "_law_room_here"] []
  f_law : Addr
  d_law : FuncData
  g_law : mg "law" = some (.ref f_law)
  F_law : Fun K "law" "law" s_law f_law d_law
  b_law : Binds K d_law ["_law_script"] []
  n_abs : mg "abs" = none
  n_all : mg "all" = none
  n_bool : mg "bool" = none
  n_dict : mg "dict" = none
  n_enumerate : mg "enumerate" = none
  n_int : mg "int" = none
  n_isinstance : mg "isinstance" = none
  n_len : mg "len" = none
  n_list : mg "list" = none
  n_max : mg "max" = none
  n_min : mg "min" = none
  n_range : mg "range" = none
  n_reversed : mg "reversed" = none
  n_set : mg "set" = none
  n_sorted : mg "sorted" = none
  n_str : mg "str" = none
  n_sum : mg "sum" = none
  n_tuple : mg "tuple" = none
  n_zip : mg "zip" = none
  a_DOMAINS : Addr
  c_DOMAINS : mg "DOMAINS" = some (.ref a_DOMAINS)
  l_DOMAINS : SqT K (fun _ => none) a_DOMAINS [.str "number", .str "word"]
  r_DOMAINS : ∀ z F, RpAll ⟨K, z⟩ F [.str "number", .str "word"] [.str "number", .str "word"]
  t_GREATEST : Tok
  c_GREATEST : mg "GREATEST" = some (.int (999999999) t_GREATEST)
  t_LEAST : Tok
  c_LEAST : mg "LEAST" = some (.int (-999999999) t_LEAST)
  t_LETTERS : Tok
  c_LETTERS : mg "LETTERS" = some (.str "abcdefghijklmnopqrstuvwxyz" t_LETTERS)
  t_LONGEST : Tok
  c_LONGEST : mg "LONGEST" = some (.int (8) t_LONGEST)
  t_MOST_CODE : Tok
  c_MOST_CODE : mg "MOST_CODE" = some (.int (9999999) t_MOST_CODE)
  t_MOST_ROOM : Tok
  c_MOST_ROOM : mg "MOST_ROOM" = some (.int (1000000) t_MOST_ROOM)
  co_MOST : ConOk K "MOST" mc_MOST
  cl_Book : Cls K (ctOf K "Book")
  gK_Book : mg "Book" = some (.ref (ctOf K "Book"))
  mk_Book : Mk K (ctOf K "Book") f_Book___init__
  p_Book_strays : Addr
  pr_Book_strays : PropOf K (ctOf K "Book") "strays" p_Book_strays f_Book_strays
  me_Book___contains__ : Meth K (ctOf K "Book") "__contains__" f_Book___contains__
  me_Book_code_of : Meth K (ctOf K "Book") "code_of" f_Book_code_of
  cl_Mending : Cls K (ctOf K "Mending")
  gK_Mending : mg "Mending" = some (.ref (ctOf K "Mending"))
  mk_Mending : Mk K (ctOf K "Mending") f_Mending___init__
  ft : FtOk K exFt
  ct : Nat → Addr
  gC_0 : mg "ColonnadeError" = some (.ref (ct 0))
  gC_1 : mg "NoRelation" = some (.ref (ct 1))
  gC_2 : mg "BadValue" = some (.ref (ct 2))
  gC_3 : mg "BadDomain" = some (.ref (ct 3))
  gC_4 : mg "BadRoom" = some (.ref (ct 4))
  gC_5 : mg "BadCode" = some (.ref (ct 5))
  gC_6 : mg "Twice" = some (.ref (ct 6))
  gC_7 : mg "Full" = some (.ref (ct 7))
  gC_8 : mg "BadBook" = some (.ref (ct 8))
  gC_9 : mg "NoValue" = some (.ref (ct 9))
  gC_10 : mg "NoRoom" = some (.ref (ct 10))
  fI_1 : Addr
  dI_1 : FuncData
  FI_1 : Fun K "__init__" "NoRelation.__init__" sI_1 fI_1 dI_1
  bi_1 : Binds K dI_1 ["self", "name"] []
  e_1 : ErrC K mg "NoRelation" (ct 1) fI_1
  nf_1_name : PySem.W.findIn K (.ref (ct 1)) "name" = some none
  fI_2 : Addr
  dI_2 : FuncData
  FI_2 : Fun K "__init__" "BadValue.__init__" sI_2 fI_2 dI_2
  bi_2 : Binds K dI_2 ["self", "value"] []
  e_2 : ErrC K mg "BadValue" (ct 2) fI_2
  nf_2_value : PySem.W.findIn K (.ref (ct 2)) "value" = some none
  fI_3 : Addr
  dI_3 : FuncData
  FI_3 : Fun K "__init__" "BadDomain.__init__" sI_3 fI_3 dI_3
  bi_3 : Binds K dI_3 ["self", "domain"] []
  e_3 : ErrC K mg "BadDomain" (ct 3) fI_3
  nf_3_domain : PySem.W.findIn K (.ref (ct 3)) "domain" = some none
  fI_4 : Addr
  dI_4 : FuncData
  FI_4 : Fun K "__init__" "BadRoom.__init__" sI_4 fI_4 dI_4
  bi_4 : Binds K dI_4 ["self", "room"] []
  e_4 : ErrC K mg "BadRoom" (ct 4) fI_4
  nf_4_room : PySem.W.findIn K (.ref (ct 4)) "room" = some none
  fI_5 : Addr
  dI_5 : FuncData
  FI_5 : Fun K "__init__" "BadCode.__init__" sI_5 fI_5 dI_5
  bi_5 : Binds K dI_5 ["self", "code"] []
  e_5 : ErrC K mg "BadCode" (ct 5) fI_5
  nf_5_code : PySem.W.findIn K (.ref (ct 5)) "code" = some none
  fI_6 : Addr
  dI_6 : FuncData
  FI_6 : Fun K "__init__" "Twice.__init__" sI_6 fI_6 dI_6
  bi_6 : Binds K dI_6 ["self", "name"] []
  e_6 : ErrC K mg "Twice" (ct 6) fI_6
  nf_6_name : PySem.W.findIn K (.ref (ct 6)) "name" = some none
  fI_7 : Addr
  dI_7 : FuncData
  FI_7 : Fun K "__init__" "Full.__init__" sI_7 fI_7 dI_7
  bi_7 : Binds K dI_7 ["self", "value"] []
  e_7 : ErrC K mg "Full" (ct 7) fI_7
  nf_7_value : PySem.W.findIn K (.ref (ct 7)) "value" = some none
  fI_8 : Addr
  dI_8 : FuncData
  FI_8 : Fun K "__init__" "BadBook.__init__" sI_8 fI_8 dI_8
  bi_8 : Binds K dI_8 ["self", "value"] []
  e_8 : ErrC K mg "BadBook" (ct 8) fI_8
  nf_8_value : PySem.W.findIn K (.ref (ct 8)) "value" = some none
  fI_9 : Addr
  dI_9 : FuncData
  FI_9 : Fun K "__init__" "NoValue.__init__" sI_9 fI_9 dI_9
  bi_9 : Binds K dI_9 ["self", "value"] []
  e_9 : ErrC K mg "NoValue" (ct 9) fI_9
  nf_9_value : PySem.W.findIn K (.ref (ct 9)) "value" = some none
  fI_10 : Addr
  dI_10 : FuncData
  FI_10 : Fun K "__init__" "NoRoom.__init__" sI_10 fI_10 dI_10
  bi_10 : Binds K dI_10 ["self", "room"] []
  e_10 : ErrC K mg "NoRoom" (ct 10) fI_10
  nf_10_room : PySem.W.findIn K (.ref (ct 10)) "room" = some none
  hrd : ∀ (n : Nat) (f : Str), exRd n f = true → XfC K (ct n) ∧ PySem.W.findIn K (.ref (ct n)) f = some none
  hkit : ∀ (n t : Nat) (b : Bool), exKit n t = some b → ExcC K (ct n) ∧ PySem.W.kitOne K (.ref (ct n)) (.ref (ct t)) = some b
  hsub_0 : ∀ (n : Nat) (b : Bool), exSub_0 n = some b → PySem.W.exmOne K (.ref (ct n)) (.ref (ct 0)) = some b
  hsub_1 : ∀ (n : Nat) (b : Bool), exSub_1 n = some b → PySem.W.exmOne K (.ref (ct n)) (.ref (ct 1)) = some b
  hsub_2 : ∀ (n : Nat) (b : Bool), exSub_2 n = some b → PySem.W.exmOne K (.ref (ct n)) (.ref (ct 2)) = some b
  hsub_3 : ∀ (n : Nat) (b : Bool), exSub_3 n = some b → PySem.W.exmOne K (.ref (ct n)) (.ref (ct 3)) = some b
  hsub_4 : ∀ (n : Nat) (b : Bool), exSub_4 n = some b → PySem.W.exmOne K (.ref (ct n)) (.ref (ct 4)) = some b
  hsub_5 : ∀ (n : Nat) (b : Bool), exSub_5 n = some b → PySem.W.exmOne K (.ref (ct n)) (.ref (ct 5)) = some b
  hsub_6 : ∀ (n : Nat) (b : Bool), exSub_6 n = some b → PySem.W.exmOne K (.ref (ct n)) (.ref (ct 6)) = some b
  hsub_7 : ∀ (n : Nat) (b : Bool), exSub_7 n = some b → PySem.W.exmOne K (.ref (ct n)) (.ref (ct 7)) = some b
  hsub_8 : ∀ (n : Nat) (b : Bool), exSub_8 n = some b → PySem.W.exmOne K (.ref (ct n)) (.ref (ct 8)) = some b
  hsub_9 : ∀ (n : Nat) (b : Bool), exSub_9 n = some b → PySem.W.exmOne K (.ref (ct n)) (.ref (ct 9)) = some b
  hsub_10 : ∀ (n : Nat) (b : Bool), exSub_10 n = some b → PySem.W.exmOne K (.ref (ct n)) (.ref (ct 10)) = some b
section
variable {P : Program} {w : World} {K : PySem.W.Frag} {mg : Str → Option Value} {base : Heap}
theorem oki_1 (T : Txt K mg) : FnOk P w K mg base CX0 1 T.fI_1 T.dI_1 ["self", "name"] (spI1 K "name") :=
  T.FI_1.ok scI_1 (fun vs H Q E h => init1_len h) fun cdv A outer s H vs Q E hr h => ⟨_, pss_one (ps_ost (pv 0) (pv 1)), init1 h⟩
theorem oki_2 (T : Txt K mg) : FnOk P w K mg base CX0 1 T.fI_2 T.dI_2 ["self", "value"] (spI1 K "value") :=
  T.FI_2.ok scI_2 (fun vs H Q E h => init1_len h) fun cdv A outer s H vs Q E hr h => ⟨_, pss_one (ps_ost (pv 0) (pv 1)), init1 h⟩
theorem oki_3 (T : Txt K mg) : FnOk P w K mg base CX0 1 T.fI_3 T.dI_3 ["self", "domain"] (spI1 K "domain") :=
  T.FI_3.ok scI_3 (fun vs H Q E h => init1_len h) fun cdv A outer s H vs Q E hr h => ⟨_, pss_one (ps_ost (pv 0) (pv 1)), init1 h⟩
theorem oki_4 (T : Txt K mg) : FnOk P w K mg base CX0 1 T.fI_4 T.dI_4 ["self", "room"] (spI1 K "room") :=
  T.FI_4.ok scI_4 (fun vs H Q E h => init1_len h) fun cdv A outer s H vs Q E hr h => ⟨_, pss_one (ps_ost (pv 0) (pv 1)), init1 h⟩
theorem oki_5 (T : Txt K mg) : FnOk P w K mg base CX0 1 T.fI_5 T.dI_5 ["self", "code"] (spI1 K "code") :=
  T.FI_5.ok scI_5 (fun vs H Q E h => init1_len h) fun cdv A outer s H vs Q E hr h => ⟨_, pss_one (ps_ost (pv 0) (pv 1)), init1 h⟩
theorem oki_6 (T : Txt K mg) : FnOk P w K mg base CX0 1 T.fI_6 T.dI_6 ["self", "name"] (spI1 K "name") :=
  T.FI_6.ok scI_6 (fun vs H Q E h => init1_len h) fun cdv A outer s H vs Q E hr h => ⟨_, pss_one (ps_ost (pv 0) (pv 1)), init1 h⟩
theorem oki_7 (T : Txt K mg) : FnOk P w K mg base CX0 1 T.fI_7 T.dI_7 ["self", "value"] (spI1 K "value") :=
  T.FI_7.ok scI_7 (fun vs H Q E h => init1_len h) fun cdv A outer s H vs Q E hr h => ⟨_, pss_one (ps_ost (pv 0) (pv 1)), init1 h⟩
theorem oki_8 (T : Txt K mg) : FnOk P w K mg base CX0 1 T.fI_8 T.dI_8 ["self", "value"] (spI1 K "value") :=
  T.FI_8.ok scI_8 (fun vs H Q E h => init1_len h) fun cdv A outer s H vs Q E hr h => ⟨_, pss_one (ps_ost (pv 0) (pv 1)), init1 h⟩
theorem oki_9 (T : Txt K mg) : FnOk P w K mg base CX0 1 T.fI_9 T.dI_9 ["self", "value"] (spI1 K "value") :=
  T.FI_9.ok scI_9 (fun vs H Q E h => init1_len h) fun cdv A outer s H vs Q E hr h => ⟨_, pss_one (ps_ost (pv 0) (pv 1)), init1 h⟩
theorem oki_10 (T : Txt K mg) : FnOk P w K mg base CX0 1 T.fI_10 T.dI_10 ["self", "room"] (spI1 K "room") :=
  T.FI_10.ok scI_10 (fun vs H Q E h => init1_len h) fun cdv A outer s H vs Q E hr h => ⟨_, pss_one (ps_ost (pv 0) (pv 1)), init1 h⟩
theorem ok_in_order (T : Txt K mg) : FnOk P w K mg base CX0 1 T.f_in_order T.d_in_order ["ordered"] (spOf K 1 fs_in_order) := by
  exact fn_ok (ds := ds_in_order) T.F_in_order sc_in_order rfl (by decide) (fun B cdv A outer s H E hr => ⟨_, by exact (ss_one (s_ret (x_cb (cr_all rfl) cd_all T.n_all (xa_cons (x_lc [("value", 1), ("code", 2), ("above", 3), ("other", 4)] rfl sc_in_order.nd (i_zip T.n_zip (xa_cons (xvV 0) (xa_cons (x_sl sl_list sd_list (xv 0) (xo_some x_int) xo_none) xa_nil))) (blkOk_by (N := N_in_order) (sc := defScope s_in_order) (by decide +kernel)) (fun _ _ _ _ _ _ => by exact (g_tupC K rfl rfl (gs_cons (g_tupC K rfl rfl (gs_cons (g_name 1 sc_in_order.nd) (gs_cons (g_name 2 sc_in_order.nd) gs_nil))) (gs_cons (g_tupC K rfl rfl (gs_cons (g_name 3 sc_in_order.nd) (gs_cons (g_name 4 sc_in_order.nd) gs_nil))) gs_nil)))) (fun _ _ _ _ _ _ => by exact ts_nil) (fun _ _ _ _ _ _ => by exact (x_or (x_and (x_cmp op_ltV (od_ltV (K := K)) (xv 1) (xv 3)) (x_one (x_cmp op_lt (od_lt (K := K)) (xv 2) (xv 4)))) (x_one (x_and (x_cmp op_eq (od_eq (K := K)) (xv 1) (xv 3)) (x_one (x_cmp op_eq (od_eq (K := K)) (xv 2) (xv 4))))))) (by decide)) xa_nil))))⟩) pure_in_order
theorem ok_told_by_first (T : Txt K mg) : FnOk P w K mg base CX0 1 T.f_told_by_first T.d_told_by_first ["ordered"] (spOf K 1 fs_told_by_first) := by
  exact fn_ok (ds := ds_told_by_first) T.F_told_by_first sc_told_by_first rfl (by decide) (fun B cdv A outer s H E hr => ⟨_, by exact (ss_one (s_ret (x_cb (cr_all rfl) cd_all T.n_all (xa_cons (x_lc [("pair", 1), ("other", 2)] rfl sc_told_by_first.nd (i_zip T.n_zip (xa_cons (xvV 0) (xa_cons (x_sl sl_list sd_list (xv 0) (xo_some x_int) xo_none) xa_nil))) (blkOk_by (N := N_told_by_first) (sc := defScope s_told_by_first) (by decide +kernel)) (fun _ _ _ _ _ _ => by exact (g_tupC K rfl rfl (gs_cons (g_name 1 sc_told_by_first.nd) (gs_cons (g_name 2 sc_told_by_first.nd) gs_nil)))) (fun _ _ _ _ _ _ => by exact ts_nil) (fun _ _ _ _ _ _ => by exact (x_or (x_cmp (op_eqD hr.units) (od_eqD (K := K)) (xv 1) (xv 2)) (x_one (x_cmp op_ne (od_ne (K := K)) (x_ix ix_tup (od_ixT (K := K)) (xv 1) x_int) (x_ix ix_tup (od_ixT (K := K)) (xv 2) x_int))))) (by decide)) xa_nil))))⟩) pure_told_by_first
theorem ok_is_word (T : Txt K mg) : FnOk P w K mg base CX0 1 T.f_is_word T.d_is_word ["text"] (spOf K 1 fs_is_word) := by
  exact fn_ok (ds := ds_is_word) T.F_is_word sc_is_word rfl (by decide) (fun B cdv A outer s H E hr => ⟨_, by exact (ss_one (s_ret (x_and (x_chain op_le op_le od_le od_le x_int (x_cb call_len_str cd_lenS T.n_len (xa_cons (xv 0) xa_nil)) (x_gint T.c_LONGEST)) (x_one (x_cb (cr_all rfl) cd_all T.n_all (xa_cons (x_lc [("letter", 1)] rfl sc_is_word.nd (i_str (xvV 0)) (blkOk_by (N := N_is_word) (sc := defScope s_is_word) (by decide +kernel)) (fun _ _ _ _ _ _ => by exact (g_name 1 sc_is_word.nd)) (fun _ _ _ _ _ _ => by exact ts_nil) (fun _ _ _ _ _ _ => by exact (x_cmp op_in_sign (od_inC (K := K)) (xv 1) (x_gstr T.c_LETTERS))) (by decide)) xa_nil))))))⟩) pure_is_word
theorem ok_is_code (T : Txt K mg) : FnOk P w K mg base CX0 1 T.f_is_code T.d_is_code ["code"] (spOf K 1 fs_is_code) := by
  exact fn_ok (ds := ds_is_code) T.F_is_code sc_is_code rfl (by decide) (fun B cdv A outer s H E hr => ⟨_, by exact (ss_one (s_ret (x_and (x_cb call_isi cd_isi T.n_isinstance (xa_cons (xv 0) (xa_cons (x_bty T.n_int) xa_nil))) (x_and (x_not (x_cb call_isi cd_isi T.n_isinstance (xa_cons (xv 0) (xa_cons (x_bty T.n_bool) xa_nil)))) (x_one (x_chain op_le op_le od_le od_le x_int (xv 0) (x_gint T.c_MOST_CODE)))))))⟩) pure_is_code
theorem ok_Book_strays (T : Txt K mg) : FnOk P w K mg base CX0 1 T.f_Book_strays T.d_Book_strays ["self"] (spOf K 1 fs_Book_strays) := by
  exact fn_ok (ds := ds_Book_strays) T.F_Book_strays sc_Book_strays rfl (by decide) (fun B cdv A outer s H E hr => ⟨_, by exact (ss_one (s_ret (x_ct call_tuple_of cd_tuple T.n_tuple (xa_cons (x_lc [("value", 1), ("code", 2)] rfl sc_Book_strays.nd (i_tup (x_fldK "entries" T.ft (xv 0))) (blkOk_by (N := N_Book_strays) (sc := defScope s_Book_strays) (by decide +kernel)) (fun _ _ _ _ _ _ => by exact (g_tupC K rfl rfl (gs_cons (g_name 1 sc_Book_strays.nd) (gs_cons (g_name 2 sc_Book_strays.nd) gs_nil)))) (fun _ _ _ _ _ _ => by exact (ts_one (t_cmp op_ge (od_ge (K := K)) (xv 2) (x_fldK "room" T.ft (xv 0))))) (fun _ _ _ _ _ _ => by exact (xvV 1)) (by decide)) xa_nil))))⟩) pure_Book_strays
theorem ok_leads (T : Txt K mg) : FnOk P w K mg base CX0 1 T.f_leads T.d_leads ["book"] (spOf K 1 fs_leads) := by
  exact fn_ok (ds := ds_leads) T.F_leads sc_leads rfl (by decide) (fun B cdv A outer s H E hr => ⟨_, by exact (ss_one (s_ret (x_lc [("rank", 1), ("_", 2), ("code", 3)] rfl sc_leads.nd (i_enT T.n_enumerate (xa_cons (x_fldK "entries" T.ft (xv 0)) xa_nil)) (blkOk_by (N := N_leads) (sc := defScope s_leads) (by decide +kernel)) (fun _ _ _ _ _ _ => by exact (g_tupC K rfl rfl (gs_cons (g_name 1 sc_leads.nd) (gs_cons (g_tupC K rfl rfl (gs_cons (g_name 2 sc_leads.nd) (gs_cons (g_name 3 sc_leads.nd) gs_nil))) gs_nil)))) (fun _ _ _ _ _ _ => by exact ts_nil) (fun _ _ _ _ _ _ => by exact (x_op op_sub (od_sub (K := K)) (xv 3) (xv 1))) (by decide))))⟩) pure_leads
theorem ok_Mending___init__ (T : Txt K mg) : FnOk P w K mg base CX0 1 T.f_Mending___init__ T.d_Mending___init__ ["self", "book", "cost", "kept", "chains"] (spOf K 5 fs_Mending___init__) := by
  exact fn_ok (ds := ds_Mending___init__) T.F_Mending___init__ sc_Mending___init__ rfl (by decide) (fun B cdv A outer s H E hr => ⟨_, by exact (ss_cons (s_setF 0 "book" T.ft (xvV 1))
      (ss_cons (s_setF 0 "cost" T.ft (xvV 2))
      (ss_cons (s_setF 0 "kept" T.ft (x_ct call_tuple_of cd_tuple T.n_tuple (xa_cons (xv 3) xa_nil)))
      (ss_one (s_setF 0 "chains" T.ft (x_ct call_tuple_of cd_tuple T.n_tuple (xa_cons (xv 4) xa_nil)))))))⟩) pure_Mending___init__
theorem ok_heights_of (T : Txt K mg) : FnOk P w K mg base CX0 1 T.f_heights_of T.d_heights_of ["found", "loads", "slack"] (spOf K 3 fs_heights_of) := by
  exact fn_ok (ds := ds_heights_of) T.F_heights_of sc_heights_of rfl (by decide) (fun B cdv A outer s H E hr => ⟨_, by exact (ss_cons (s_set 3 sc_heights_of.nd (x_lst xa_nil))
      (ss_cons (s_for PassesOwn.never rfl (i_enum T.n_enumerate (xa_cons (xvV 0) xa_nil)) (g_tup rfl (gs_cons (g_name 4 sc_heights_of.nd) (gs_cons (g_name 5 sc_heights_of.nd) gs_nil))) (ss_one (s_if (t_chain op_le op_le od_le od_le x_int (xv 5) (xv 2)) (ss_cons (s_setLcL 6 3 [("height", 7), ("other", 8)] rfl sc_heights_of.nd (fun B => by exact (i_zip T.n_zip (xa_cons (xvV 3) (xa_cons (xvV 0) xa_nil)))) (blkOk_by (N := N_heights_of) (sc := defScope s_heights_of) (by decide +kernel)) (fun _ _ _ _ _ _ => by exact (g_tupC K rfl rfl (gs_cons (g_name 7 sc_heights_of.nd) (gs_cons (g_name 8 sc_heights_of.nd) gs_nil)))) (fun _ _ _ _ _ _ => by exact (ts_one (t_w (w_and (t_cmp op_notN (od_notN (K := K)) (xv 7) x_non) (w_and1 (t_cmp op_le (od_le (K := K)) (xv 8) (xv 5))))))) (fun _ _ _ _ _ _ => by exact (xvV 7)) (by decide) (sw_true rfl rfl rfl (by decide +kernel)))
      (ss_one (s_expr (x_mut (fun h => pe_bm PySem.F.plainAttrs_list PySem.F.slot_list_append PySem.F.type_list_append mt_append (pv 3) h) md_append (xa_cons (x_op op_add od_add (x_ix ix_list od_ixL (xv 1) (xv 4)) (x_maxD (hu1 hr.units) T.n_max (xv 6) x_int)) xa_nil))))) (ss_one (s_expr (x_mut (fun h => pe_bm PySem.F.plainAttrs_list PySem.F.slot_list_append PySem.F.type_list_append mt_append (pv 3) h) md_append (xa_cons x_non xa_nil)))))))
      (ss_one (s_ret (xvM 3)))))⟩) pure_heights_of
theorem ok_kept_ranks (T : Txt K mg) : FnOk P w K mg base CX0 1 T.f_kept_ranks T.d_kept_ranks ["found", "loads", "heights"] (spOf K 3 fs_kept_ranks) := by
  exact fn_ok (ds := ds_kept_ranks) T.F_kept_ranks sc_kept_ranks rfl (by decide) (fun B cdv A outer s H E hr => ⟨_, by exact (ss_cons (s_set 3 sc_kept_ranks.nd (x_maxD (hu1 hr.units) T.n_max (x_lc [("height", 6)] rfl sc_kept_ranks.nd (i_list (xvV 2)) (blkOk_by (N := N_kept_ranks) (sc := defScope s_kept_ranks) (by decide +kernel)) (fun _ _ _ _ _ _ => by exact (g_name 6 sc_kept_ranks.nd)) (fun _ _ _ _ _ _ => by exact (ts_one (t_cmp op_notN (od_notN (K := K)) (xv 6) x_non))) (fun _ _ _ _ _ _ => by exact (xvV 6)) (by decide)) x_int))
      (ss_cons (s_set 4 sc_kept_ranks.nd (x_lst xa_nil))
      (ss_cons (s_for PassesOwn.never rfl (i_revR T.n_reversed T.n_range (x_cb call_len_seq cd_len T.n_len (xa_cons (xv 0) xa_nil))) (g_name 5 sc_kept_ranks.nd) (ss_one (s_if (t_w (w_and (t_cmp op_gt od_gt (xv 3) x_int) (w_and (t_cmp (op_eqD hr.units) od_eqD (x_ix ix_list od_ixL (xv 2) (xv 5)) (xv 3)) (w_and1 (t_cmp op_gt od_gt (x_ix ix_list od_ixL (xv 1) (xv 5)) x_int))))) (ss_one (s_if (t_w (w_or (t_not (t_tru (xv 4))) (w_or1 (t_cmp op_le od_le (x_ix ix_list od_ixL (xv 0) (xv 5)) (x_ix ix_list od_ixL (xv 0) (x_ix ix_list od_ixL (xv 4) (x_un un_neg ud_neg x_int))))))) (ss_cons (s_expr (x_mut (fun h => pe_bm PySem.F.plainAttrs_list PySem.F.slot_list_append PySem.F.type_list_append mt_append (pv 4) h) md_append (xa_cons (xvV 5) xa_nil)))
      (ss_one (s_set 3 sc_kept_ranks.nd (x_op op_sub od_sub (xv 3) (x_ix ix_list od_ixL (xv 1) (xv 5)))))) ss_nil)) ss_nil)))
      (ss_one (s_ret (x_revL (xv 4)))))))⟩) pure_kept_ranks
theorem ok_spread_leads (T : Txt K mg) : FnOk P w K mg base CX0 1 T.f_spread_leads T.d_spread_leads ["anchors"] (spOf K 1 fs_spread_leads) := by
  exact fn_ok (ds := ds_spread_leads) T.F_spread_leads sc_spread_leads rfl (by decide) (fun B cdv A outer s H E hr => ⟨_, by exact (ss_cons (s_set 1 sc_spread_leads.nd (x_lst xa_nil))
      (ss_cons (s_for PassesOwn.never rfl (i_zip T.n_zip (xa_cons (xvV 0) (xa_cons (x_sl sl_list sd_list (xv 0) (xo_some x_int) xo_none) xa_nil))) (g_tup rfl (gs_cons (g_tup rfl (gs_cons (g_name 3 sc_spread_leads.nd) (gs_cons (g_name 4 sc_spread_leads.nd) gs_nil))) (gs_cons (g_tup rfl (gs_cons (g_name 5 sc_spread_leads.nd) (gs_cons (g_name 6 sc_spread_leads.nd) gs_nil))) gs_nil))) (ss_one (s_for PassesOwn.never rfl (i_r2 T.n_range (xa_cons (x_op op_add od_add (xv 3) x_int) (xa_cons (x_op op_add od_add (xv 5) x_int) xa_nil))) (g_name 2 sc_spread_leads.nd) (ss_one (s_expr (x_mut (fun h => pe_bm PySem.F.plainAttrs_list PySem.F.slot_list_append PySem.F.type_list_append mt_append (pv 1) h) md_append (xa_cons (x_op op_add od_add (xv 4) (x_op op_fdiv od_fdiv (x_op op_mul od_mul (x_op op_sub od_sub (xv 6) (xv 4)) (x_op op_sub od_sub (xv 2) (xv 3))) (x_op op_sub od_sub (xv 5) (xv 3)))) xa_nil)))))))
      (ss_one (s_ret (x_sl sl_list sd_list (xv 1) xo_none (xo_some (x_un un_neg ud_neg x_int)))))))⟩) pure_spread_leads
theorem ok_clash_chains (T : Txt K mg) : FnOk P w K mg base CX0 1 T.f_clash_chains T.d_clash_chains ["values", "loads", "heights"] (spOf K 3 fs_clash_chains) := by
  exact fn_ok (ds := ds_clash_chains) T.F_clash_chains sc_clash_chains rfl (by decide) (fun B cdv A outer s H E hr => ⟨_, by exact (ss_cons (s_setLc 3 [("value", 9), ("load", 10), ("height", 11)] rfl sc_clash_chains.nd (i_zip3 T.n_zip (xa_cons (xvV 0) (xa_cons (xvV 1) (xa_cons (xvV 2) xa_nil)))) (blkOk_by (N := N_clash_chains) (sc := defScope s_clash_chains) (by decide +kernel)) (fun _ _ _ _ _ _ => by exact (g_tupC K rfl rfl (gs_cons (g_name 9 sc_clash_chains.nd) (gs_cons (g_name 10 sc_clash_chains.nd) (gs_cons (g_name 11 sc_clash_chains.nd) gs_nil))))) (fun _ _ _ _ _ _ => by exact (ts_one (t_w (w_and (t_cmp op_notN (od_notN (K := K)) (xv 11) x_non) (w_and1 (t_cmp op_gt (od_gt (K := K)) (xv 10) x_int)))))) (fun _ _ _ _ _ _ => by exact (x_tup (xa_cons (x_op op_sub (od_sub (K := K)) (xv 11) (xv 10)) (xa_cons (xvV 11) (xa_cons (xvV 9) xa_nil))))) (by decide) (sw_true rfl rfl rfl (by decide +kernel)))
      (ss_cons (s_set 4 sc_clash_chains.nd (x_sorSet T.n_sorted T.n_set (x_op op_cat od_cat (x_lc [("start", 12), ("_", 14)] rfl sc_clash_chains.nd (i_list (xvV 3)) (blkOk_by (N := N_clash_chains) (sc := defScope s_clash_chains) (by decide +kernel)) (fun _ _ _ _ _ _ => by exact (g_tupC K rfl rfl (gs_cons (g_name 12 sc_clash_chains.nd) (gs_cons (g_name 14 sc_clash_chains.nd) (gs_cons (g_name 14 sc_clash_chains.nd) gs_nil))))) (fun _ _ _ _ _ _ => by exact ts_nil) (fun _ _ _ _ _ _ => by exact (xvV 12)) (by decide)) (x_lc [("_", 14), ("end", 13)] rfl sc_clash_chains.nd (i_list (xvV 3)) (blkOk_by (N := N_clash_chains) (sc := defScope s_clash_chains) (by decide +kernel)) (fun _ _ _ _ _ _ => by exact (g_tupC K rfl rfl (gs_cons (g_name 14 sc_clash_chains.nd) (gs_cons (g_name 13 sc_clash_chains.nd) (gs_cons (g_name 14 sc_clash_chains.nd) gs_nil))))) (fun _ _ _ _ _ _ => by exact ts_nil) (fun _ _ _ _ _ _ => by exact (xvV 13)) (by decide)))))
      (ss_cons (s_set 5 sc_clash_chains.nd (x_lst xa_nil))
      (ss_cons (s_for PassesOwn.never rfl (i_zip T.n_zip (xa_cons (xvV 4) (xa_cons (x_sl sl_list sd_list (xv 4) (xo_some x_int) xo_none) xa_nil))) (g_tup rfl (gs_cons (g_name 6 sc_clash_chains.nd) (gs_cons (g_name 7 sc_clash_chains.nd) gs_nil))) (ss_cons (s_setLc 8 [("start", 12), ("end", 13), ("value", 9)] rfl sc_clash_chains.nd (i_list (xvV 3)) (blkOk_by (N := N_clash_chains) (sc := defScope s_clash_chains) (by decide +kernel)) (fun _ _ _ _ _ _ => by exact (g_tupC K rfl rfl (gs_cons (g_name 12 sc_clash_chains.nd) (gs_cons (g_name 13 sc_clash_chains.nd) (gs_cons (g_name 9 sc_clash_chains.nd) gs_nil))))) (fun _ _ _ _ _ _ => by exact (ts_one (t_w (w_and (t_cmp op_le (od_le (K := K)) (xv 12) (xv 6)) (w_and1 (t_cmp op_le (od_le (K := K)) (xv 7) (xv 13))))))) (fun _ _ _ _ _ _ => by exact (xvV 9)) (by decide) (sw_true rfl rfl rfl (by decide +kernel)))
      (ss_one (s_expr (x_mut (fun h => pe_bm PySem.F.plainAttrs_list PySem.F.slot_list_append PySem.F.type_list_append mt_append (pv 5) h) md_append (xa_cons (x_tup (xa_cons (x_op op_sub od_sub (xv 7) (xv 6)) (xa_cons (x_ct call_tuple_of cd_tuple T.n_tuple (xa_cons (xv 8) xa_nil)) xa_nil))) xa_nil))))))
      (ss_one (s_ret (xvM 5)))))))⟩) pure_clash_chains
theorem ok_l_take (T : Txt K mg) : FnOk P w K mg base CX0 1 T.f_l_take T.d_l_take ["_law_pool", "_law_many"] (spOf K 2 fs_l_take) := by
  exact fn_ok (ds := ds_l_take) T.F_l_take sc_l_take rfl (by decide) (fun B cdv A outer s H E hr => ⟨_, by exact (ss_cons (s_if (t_w (w_and (t_cmp op_eq od_eq (x_ix ix_list od_ixL (xv 0) x_int) x_int) (w_and1 (t_cmp op_gt od_gt (x_cb call_len_seq cd_len T.n_len (xa_cons (xv 0) xa_nil)) x_int)))) (ss_one (s_setI 0 (x_mut (fun h => pe_bm PySem.F.plainAttrs_list PySem.F.slot_list_pop PySem.F.type_list_pop mt_popAt (pv 0) h) md_popAt (xa_cons x_int xa_nil)) x_int)) ss_nil)
      (ss_cons (s_set 2 sc_l_take.nd (x_op op_mod od_mod (x_ct call_int1 cd_int T.n_int (xa_cons (x_ix ix_list od_ixL (xv 0) x_int) xa_nil)) (xv 1)))
      (ss_cons (s_setI 0 (x_op op_fdivW od_fdivW (x_ix ix_list od_ixL (xv 0) x_int) (xv 1)) x_int)
      (ss_one (s_ret (xvM 2))))))⟩) pure_l_take
theorem ok_l_whole (T : Txt K mg) : FnOk P w K mg base CX0 1 T.f_l_whole T.d_l_whole ["_law_thing"] (spOf K 1 fs_l_whole) := by
  exact fn_ok (ds := ds_l_whole) T.F_l_whole sc_l_whole rfl (by decide) (fun B cdv A outer s H E hr => ⟨_, by exact (ss_one (s_ret (x_and (x_cb call_isi cd_isi T.n_isinstance (xa_cons (xv 0) (xa_cons (x_bty T.n_int) xa_nil))) (x_one (x_not (x_cb call_isi cd_isi T.n_isinstance (xa_cons (xv 0) (xa_cons (x_bty T.n_bool) xa_nil))))))))⟩) pure_l_whole
theorem okH_l_whole (T : Txt K mg) : L2H.FnH P w K mg base CX0 1 T.f_l_whole T.d_l_whole ["_law_thing"] (spOf K 1 fs_l_whole) := by
  exact fn_okH (ds := ds_l_whole) T.F_l_whole sc_l_whole rfl (by decide) (fun B cdv A outer s H E pp hot hr => ⟨_, by exact (ss_one (s_ret (x_and (x_cb call_isi cd_isi T.n_isinstance (xa_cons (xv 0) (xa_cons (x_bty T.n_int) xa_nil))) (x_one (x_not (x_cb call_isi cd_isi T.n_isinstance (xa_cons (xv 0) (xa_cons (x_bty T.n_bool) xa_nil))))))))⟩) pure_l_whole
theorem ok_l_words (T : Txt K mg) : FnOk P w K mg base CX0 1 T.f_l_words T.d_l_words [] (spOf K 0 fs_l_words) := by
  exact fn_ok (ds := ds_l_words) T.F_l_words sc_l_words rfl (by decide) (fun B cdv A outer s H E hr => ⟨_, by exact (ss_cons (s_set 0 sc_l_words.nd (x_lst (xa_cons x_str (xa_cons x_str (xa_cons x_str (xa_cons x_str (xa_cons x_str (xa_cons x_str (xa_cons x_str (xa_cons x_str (xa_cons x_str (xa_cons x_str (xa_cons x_str (xa_cons x_str (xa_cons x_str (xa_cons x_str xa_nil))))))))))))))))
      (ss_one (s_ret (x_op op_cat od_cat (xv 0) (x_lst (xa_cons x_str (xa_cons x_str (xa_cons x_str (xa_cons x_str (xa_cons x_str (xa_cons x_str xa_nil)))))))))))⟩) pure_l_words
theorem ok_l_subsets (T : Txt K mg) : FnOk P w K mg base CX0 1 T.f_l_subsets T.d_l_subsets ["_law_many"] (spOf K 1 fs_l_subsets) := by
  exact fn_ok (ds := ds_l_subsets) T.F_l_subsets sc_l_subsets rfl (by decide) (fun B cdv A outer s H E hr => ⟨_, by exact (ss_cons (s_set 1 sc_l_subsets.nd (x_lst (xa_cons (x_lst xa_nil) xa_nil)))
      (ss_cons (s_for PassesOwn.never rfl (i_r1 T.n_range (xa_cons (xvV 0) xa_nil)) (g_name 2 sc_l_subsets.nd) (ss_one (s_set 1 sc_l_subsets.nd (x_op op_cat od_cat (xvV 1) (x_lc [("_law_row", 3)] rfl sc_l_subsets.nd (i_list (xvV 1)) (blkOk_by (N := N_l_subsets) (sc := defScope s_l_subsets) (by decide +kernel)) (fun _ _ _ _ _ _ => by exact (g_name 3 sc_l_subsets.nd)) (fun _ _ _ _ _ _ => by exact ts_nil) (fun _ _ _ _ _ _ => by exact (x_op op_cat (od_cat (K := K)) (xv 3) (x_lst (xa_cons (xvV 2) xa_nil)))) (by decide))))))
      (ss_one (s_ret (xvM 1)))))⟩) pure_l_subsets
theorem ok_l_can (T : Txt K mg) : FnOk P w K mg base CX0 1 T.f_l_can T.d_l_can ["_law_codes_here", "_law_keep", "_law_room_here"] (spOf K 3 fs_l_can) := by
  exact fn_ok (ds := ds_l_can) T.F_l_can sc_l_can rfl (by decide) (fun B cdv A outer s H E hr => ⟨_, by exact (ss_cons (s_set 3 sc_l_can.nd (x_un un_neg ud_neg x_int))
      (ss_cons (s_for PassesOwn.never rfl (i_r1 T.n_range (xa_cons (x_cb call_len_seq cd_len T.n_len (xa_cons (xv 0) xa_nil)) xa_nil)) (g_name 4 sc_l_can.nd) (ss_cons (s_set 5 sc_l_can.nd (x_op op_add od_add (xv 3) x_int))
      (ss_cons (s_if (t_cmp op_in_seq od_inQ (xv 4) (xv 1)) (ss_one (s_set 5 sc_l_can.nd (x_ix ix_list od_ixL (xv 0) (xv 4)))) ss_nil)
      (ss_cons (s_if (t_cmp op_le od_le (xv 5) (xv 3)) (ss_one (s_ret x_bl)) ss_nil)
      (ss_one (s_set 3 sc_l_can.nd (xvV 5)))))))
      (ss_one (s_ret (x_cmp op_lt od_lt (xv 3) (xv 2))))))⟩) pure_l_can
theorem ok_kept_by (T : Txt K mg) : FnOk P w K mg base CX0 2 T.f_kept_by T.d_kept_by ["pairs"] (spOf K 1 fs_kept_by) := by
  have G_in_order := ok_in_order (P := P) (w := w) (base := base) T
  have G_told_by_first := ok_told_by_first (P := P) (w := w) (base := base) T
  exact fn_ok (ds := ds_kept_by) T.F_kept_by sc_kept_by rfl (by decide) (fun B cdv A outer s H E hr => ⟨_, by exact (ss_cons (s_set 1 sc_kept_by.nd (x_cb (cr_sortedD hr.units) cd_sorted T.n_sorted (xa_cons (x_lc [("value", 3), ("code", 4)] rfl sc_kept_by.nd (i_list (xvV 0)) (blkOk_by (N := N_kept_by) (sc := defScope s_kept_by) (by decide +kernel)) (fun _ _ _ _ _ _ => by exact (g_tupC K rfl rfl (gs_cons (g_name 3 sc_kept_by.nd) (gs_cons (g_name 4 sc_kept_by.nd) gs_nil)))) (fun _ _ _ _ _ _ => by exact ts_nil) (fun _ _ _ _ _ _ => by exact (x_tup (xa_cons (xvV 3) (xa_cons (xvV 4) xa_nil)))) (by decide)) xa_nil)))
      (ss_cons (s_if (t_not (t_tru (xv 1))) (ss_one (s_ret x_str)) ss_nil)
      (ss_cons (s_if (t_val (x_cb call_isi cd_isi T.n_isinstance (xa_cons (x_ix ix_tup od_ixT (x_ix ix_list od_ixL (xv 1) x_int) x_int) (xa_cons (x_bty T.n_int) xa_nil)))) (ss_cons (s_setLc 2 [("value", 3), ("code", 4)] rfl sc_kept_by.nd (i_list (xvV 1)) (blkOk_by (N := N_kept_by) (sc := defScope s_kept_by) (by decide +kernel)) (fun _ _ _ _ _ _ => by exact (g_tupC K rfl rfl (gs_cons (g_name 3 sc_kept_by.nd) (gs_cons (g_name 4 sc_kept_by.nd) gs_nil)))) (fun _ _ _ _ _ _ => by exact ts_nil) (fun _ _ _ _ _ _ => by exact (x_op op_sub (od_sub (K := K)) (xv 4) (xv 3))) (by decide) (sw_true rfl rfl rfl (by decide +kernel)))
      (ss_one (s_if (t_cmp op_eq od_eq (x_cb (cr_min rfl) cd_min T.n_min (xa_cons (xv 2) xa_nil)) (x_cb (cr_max rfl) cd_max T.n_max (xa_cons (xv 2) xa_nil))) (ss_one (s_ret (x_if (t_cmp op_eq od_eq (x_ix ix_list od_ixL (xv 2) x_int) x_int) x_str x_str))) ss_nil))) ss_nil)
      (ss_cons (s_if (t_val (x_callL K rfl G_in_order (hr.mono (by decide)) T.g_in_order T.F_in_order.kp T.b_in_order (xa_cons (xv 1) xa_nil))) (ss_one (s_ret x_str)) ss_nil)
      (ss_cons (s_if (t_w (w_and (t_val (x_callL K rfl G_told_by_first (hr.mono (by decide)) T.g_told_by_first T.F_told_by_first.kp T.b_told_by_first (xa_cons (xv 1) xa_nil))) (w_and1 (t_val (x_callL K rfl G_told_by_first (hr.mono (by decide)) T.g_told_by_first T.F_told_by_first.kp T.b_told_by_first (xa_cons (x_cb (cr_sortedD hr.units) cd_sorted T.n_sorted (xa_cons (x_lc [("value", 3), ("code", 4)] rfl sc_kept_by.nd (i_list (xvV 1)) (blkOk_by (N := N_kept_by) (sc := defScope s_kept_by) (by decide +kernel)) (fun _ _ _ _ _ _ => by exact (g_tupC K rfl rfl (gs_cons (g_name 3 sc_kept_by.nd) (gs_cons (g_name 4 sc_kept_by.nd) gs_nil)))) (fun _ _ _ _ _ _ => by exact ts_nil) (fun _ _ _ _ _ _ => by exact (x_tup (xa_cons (xvV 4) (xa_cons (xvV 3) xa_nil)))) (by decide)) xa_nil)) xa_nil)))))) (ss_one (s_ret x_str)) ss_nil)
      (ss_one (s_ret x_str)))))))⟩) pure_kept_by
theorem ok_is_value (T : Txt K mg) : FnOk P w K mg base CX0 2 T.f_is_value T.d_is_value ["domain", "value"] (spOf K 2 fs_is_value) := by
  have G_is_word := ok_is_word (P := P) (w := w) (base := base) T
  exact fn_ok (ds := ds_is_value) T.F_is_value sc_is_value rfl (by decide) (fun B cdv A outer s H E hr => ⟨_, by exact (ss_cons (s_if (t_cmp op_eq od_eq (xv 0) x_str) (ss_one (s_ret (x_and (x_cb call_isi cd_isi T.n_isinstance (xa_cons (xv 1) (xa_cons (x_bty T.n_int) xa_nil))) (x_and (x_not (x_cb call_isi cd_isi T.n_isinstance (xa_cons (xv 1) (xa_cons (x_bty T.n_bool) xa_nil)))) (x_one (x_chain op_leV op_leV od_leV od_leV (x_gint T.c_LEAST) (xv 1) (x_gint T.c_GREATEST))))))) ss_nil)
      (ss_one (s_ret (x_and (x_cmp op_eq od_eq (xv 0) x_str) (x_and (x_cb call_isi cd_isi T.n_isinstance (xa_cons (xv 1) (xa_cons (x_bty T.n_str) xa_nil))) (x_one (x_call G_is_word (hr.mono (by decide)) T.g_is_word T.F_is_word.kp T.b_is_word (xa_cons (xvV 1) xa_nil))))))))⟩) pure_is_value
theorem ok_l_room (T : Txt K mg) : FnOk P w K mg base CX0 2 T.f_l_room T.d_l_room ["_law_pool"] (spOf K 1 fs_l_room) := by
  have G_l_take := ok_l_take (P := P) (w := w) (base := base) T
  exact fn_ok (ds := ds_l_room) T.F_l_room sc_l_room rfl (by decide) (fun B cdv A outer s H E hr => ⟨_, by exact (ss_cons (s_set 1 sc_l_room.nd (x_call G_l_take (hr.mono (by decide)) T.g_l_take T.F_l_take.kp T.b_l_take (xa_cons (xv 0) (xa_cons x_int xa_nil))))
      (ss_cons (s_if (t_cmp op_eq od_eq (xv 1) x_int) (ss_one (s_ret (x_op op_add od_add x_int (x_call G_l_take (hr.mono (by decide)) T.g_l_take T.F_l_take.kp T.b_l_take (xa_cons (xv 0) (xa_cons x_int xa_nil)))))) ss_nil)
      (ss_cons (s_if (t_cmp op_eq od_eq (xv 1) x_int) (ss_one (s_ret (x_op op_add od_add x_int (x_call G_l_take (hr.mono (by decide)) T.g_l_take T.F_l_take.kp T.b_l_take (xa_cons (xv 0) (xa_cons x_int xa_nil)))))) ss_nil)
      (ss_one (s_ret x_int)))))⟩) pure_l_room
theorem ok_l_codes (T : Txt K mg) : FnOk P w K mg base CX0 2 T.f_l_codes T.d_l_codes ["_law_pool", "_law_many", "_law_room_here"] (spOf K 3 fs_l_codes) := by
  have G_l_take := ok_l_take (P := P) (w := w) (base := base) T
  exact fn_ok (ds := ds_l_codes) T.F_l_codes sc_l_codes rfl (by decide) (fun B cdv A outer s H E hr => ⟨_, by exact (ss_cons (s_set 3 sc_l_codes.nd (x_listRg1 rfl T.n_list T.n_range (x_ix ix_list od_ixL (x_lst (xa_cons x_int (xa_cons x_int (xa_cons x_int (xa_cons x_int xa_nil))))) (x_call G_l_take (hr.mono (by decide)) T.g_l_take T.F_l_take.kp T.b_l_take (xa_cons (xv 0) (xa_cons x_int xa_nil))))))
      (ss_cons (s_set 4 sc_l_codes.nd (x_lst xa_nil))
      (ss_cons (s_for PassesOwn.never rfl (i_r1 T.n_range (xa_cons (xvV 1) xa_nil)) (g_name 5 sc_l_codes.nd) (ss_cons (s_set 7 sc_l_codes.nd (x_op op_mod od_mod (x_ct call_int1 cd_int T.n_int (xa_cons (x_op op_add od_add (x_call G_l_take (hr.mono (by decide)) T.g_l_take T.F_l_take.kp T.b_l_take (xa_cons (xv 0) (xa_cons (x_cb call_len_seq cd_len T.n_len (xa_cons (xv 3) xa_nil)) xa_nil))) (x_op op_mul od_mul x_int (xv 5))) xa_nil)) (x_cb call_len_seq cd_len T.n_len (xa_cons (xv 3) xa_nil))))
      (ss_one (s_expr (x_mut (fun h => pe_bm PySem.F.plainAttrs_list PySem.F.slot_list_append PySem.F.type_list_append mt_append (pv 4) h) md_append (xa_cons (x_op op_add od_add (x_mut (fun h => pe_bm PySem.F.plainAttrs_list PySem.F.slot_list_pop PySem.F.type_list_pop mt_popAt (pv 3) h) md_popAt (xa_cons (xvV 7) xa_nil)) (x_ix ix_list od_ixL (x_lst (xa_cons x_int (xa_cons x_int (xa_cons x_int (xa_cons x_int xa_nil))))) (x_call G_l_take (hr.mono (by decide)) T.g_l_take T.F_l_take.kp T.b_l_take (xa_cons (xv 0) (xa_cons x_int xa_nil))))) xa_nil))))))
      (ss_cons (s_set 6 sc_l_codes.nd (x_cb (cr_sortedD hr.units) cd_sorted T.n_sorted (xa_cons (x_lend 4 (fun B => by exact (x_lc [("_law_code", 8)] rfl sc_l_codes.nd (i_list (xvV 4)) (blkOk_by (N := N_l_codes) (sc := defScope s_l_codes) (by decide +kernel)) (fun _ _ _ _ _ _ => by exact (g_name 8 sc_l_codes.nd)) (fun _ _ _ _ _ _ => by exact (ts_one (t_cmp op_lt (od_lt (K := K)) (xv 8) (xv 2)))) (fun _ _ _ _ _ _ => by exact (xvV 8)) (by decide)))) xa_nil)))
      (ss_cons (s_for PassesOwn.never rfl (i_r1 T.n_range (xa_cons (xvV 1) xa_nil)) (g_name 5 sc_l_codes.nd) (ss_one (s_if (t_cmp op_lt od_lt (x_ix ix_list od_ixL (xv 4) (xv 5)) (xv 2)) (ss_one (s_setI 4 (x_mut (fun h => pe_bm PySem.F.plainAttrs_list PySem.F.slot_list_pop PySem.F.type_list_pop mt_popAt (pv 6) h) md_popAt (xa_cons x_int xa_nil)) (xv 5))) ss_nil)))
      (ss_one (s_ret (xvM 4))))))))⟩) pure_l_codes
theorem ok_l_values (T : Txt K mg) : FnOk P w K mg base CX0 2 T.f_l_values T.d_l_values ["_law_pool", "_law_domain", "_law_many"] (spOf K 3 fs_l_values) := by
  have G_l_take := ok_l_take (P := P) (w := w) (base := base) T
  have G_l_words := ok_l_words (P := P) (w := w) (base := base) T
  exact fn_ok (ds := ds_l_values) T.F_l_values sc_l_values rfl (by decide) (fun B cdv A outer s H E hr => ⟨_, by exact (ss_cons (s_set 3 sc_l_values.nd (x_ix ix_list od_ixL (x_lst (xa_cons (x_un un_neg ud_neg x_int) (xa_cons (x_un un_neg ud_neg x_int) (xa_cons x_int xa_nil)))) (x_call G_l_take (hr.mono (by decide)) T.g_l_take T.F_l_take.kp T.b_l_take (xa_cons (xv 0) (xa_cons x_int xa_nil)))))
      (ss_cons (s_set 4 sc_l_values.nd (x_call G_l_take (hr.mono (by decide)) T.g_l_take T.F_l_take.kp T.b_l_take (xa_cons (xv 0) (xa_cons x_int xa_nil))))
      (ss_cons (s_set 5 sc_l_values.nd (x_lst xa_nil))
      (ss_cons (s_for PassesOwn.never rfl (i_r1 T.n_range (xa_cons (xvV 2) xa_nil)) (g_name 6 sc_l_values.nd) (ss_one (s_if (t_cmp op_eq od_eq (xv 1) x_str) (ss_cons (s_expr (x_mut (fun h => pe_bm PySem.F.plainAttrs_list PySem.F.slot_list_append PySem.F.type_list_append mt_append (pv 5) h) md_append (xa_cons (x_ix ix_list od_ixL (x_call0 G_l_words (hr.mono (by decide)) T.g_l_words T.F_l_words.kp T.b_l_words) (xv 4)) xa_nil)))
      (ss_one (s_set 4 sc_l_values.nd (x_op op_add od_add (x_op op_add od_add (xv 4) x_int) (x_call G_l_take (hr.mono (by decide)) T.g_l_take T.F_l_take.kp T.b_l_take (xa_cons (xv 0) (xa_cons x_int xa_nil))))))) (ss_cons (s_expr (x_mut (fun h => pe_bm PySem.F.plainAttrs_list PySem.F.slot_list_append PySem.F.type_list_append mt_append (pv 5) h) md_append (xa_cons (x_op op_add od_add (xv 3) (xv 4)) xa_nil)))
      (ss_one (s_set 4 sc_l_values.nd (x_op op_add od_add (x_op op_add od_add (xv 4) x_int) (x_call G_l_take (hr.mono (by decide)) T.g_l_take T.F_l_take.kp T.b_l_take (xa_cons (xv 0) (xa_cons x_int xa_nil))))))))))
      (ss_one (s_ret (xvM 5)))))))⟩) pure_l_values
theorem ok_l_weights (T : Txt K mg) : FnOk P w K mg base CX0 2 T.f_l_weights T.d_l_weights ["_law_pool", "_law_values_here"] (spOf K 2 fs_l_weights) := by
  have G_l_take := ok_l_take (P := P) (w := w) (base := base) T
  exact fn_ok (ds := ds_l_weights) T.F_l_weights sc_l_weights rfl (by decide) (fun B cdv A outer s H E hr => ⟨_, by exact (ss_cons (s_set 2 sc_l_weights.nd x_dnew)
      (ss_cons (s_for PassesOwn.never rfl (i_r1 T.n_range (xa_cons (x_cb call_len_seq cd_len T.n_len (xa_cons (xv 1) xa_nil)) xa_nil)) (g_name 3 sc_l_weights.nd) (ss_cons (s_set 4 sc_l_weights.nd (x_call G_l_take (hr.mono (by decide)) T.g_l_take T.F_l_take.kp T.b_l_take (xa_cons (xv 0) (xa_cons x_int xa_nil))))
      (ss_one (s_if (t_cmp op_eq od_eq (xv 4) x_int) (ss_one (s_setK 2 (hu1 hr.units) (x_op op_sub od_sub x_int (x_call G_l_take (hr.mono (by decide)) T.g_l_take T.F_l_take.kp T.b_l_take (xa_cons (xv 0) (xa_cons x_int xa_nil)))) (x_ix ix_list od_ixL (xv 1) (xv 3)))) (ss_one (s_if (t_cmp op_ne od_ne (xv 4) x_int) (ss_one (s_setK 2 (hu1 hr.units) (x_op op_mod od_mod (x_ct call_int1 cd_int T.n_int (xa_cons (x_op op_add od_add (x_call G_l_take (hr.mono (by decide)) T.g_l_take T.F_l_take.kp T.b_l_take (xa_cons (xv 0) (xa_cons x_int xa_nil))) (x_op op_mul od_mul x_int (xv 3))) xa_nil)) x_int) (x_ix ix_list od_ixL (xv 1) (xv 3)))) ss_nil))))))
      (ss_one (s_ret (xvM 2)))))⟩) pure_l_weights
theorem ok_l_least (T : Txt K mg) : FnOk P w K mg base CX0 2 T.f_l_least T.d_l_least ["_law_codes_here", "_law_loads", "_law_room_here"] (spOf K 3 fs_l_least) := by
  have G_l_can := ok_l_can (P := P) (w := w) (base := base) T
  have G_l_subsets := ok_l_subsets (P := P) (w := w) (base := base) T
  exact fn_ok (ds := ds_l_least) T.F_l_least sc_l_least rfl (by decide) (fun B cdv A outer s H E hr => ⟨_, by exact (ss_cons (s_set 3 sc_l_least.nd (x_cb (cr_sum rfl) cd_sum T.n_sum (xa_cons (xv 1) xa_nil)))
      (ss_cons (s_for PassesOwn.never rfl (i_list (x_call G_l_subsets (hr.mono (by decide)) T.g_l_subsets T.F_l_subsets.kp T.b_l_subsets (xa_cons (x_cb call_len_seq cd_len T.n_len (xa_cons (xv 0) xa_nil)) xa_nil))) (g_name 4 sc_l_least.nd) (ss_cons (s_set 5 sc_l_least.nd (x_op op_sub od_sub (x_cb (cr_sum rfl) cd_sum T.n_sum (xa_cons (xv 1) xa_nil)) (x_cb (cr_sum rfl) cd_sum T.n_sum (xa_cons (x_lc [("_law_k", 6)] rfl sc_l_least.nd (i_list (xvV 4)) (blkOk_by (N := N_l_least) (sc := defScope s_l_least) (by decide +kernel)) (fun _ _ _ _ _ _ => by exact (g_name 6 sc_l_least.nd)) (fun _ _ _ _ _ _ => by exact ts_nil) (fun _ _ _ _ _ _ => by exact (x_ix ix_list (od_ixL (K := K)) (xv 1) (xv 6))) (by decide)) xa_nil))))
      (ss_one (s_if (t_w (w_and (t_cmp op_lt od_lt (xv 5) (xv 3)) (w_and1 (t_val (x_call G_l_can (hr.mono (by decide)) T.g_l_can T.F_l_can.kp T.b_l_can (xa_cons (xvV 0) (xa_cons (xvV 4) (xa_cons (xvV 2) xa_nil)))))))) (ss_one (s_set 3 sc_l_least.nd (xvV 5))) ss_nil))))
      (ss_one (s_ret (xvM 3)))))⟩) pure_l_least
theorem ok_check_room (T : Txt K mg) : FnOk P w K mg base (L2N.CX P w) 3 T.f_check_room T.d_check_room ["room"] (spOfX K T.ct 1 fs_check_room) := by
  exact fn_okX (ds := ds_check_room) T.F_check_room sc_check_room rfl (by decide) (fun B W xc cdv A outer s H E hr xo tk => ⟨_, by exact (ss_one (s_if (t_not (t_chain op_le op_le od_le od_le x_int (xv 0) (x_gint T.c_MOST_ROOM))) (ss_one (s_raise1 (nm := 4) rfl xo tk T.e_4 T.nf_4_room (oki_4 (P := P) (w := w) (base := base) T) (hr.mono (by decide)) T.bi_4 (xa_cons (xvV 0) xa_nil))) ss_nil))⟩) pure_check_room
theorem ok_Book___contains__ (T : Txt K mg) : FnOk P w K mg base CX0 3 T.f_Book___contains__ T.d_Book___contains__ ["self", "value"] (spOf K 2 fs_Book___contains__) := by
  have G_is_value := ok_is_value (P := P) (w := w) (base := base) T
  exact fn_ok (ds := ds_Book___contains__) T.F_Book___contains__ sc_Book___contains__ rfl (by decide) (fun B cdv A outer s H E hr => ⟨_, by exact (ss_one (s_ret (x_and (x_call G_is_value (hr.mono (by decide)) T.g_is_value T.F_is_value.kp T.b_is_value (xa_cons (x_fldK "domain" T.ft (xv 0)) (xa_cons (xvV 1) xa_nil))) (x_one (x_din (hu1 hr.units) (xv 1) (x_fldK "code_by_value" T.ft (xv 0)))))))⟩) pure_Book___contains__
theorem ok_l_good (T : Txt K mg) : FnOk P w K mg base CX0 3 T.f_l_good T.d_l_good ["_law_mending", "_law_domain", "_law_pairs", "_law_loads", "_law_room_here"] (spOf K 5 fs_l_good) := by
  have G_Book_strays := ok_Book_strays (P := P) (w := w) (base := base) T
  have G_l_whole := ok_l_whole (P := P) (w := w) (base := base) T
  exact fn_ok (ds := ds_l_good) T.F_l_good sc_l_good rfl (by decide) (fun B cdv A outer s H E hr => ⟨_, by exact (ss_cons (s_setLc 5 [("_law_x", 12)] rfl sc_l_good.nd (i_list (xvV 2)) (blkOk_by (N := N_l_good) (sc := defScope s_l_good) (by decide +kernel)) (fun _ _ _ _ _ _ => by exact (g_name 12 sc_l_good.nd)) (fun _ _ _ _ _ _ => by exact ts_nil) (fun _ _ _ _ _ _ => by exact (x_ix ix_tup (od_ixT (K := K)) (xv 12) x_int)) (by decide) (sw_true rfl rfl rfl (by decide +kernel)))
      (ss_cons (s_setLc 6 [("_law_x", 12)] rfl sc_l_good.nd (i_list (xvV 2)) (blkOk_by (N := N_l_good) (sc := defScope s_l_good) (by decide +kernel)) (fun _ _ _ _ _ _ => by exact (g_name 12 sc_l_good.nd)) (fun _ _ _ _ _ _ => by exact ts_nil) (fun _ _ _ _ _ _ => by exact (x_ix ix_tup (od_ixT (K := K)) (xv 12) x_int)) (by decide) (sw_true rfl rfl rfl (by decide +kernel)))
      (ss_cons (s_set 7 sc_l_good.nd (x_fldK "book" T.ft (xv 0)))
      (ss_cons (s_if (t_w (w_or (t_cmp op_ne od_ne (x_fldK "domain" T.ft (xv 7)) (xv 1)) (w_or (t_not (t_val (x_call G_l_whole (hr.mono (by decide)) T.g_l_whole T.F_l_whole.kp T.b_l_whole (xa_cons (x_fldK "room" T.ft (xv 7)) xa_nil)))) (w_or1 (t_cmp op_ne od_ne (x_fldK "room" T.ft (xv 7)) (xv 4)))))) (ss_one (s_ret x_bl)) ss_nil)
      (ss_cons (s_if (t_w (w_or (t_not (t_val (x_cb call_isi cd_isi T.n_isinstance (xa_cons (x_fldK "entries" T.ft (xv 7)) (xa_cons (x_bty T.n_tuple) xa_nil))))) (w_or1 (t_cmp (op_neD hr.units) od_neD (x_prop P w K mg base rfl hr "strays" (tb := mp_Book_strays) (fun C fs h => by unfold mp_Book_strays at h; split at h; (rename_i e; subst e; cases h; exact .mk T.cl_Book T.pr_Book_strays G_Book_strays (by decide) T.b_Book_strays); cases h) (xv 7)) (x_tup xa_nil))))) (ss_one (s_ret x_bl)) ss_nil)
      (ss_cons (s_if (t_cmp (op_neD hr.units) od_neD (x_lc [("_law_x", 12)] rfl sc_l_good.nd (i_tup (x_fldK "entries" T.ft (xv 7))) (blkOk_by (N := N_l_good) (sc := defScope s_l_good) (by decide +kernel)) (fun _ _ _ _ _ _ => by exact (g_name 12 sc_l_good.nd)) (fun _ _ _ _ _ _ => by exact ts_nil) (fun _ _ _ _ _ _ => by exact (x_ix ix_tup (od_ixT (K := K)) (xv 12) x_int)) (by decide)) (xv 5)) (ss_one (s_ret x_bl)) ss_nil)
      (ss_cons (s_setLc 8 [("_law_x", 12)] rfl sc_l_good.nd (i_tup (x_fldK "entries" T.ft (xv 7))) (blkOk_by (N := N_l_good) (sc := defScope s_l_good) (by decide +kernel)) (fun _ _ _ _ _ _ => by exact (g_name 12 sc_l_good.nd)) (fun _ _ _ _ _ _ => by exact ts_nil) (fun _ _ _ _ _ _ => by exact (x_ix ix_tup (od_ixT (K := K)) (xv 12) x_int)) (by decide) (sw_true rfl rfl rfl (by decide +kernel)))
      (ss_cons (s_if (t_w (w_or (t_not (t_val (x_cb (cr_all rfl) cd_all T.n_all (xa_cons (x_lc [("_law_code", 13)] rfl sc_l_good.nd (i_list (xvV 8)) (blkOk_by (N := N_l_good) (sc := defScope s_l_good) (by decide +kernel)) (fun _ _ _ _ _ _ => by exact (g_name 13 sc_l_good.nd)) (fun _ _ _ _ _ _ => by exact ts_nil) (fun _ _ _ _ _ _ => by exact (x_callC K rfl G_l_whole (hr.mono (by decide)) T.g_l_whole T.F_l_whole.kp T.b_l_whole (xa_cons (xvV 13) xa_nil))) (by decide)) xa_nil)))) (w_or1 (t_cmp (op_neD hr.units) od_neD (xv 8) (x_cb (cr_sortedD hr.units) cd_sorted T.n_sorted (xa_cons (xv 8) xa_nil)))))) (ss_one (s_ret x_bl)) ss_nil)
      (ss_cons (s_if (t_cmp op_ne od_ne (x_lenSet T.n_len T.n_set (xv 8)) (x_cb call_len_seq cd_len T.n_len (xa_cons (xv 8) xa_nil))) (ss_one (s_ret x_bl)) ss_nil)
      (ss_cons (s_if (t_w (w_and (t_cmp (op_neD hr.units) od_neD (xv 8) (x_lst xa_nil)) (w_and1 (t_not (t_ch3 op_le op_le op_lt ci_le ci_le ci_lt x_int (x_ix ix_list od_ixL (xv 8) x_int) (x_ix ix_list od_ixL (xv 8) (x_un un_neg ud_neg x_int)) (xv 4)))))) (ss_one (s_ret x_bl)) ss_nil)
      (ss_cons (s_set 9 sc_l_good.nd (x_lst xa_nil))
      (ss_cons (s_set 10 sc_l_good.nd x_int)
      (ss_cons (s_for PassesOwn.never rfl (i_r1 T.n_range (xa_cons (x_cb call_len_seq cd_len T.n_len (xa_cons (xv 5) xa_nil)) xa_nil)) (g_name 11 sc_l_good.nd) (ss_one (s_if (t_cmp op_eq od_eq (x_ix ix_list od_ixL (xv 8) (xv 11)) (x_ix ix_list od_ixL (xv 6) (xv 11))) (ss_one (s_expr (x_mut (fun h => pe_bm PySem.F.plainAttrs_list PySem.F.slot_list_append PySem.F.type_list_append mt_append (pv 9) h) md_append (xa_cons (x_ix ix_list od_ixL (xv 5) (xv 11)) xa_nil)))) (ss_one (s_set 10 sc_l_good.nd (x_op op_add od_add (xv 10) (x_ix ix_list od_ixL (xv 3) (xv 11))))))))
      (ss_cons (s_if (t_w (w_or (t_not (t_val (x_cb call_isi cd_isi T.n_isinstance (xa_cons (x_fldK "kept" T.ft (xv 0)) (xa_cons (x_bty T.n_tuple) xa_nil))))) (w_or1 (t_cmp (op_neD hr.units) od_neD (x_fldK "kept" T.ft (xv 0)) (x_ct call_tuple_of cd_tuple T.n_tuple (xa_cons (xv 9) xa_nil)))))) (ss_one (s_ret x_bl)) ss_nil)
      (ss_one (s_ret (x_and (x_call G_l_whole (hr.mono (by decide)) T.g_l_whole T.F_l_whole.kp T.b_l_whole (xa_cons (x_fldK "cost" T.ft (xv 0)) xa_nil)) (x_one (x_cmp op_eq od_eq (x_fldK "cost" T.ft (xv 0)) (xv 10))))))))))))))))))))⟩) pure_l_good
theorem ok_Book___init__ (T : Txt K mg) : FnOk P w K mg base (L2N.CX P w) 4 T.f_Book___init__ T.d_Book___init__ ["self", "domain", "room", "entries"] (spOfX K T.ct 4 fs_Book___init__) := by
  have G_check_room := ok_check_room (P := P) (w := w) (base := base) T
  have G_is_code := ok_is_code (P := P) (w := w) (base := base) T
  have G_is_value := ok_is_value (P := P) (w := w) (base := base) T
  have G_kept_by := ok_kept_by (P := P) (w := w) (base := base) T
  exact fn_okXV (ds := ds_Book___init__) T.F_Book___init__ sc_Book___init__ rfl (by decide) (fun B W xc cdv A outer s H E hr xo tk => ⟨_, by exact (ss_cons (s_if (t_cmp op_notIn_seq od_inQ (xv 1) (x_gtup T.c_DOMAINS T.l_DOMAINS T.r_DOMAINS)) (ss_one (s_raise1 (nm := 3) rfl xo tk T.e_3 T.nf_3_domain (oki_3 (P := P) (w := w) (base := base) T) (hr.mono (by decide)) T.bi_3 (xa_cons (xvV 1) xa_nil))) ss_nil)
      (ss_cons (s_expr (x_callX xo tk G_check_room (hr.mono (by decide)) T.g_check_room T.F_check_room.kp T.b_check_room (xa_cons (xvV 2) xa_nil)))
      (ss_cons (s_set 4 sc_Book___init__.nd x_dnew)
      (ss_cons (s_set 5 sc_Book___init__.nd x_dnew)
      (ss_cons (s_for (passes_of rfl) rfl (i_seq (xvV 3)) (g_tup rfl (gs_cons (g_name 8 sc_Book___init__.nd) (gs_cons (g_name 9 sc_Book___init__.nd) gs_nil))) (ss_cons (s_if (t_not (t_val (x_call G_is_value (hr.mono (by decide)) T.g_is_value T.F_is_value.kp T.b_is_value (xa_cons (xvV 1) (xa_cons (xvV 8) xa_nil))))) (ss_one (s_raise1 (nm := 2) rfl xo tk T.e_2 T.nf_2_value (oki_2 (P := P) (w := w) (base := base) T) (hr.mono (by decide)) T.bi_2 (xa_cons (xvV 8) xa_nil))) ss_nil)
      (ss_cons (s_if (t_not (t_val (x_call G_is_code (hr.mono (by decide)) T.g_is_code T.F_is_code.kp T.b_is_code (xa_cons (xvV 9) xa_nil)))) (ss_one (s_raise1 (nm := 5) rfl xo tk T.e_5 T.nf_5_code (oki_5 (P := P) (w := w) (base := base) T) (hr.mono (by decide)) T.bi_5 (xa_cons (xvV 9) xa_nil))) ss_nil)
      (ss_cons (s_if (t_w (w_or (t_din (hu1 hr.units) (xv 8) (xv 4)) (w_or1 (t_din (hu1 hr.units) (xv 9) (xv 5))))) (ss_one (s_raise1 (nm := 6) rfl xo tk T.e_6 T.nf_6_name (oki_6 (P := P) (w := w) (base := base) T) (hr.mono (by decide)) T.bi_6 (xa_cons (xvV 8) xa_nil))) ss_nil)
      (ss_cons (s_setK 4 (hu1 hr.units) (xvV 9) (xv 8))
      (ss_one (s_setK 5 (hu1 hr.units) (xvV 8) (xv 9))))))))
      (ss_cons (s_if (t_cmp op_gt od_gt (x_cb call_lenD cd_lenD T.n_len (xa_cons (xv 4) xa_nil)) (x_con "MOST" T.co_MOST (xv 0))) (ss_one (s_raise1 (nm := 7) rfl xo tk T.e_7 T.nf_7_value (oki_7 (P := P) (w := w) (base := base) T) (hr.mono (by decide)) T.bi_7 (xa_cons (x_ix ix_tup od_ixT (x_ix ix_seq od_ixQ (xv 3) (x_con "MOST" T.co_MOST (xv 0))) x_int) xa_nil))) ss_nil)
      (ss_cons (s_set 6 sc_Book___init__.nd (x_cb (cr_sortedD hr.units) cd_sorted T.n_sorted (xa_cons (x_lc [("value", 8), ("code", 9)] rfl sc_Book___init__.nd (i_seq (xvV 3)) (blkOk_by (N := N_Book___init__) (sc := defScope s_Book___init__) (by decide +kernel)) (fun _ _ _ _ _ _ => by exact (g_tupC K rfl rfl (gs_cons (g_name 8 sc_Book___init__.nd) (gs_cons (g_name 9 sc_Book___init__.nd) gs_nil)))) (fun _ _ _ _ _ _ => by exact ts_nil) (fun _ _ _ _ _ _ => by exact (x_tup (xa_cons (xvV 8) (xa_cons (xvV 9) xa_nil)))) (by decide)) xa_nil)))
      (ss_cons (s_setLc 7 [("value", 8), ("code", 9)] rfl sc_Book___init__.nd (i_list (xvV 6)) (blkOk_by (N := N_Book___init__) (sc := defScope s_Book___init__) (by decide +kernel)) (fun _ _ _ _ _ _ => by exact (g_tupC K rfl rfl (gs_cons (g_name 8 sc_Book___init__.nd) (gs_cons (g_name 9 sc_Book___init__.nd) gs_nil)))) (fun _ _ _ _ _ _ => by exact (ts_one (t_cmp op_lt (od_lt (K := K)) (xv 9) (xv 2)))) (fun _ _ _ _ _ _ => by exact (x_tup (xa_cons (xvV 8) (xa_cons (xvV 9) xa_nil)))) (by decide) (sw_true rfl rfl rfl (by decide +kernel)))
      (ss_cons (s_for (passes_of rfl) rfl (i_zip T.n_zip (xa_cons (xvV 7) (xa_cons (x_sl sl_list sd_list (xv 7) (xo_some x_int) xo_none) xa_nil))) (g_tup rfl (gs_cons (g_tup rfl (gs_cons (g_name 10 sc_Book___init__.nd) (gs_cons (g_name 11 sc_Book___init__.nd) gs_nil))) (gs_cons (g_tup rfl (gs_cons (g_name 8 sc_Book___init__.nd) (gs_cons (g_name 9 sc_Book___init__.nd) gs_nil))) gs_nil))) (ss_one (s_if (t_cmp op_le od_le (xv 9) (xv 11)) (ss_one (s_raise1 (nm := 8) rfl xo tk T.e_8 T.nf_8_value (oki_8 (P := P) (w := w) (base := base) T) (hr.mono (by decide)) T.bi_8 (xa_cons (xvV 8) xa_nil))) ss_nil)))
      (ss_cons (s_setF 0 "domain" T.ft (xvV 1))
      (ss_cons (s_setF 0 "room" T.ft (xvV 2))
      (ss_cons (s_setF 0 "entries" T.ft (x_ct call_tuple_of cd_tuple T.n_tuple (xa_cons (xv 6) xa_nil)))
      (ss_cons (s_setF 0 "code_by_value" T.ft (xvV 4))
      (ss_cons (s_setF 0 "value_by_code" T.ft (xvV 5))
      (ss_one (s_setF 0 "relation" T.ft (x_call G_kept_by (hr.mono (by decide)) T.g_kept_by T.F_kept_by.kp T.b_kept_by (xa_cons (xvV 6) xa_nil))))))))))))))))))⟩) pure_Book___init__
theorem ok_Book_code_of (T : Txt K mg) : FnOk P w K mg base (L2N.CX P w) 5 T.f_Book_code_of T.d_Book_code_of ["self", "value"] (spOfX K T.ct 2 fs_Book_code_of) := by
  have G_Book___contains__ := ok_Book___contains__ (P := P) (w := w) (base := base) T
  exact fn_okX (ds := ds_Book_code_of) T.F_Book_code_of sc_Book_code_of rfl (by decide) (fun B W xc cdv A outer s H E hr xo tk => ⟨_, by exact (ss_cons (s_if (t_ninO P w K mg base rfl hr (tb := mn_Book___contains__) (fun C fs h => by unfold mn_Book___contains__ at h; split at h; (rename_i e; subst e; cases h; exact .mk T.me_Book___contains__.at_ T.me_Book___contains__.fn G_Book___contains__ (by decide) T.b_Book___contains__); cases h) (xv 1) (xv 0)) (ss_one (s_raise1 (nm := 9) rfl xo tk T.e_9 T.nf_9_value (oki_9 (P := P) (w := w) (base := base) T) (hr.mono (by decide)) T.bi_9 (xa_cons (xvV 1) xa_nil))) ss_nil)
      (ss_one (s_ret (x_dget (hu1 hr.units) (x_fldK "code_by_value" T.ft (xv 0)) (xv 1)))))⟩) pure_Book_code_of
theorem ok_mend_book (T : Txt K mg) : FnOk P w K mg base (L2N.CX P w) 6 T.f_mend_book T.d_mend_book ["book", "room", "weights"] (spOfX K T.ct 3 fs_mend_book) := by
  have G_Book___init__ := ok_Book___init__ (P := P) (w := w) (base := base) T
  have G_Book_code_of := ok_Book_code_of (P := P) (w := w) (base := base) T
  have G_Mending___init__ := ok_Mending___init__ (P := P) (w := w) (base := base) T
  have G_check_room := ok_check_room (P := P) (w := w) (base := base) T
  have G_clash_chains := ok_clash_chains (P := P) (w := w) (base := base) T
  have G_heights_of := ok_heights_of (P := P) (w := w) (base := base) T
  have G_kept_ranks := ok_kept_ranks (P := P) (w := w) (base := base) T
  have G_leads := ok_leads (P := P) (w := w) (base := base) T
  have G_spread_leads := ok_spread_leads (P := P) (w := w) (base := base) T
  exact fn_okX (ds := ds_mend_book) T.F_mend_book sc_mend_book rfl (by decide) (fun B W xc cdv A outer s H E hr xo tk => ⟨_, by exact (ss_cons (s_expr (x_callX xo tk G_check_room (hr.mono (by decide)) T.g_check_room T.F_check_room.kp T.b_check_room (xa_cons (xvV 1) xa_nil)))
      (ss_cons (s_set 3 sc_mend_book.nd (x_cb call_len_seq cd_len T.n_len (xa_cons (x_fldK "entries" T.ft (xv 0)) xa_nil)))
      (ss_cons (s_if (t_cmp op_lt od_lt (xv 1) (xv 3)) (ss_one (s_raise1 (nm := 10) rfl xo tk T.e_10 T.nf_10_room (oki_10 (P := P) (w := w) (base := base) T) (hr.mono (by decide)) T.bi_10 (xa_cons (xvV 1) xa_nil))) ss_nil)
      (ss_cons (s_setLc 4 [("value", 14), ("_", 15)] rfl sc_mend_book.nd (i_tup (x_fldK "entries" T.ft (xv 0))) (blkOk_by (N := N_mend_book) (sc := defScope s_mend_book) (by decide +kernel)) (fun _ _ _ _ _ _ => by exact (g_tupC K rfl rfl (gs_cons (g_name 14 sc_mend_book.nd) (gs_cons (g_name 15 sc_mend_book.nd) gs_nil)))) (fun _ _ _ _ _ _ => by exact ts_nil) (fun _ _ _ _ _ _ => by exact (xvV 14)) (by decide) (sw_true rfl rfl rfl (by decide +kernel)))
      (ss_cons (s_setLc 5 [("value", 14)] rfl sc_mend_book.nd (i_list (xvV 4)) (blkOk_by (N := N_mend_book) (sc := defScope s_mend_book) (by decide +kernel)) (fun _ _ _ _ _ _ => by exact (g_name 14 sc_mend_book.nd)) (fun _ _ _ _ _ _ => by exact ts_nil) (fun _ _ _ _ _ _ => by exact (x_dget2 (hu1 hr.units) (xv 2) (xv 14) x_int)) (by decide) (sw_true rfl rfl rfl (by decide +kernel)))
      (ss_cons (s_set 6 sc_mend_book.nd (x_call G_leads (hr.mono (by decide)) T.g_leads T.F_leads.kp T.b_leads (xa_cons (xvV 0) xa_nil)))
      (ss_cons (s_set 7 sc_mend_book.nd (x_call G_heights_of (hr.mono (by decide)) T.g_heights_of T.F_heights_of.kp T.b_heights_of (xa_cons (xvV 6) (xa_cons (xvV 5) (xa_cons (x_op op_sub od_sub (xv 1) (xv 3)) xa_nil)))))
      (ss_cons (s_set 8 sc_mend_book.nd (x_call G_kept_ranks (hr.mono (by decide)) T.g_kept_ranks T.F_kept_ranks.kp T.b_kept_ranks (xa_cons (xvV 6) (xa_cons (xvV 5) (xa_cons (xvV 7) xa_nil)))))
      (ss_cons (s_set 9 sc_mend_book.nd (x_lst (xa_cons (x_tup (xa_cons (x_un un_neg ud_neg x_int) (xa_cons x_int xa_nil))) (xa_star K rfl (x_lc [("rank", 16)] rfl sc_mend_book.nd (i_list (xvV 8)) (blkOk_by (N := N_mend_book) (sc := defScope s_mend_book) (by decide +kernel)) (fun _ _ _ _ _ _ => by exact (g_name 16 sc_mend_book.nd)) (fun _ _ _ _ _ _ => by exact ts_nil) (fun _ _ _ _ _ _ => by exact (x_tup (xa_cons (xvV 16) (xa_cons (x_ix ix_list (od_ixL (K := K)) (xv 6) (xv 16)) xa_nil)))) (by decide)) (xa_cons (x_tup (xa_cons (xvV 3) (xa_cons (x_op op_sub od_sub (xv 1) (xv 3)) xa_nil))) xa_nil)))))
      (ss_cons (s_setLc 10 [("rank", 16), ("lead", 17)] rfl sc_mend_book.nd (i_enum T.n_enumerate (xa_cons (x_call G_spread_leads (hr.mono (by decide)) T.g_spread_leads T.F_spread_leads.kp T.b_spread_leads (xa_cons (xvV 9) xa_nil)) xa_nil)) (blkOk_by (N := N_mend_book) (sc := defScope s_mend_book) (by decide +kernel)) (fun _ _ _ _ _ _ => by exact (g_tupC K rfl rfl (gs_cons (g_name 16 sc_mend_book.nd) (gs_cons (g_name 17 sc_mend_book.nd) gs_nil)))) (fun _ _ _ _ _ _ => by exact ts_nil) (fun _ _ _ _ _ _ => by exact (x_op op_add (od_add (K := K)) (xv 17) (xv 16))) (by decide) (sw_true rfl rfl rfl (by decide +kernel)))
      (ss_cons (s_set 11 sc_mend_book.nd (x_fz (x_makeX K rfl xo tk T.mk_Book G_Book___init__ (hr.mono (by decide)) T.gK_Book T.b_Book___init__ .nil .nil (xa_cons (x_fldK "domain" T.ft (xv 0)) (xa_cons (xvV 1) (xa_cons (x_lz T.n_list T.n_zip (xa_cons (xvV 4) (xa_cons (xvV 10) xa_nil))) xa_nil))))))
      (ss_cons (s_set 12 sc_mend_book.nd (x_lc [("value", 14), ("code", 18)] rfl sc_mend_book.nd (i_tup (x_fldK "entries" T.ft (xv 0))) (blkOk_by (N := N_mend_book) (sc := defScope s_mend_book) (by decide +kernel)) (fun _ _ _ _ _ _ => by exact (g_tupC K rfl rfl (gs_cons (g_name 14 sc_mend_book.nd) (gs_cons (g_name 18 sc_mend_book.nd) gs_nil)))) (fun _ _ _ _ _ _ => by exact (ts_one (t_cmp op_eq (od_eq (K := K)) (x_methX P w K mg base rfl hr "code_of" (tb := mtX_Book_code_of) (n := 2) (xc := fun _ _ _ => False) (ct := T.ct) (fun _ _ _ _ _ _ _ _ _ h => h) takesN (fun C fs h => by unfold mtX_Book_code_of at h; split at h; (rename_i e; subst e; cases h; exact .mk T.cl_Book T.me_Book_code_of G_Book_code_of (by decide) T.b_Book_code_of); (cases h)) (xv 11) (xa_cons (xvV 14) xa_nil)) (xv 18)))) (fun _ _ _ _ _ _ => by exact (xvV 14)) (by decide)))
      (ss_cons (s_set 13 sc_mend_book.nd (x_cb (cr_sum rfl) cd_sum T.n_sum (xa_cons (x_lc [("value", 14), ("load", 19)] rfl sc_mend_book.nd (i_zip T.n_zip (xa_cons (xvV 4) (xa_cons (xvV 5) xa_nil))) (blkOk_by (N := N_mend_book) (sc := defScope s_mend_book) (by decide +kernel)) (fun _ _ _ _ _ _ => by exact (g_tupC K rfl rfl (gs_cons (g_name 14 sc_mend_book.nd) (gs_cons (g_name 19 sc_mend_book.nd) gs_nil)))) (fun _ _ _ _ _ _ => by exact (ts_one (t_cmp op_notIn_seq (od_inQ (K := K)) (xv 14) (xv 12)))) (fun _ _ _ _ _ _ => by exact (xvV 19)) (by decide)) xa_nil)))
      (ss_one (s_ret (x_fz (x_make K rfl T.mk_Mending G_Mending___init__ (hr.mono (by decide)) T.gK_Mending T.b_Mending___init__ (xa_cons (xvV 11) (xa_cons (xvV 13) (xa_cons (xvV 12) (xa_cons (x_call G_clash_chains (hr.mono (by decide)) T.g_clash_chains T.F_clash_chains.kp T.b_clash_chains (xa_cons (xvV 4) (xa_cons (xvV 5) (xa_cons (xvV 7) xa_nil)))) xa_nil)))))))))))))))))))))⟩) pure_mend_book
theorem ok_l_mended (T : Txt K mg) : FnOk P w K mg base CX0 7 T.f_l_mended T.d_l_mended ["_law_book", "_law_room_here", "_law_weights_here"] (spOf K 3 fs_l_mended) := by
  have G_l_whole := ok_l_whole (P := P) (w := w) (base := base) T
  have G_mend_book := ok_mend_book (P := P) (w := w) (base := base) T
  have GH_l_whole := okH_l_whole (P := P) (w := w) (base := base) T
  exact fn_ok (ds := ds_l_mended) T.F_l_mended sc_l_mended rfl (by decide) (fun B cdv A outer s H E hr => ⟨_, by exact (ss_one (s_try_as (ct := T.ct) 3 sc_l_mended.nd ⟨rfl, by decide, .inl T.gC_0⟩ (fun _ _ _ _ _ _ _ _ _ h => h) takesN T.hsub_0 (fun B W xc pn xe xo tk po => by exact (ss_one (s_ret (x_tup (xa_cons x_str (xa_cons (x_callXC K rfl xo tk G_mend_book (hr.mono (by decide)) T.g_mend_book T.F_mend_book.kp T.b_mend_book (xa_cons (xvV 0) (xa_cons (xvV 1) (xa_cons (xv 2) xa_nil)))) xa_nil)))))) (fun B a oe cls d pn nm fs hz hf hcls xd => by exact (ss_cons (s_if (t_w (w_and (t_val (x_isE (tn := 4) 3 hz hf hcls xd T.hkit T.n_isinstance T.gC_4)) (w_and (t_not (t_val (x_isE (tn := 10) 3 hz hf hcls xd T.hkit T.n_isinstance T.gC_10))) (w_and1 (t_val (x_callH K rfl (hot_su hz hf) GH_l_whole (L2H.roomH_mark (hr.mono (by decide)) _) T.g_l_whole T.F_l_whole.kp T.b_l_whole (xa_cons (x_xf 3 hz hf hcls xd T.hrd) xa_nil))))))) (ss_one (s_ret (x_tup (xa_cons x_str (xa_cons (x_xf 3 hz hf hcls xd T.hrd) xa_nil))))) ss_nil)
      (ss_cons (s_if (t_w (w_and (t_val (x_isE (tn := 10) 3 hz hf hcls xd T.hkit T.n_isinstance T.gC_10)) (w_and (t_not (t_val (x_isE (tn := 4) 3 hz hf hcls xd T.hkit T.n_isinstance T.gC_4))) (w_and1 (t_val (x_callH K rfl (hot_su hz hf) GH_l_whole (L2H.roomH_mark (hr.mono (by decide)) _) T.g_l_whole T.F_l_whole.kp T.b_l_whole (xa_cons (x_xf 3 hz hf hcls xd T.hrd) xa_nil))))))) (ss_one (s_ret (x_tup (xa_cons x_str (xa_cons (x_xf 3 hz hf hcls xd T.hrd) xa_nil))))) ss_nil)
      (ss_one (s_ret (x_tup (xa_cons x_str (xa_cons x_int xa_nil))))))))))⟩) pure_l_mended
theorem ok_law (T : Txt K mg) : FnOk P w K mg base CX0 8 T.f_law T.d_law ["_law_script"] (spOf K 1 fs_law) := by
  have G_Book___init__ := ok_Book___init__ (P := P) (w := w) (base := base) T
  have G_l_codes := ok_l_codes (P := P) (w := w) (base := base) T
  have G_l_good := ok_l_good (P := P) (w := w) (base := base) T
  have G_l_least := ok_l_least (P := P) (w := w) (base := base) T
  have G_l_mended := ok_l_mended (P := P) (w := w) (base := base) T
  have G_l_room := ok_l_room (P := P) (w := w) (base := base) T
  have G_l_take := ok_l_take (P := P) (w := w) (base := base) T
  have G_l_values := ok_l_values (P := P) (w := w) (base := base) T
  have G_l_weights := ok_l_weights (P := P) (w := w) (base := base) T
  have G_l_whole := ok_l_whole (P := P) (w := w) (base := base) T
  have G_leads := ok_leads (P := P) (w := w) (base := base) T
  exact fn_ok (ds := ds_law) T.F_law sc_law rfl (by decide) (fun B cdv A outer s H E hr => ⟨_, by exact (ss_cons (s_set 1 sc_law.nd (x_op op_cat od_cat (x_lst (xa_cons x_int xa_nil)) (x_lc [("_law_cell", 22)] rfl sc_law.nd (i_list (x_sl sl_list sd_list (xv 0) xo_none (xo_some x_int))) (blkOk_by (N := N_law) (sc := defScope s_law) (by decide +kernel)) (fun _ _ _ _ _ _ => by exact (g_name 22 sc_law.nd)) (fun _ _ _ _ _ _ => by exact ts_nil) (fun _ _ _ _ _ _ => by exact (x_cb call_abs (cd_abs (K := K)) T.n_abs (xa_cons (xv 22) xa_nil))) (by decide))))
      (ss_cons (s_set 2 sc_law.nd (x_ix ix_list od_ixL (x_lst (xa_cons x_str (xa_cons x_str xa_nil))) (x_call G_l_take (hr.mono (by decide)) T.g_l_take T.F_l_take.kp T.b_l_take (xa_cons (xv 1) (xa_cons x_int xa_nil)))))
      (ss_cons (s_set 3 sc_law.nd (x_op op_mod od_mod (x_ct call_int1 cd_int T.n_int (xa_cons (x_op op_add od_add x_int (x_call G_l_take (hr.mono (by decide)) T.g_l_take T.F_l_take.kp T.b_l_take (xa_cons (xv 1) (xa_cons x_int xa_nil)))) xa_nil)) x_int))
      (ss_cons (s_set 4 sc_law.nd (x_call G_l_room (hr.mono (by decide)) T.g_l_room T.F_l_room.kp T.b_l_room (xa_cons (xv 1) xa_nil)))
      (ss_cons (s_set 5 sc_law.nd (x_call G_l_codes (hr.mono (by decide)) T.g_l_codes T.F_l_codes.kp T.b_l_codes (xa_cons (xv 1) (xa_cons (xvV 3) (xa_cons (xvV 4) xa_nil)))))
      (ss_cons (s_set 6 sc_law.nd (x_call G_l_values (hr.mono (by decide)) T.g_l_values T.F_l_values.kp T.b_l_values (xa_cons (xv 1) (xa_cons (xvV 2) (xa_cons (xvV 3) xa_nil)))))
      (ss_cons (s_setLc 7 [("_law_k", 20)] rfl sc_law.nd (i_r1 T.n_range (xa_cons (xvV 3) xa_nil)) (blkOk_by (N := N_law) (sc := defScope s_law) (by decide +kernel)) (fun _ _ _ _ _ _ => by exact (g_name 20 sc_law.nd)) (fun _ _ _ _ _ _ => by exact ts_nil) (fun _ _ _ _ _ _ => by exact (x_tup (xa_cons (x_ix ix_list (od_ixL (K := K)) (xv 6) (xv 20)) (xa_cons (x_ix ix_list (od_ixL (K := K)) (xv 5) (xv 20)) xa_nil)))) (by decide) (sw_true rfl rfl rfl (by decide +kernel)))
      (ss_cons (s_set 8 sc_law.nd (x_call G_l_weights (hr.mono (by decide)) T.g_l_weights T.F_l_weights.kp T.b_l_weights (xa_cons (xv 1) (xa_cons (xvV 6) xa_nil))))
      (ss_cons (s_setLc 9 [("_law_value", 21)] rfl sc_law.nd (i_list (xvV 6)) (blkOk_by (N := N_law) (sc := defScope s_law) (by decide +kernel)) (fun _ _ _ _ _ _ => by exact (g_name 21 sc_law.nd)) (fun _ _ _ _ _ _ => by exact ts_nil) (fun _ _ _ _ _ _ => by exact (x_dget2 (hu1 hr.units) (xv 8) (xv 21) x_int)) (by decide) (sw_true rfl rfl rfl (by decide +kernel)))
      (ss_cons (s_set 10 sc_law.nd (x_call G_l_take (hr.mono (by decide)) T.g_l_take T.F_l_take.kp T.b_l_take (xa_cons (xv 1) (xa_cons x_int xa_nil))))
      (ss_cons (s_set 11 sc_law.nd (x_op op_add od_add (xv 3) (x_op op_mod od_mod (x_ct call_int1 cd_int T.n_int (xa_cons (x_op op_add od_add x_int (x_call G_l_take (hr.mono (by decide)) T.g_l_take T.F_l_take.kp T.b_l_take (xa_cons (xv 1) (xa_cons x_int xa_nil)))) xa_nil)) x_int)))
      (ss_cons (s_if (t_cmp op_eq od_eq (xv 10) x_int) (ss_one (s_set 11 sc_law.nd (x_ix ix_list od_ixL (x_lst (xa_cons (xvV 3) (xa_cons x_int (xa_cons x_int xa_nil)))) (x_call G_l_take (hr.mono (by decide)) T.g_l_take T.F_l_take.kp T.b_l_take (xa_cons (xv 1) (xa_cons x_int xa_nil)))))) ss_nil)
      (ss_cons (s_if (t_cmp op_eq od_eq (xv 10) x_int) (ss_one (s_set 11 sc_law.nd (x_op op_add od_add (xv 3) (x_call G_l_take (hr.mono (by decide)) T.g_l_take T.F_l_take.kp T.b_l_take (xa_cons (xv 1) (xa_cons x_int xa_nil)))))) ss_nil)
      (ss_cons (s_if (t_cmp op_eq od_eq (xv 10) x_int) (ss_one (s_set 11 sc_law.nd (x_ix ix_list od_ixL (x_lst (xa_cons x_int (xa_cons (x_op op_sub od_sub (xv 3) x_int) (xa_cons x_int (xa_cons (x_un un_neg ud_neg x_int) xa_nil))))) (x_call G_l_take (hr.mono (by decide)) T.g_l_take T.F_l_take.kp T.b_l_take (xa_cons (xv 1) (xa_cons x_int xa_nil)))))) ss_nil)
      (ss_cons (s_set 12 sc_law.nd (x_fz (x_makeN K rfl T.mk_Book G_Book___init__ (hr.mono (by decide)) T.gK_Book T.b_Book___init__ (xa_cons (xvV 2) (xa_cons (xvV 4) (xa_cons (x_ct call_list_of cd_list T.n_list (xa_cons (xv 7) xa_nil)) xa_nil))))))
      (ss_cons (s_set 13 sc_law.nd (x_call G_leads (hr.mono (by decide)) T.g_leads T.F_leads.kp T.b_leads (xa_cons (xvV 12) xa_nil)))
      (ss_cons (s_if (t_w (w_or (t_not (t_val (x_cb call_isi cd_isi T.n_isinstance (xa_cons (xv 13) (xa_cons (x_bty T.n_list) xa_nil))))) (w_or1 (t_not (t_val (x_cb (cr_all rfl) cd_all T.n_all (xa_cons (x_lc [("_law_lead", 23)] rfl sc_law.nd (i_list (xvV 13)) (blkOk_by (N := N_law) (sc := defScope s_law) (by decide +kernel)) (fun _ _ _ _ _ _ => by exact (g_name 23 sc_law.nd)) (fun _ _ _ _ _ _ => by exact ts_nil) (fun _ _ _ _ _ _ => by exact (x_callC K rfl G_l_whole (hr.mono (by decide)) T.g_l_whole T.F_l_whole.kp T.b_l_whole (xa_cons (xvV 23) xa_nil))) (by decide)) xa_nil))))))) (ss_one (s_ret x_bl)) ss_nil)
      (ss_cons (s_if (t_cmp (op_neD hr.units) od_neD (xv 13) (x_lc [("_law_k", 20)] rfl sc_law.nd (i_r1 T.n_range (xa_cons (xvV 3) xa_nil)) (blkOk_by (N := N_law) (sc := defScope s_law) (by decide +kernel)) (fun _ _ _ _ _ _ => by exact (g_name 20 sc_law.nd)) (fun _ _ _ _ _ _ => by exact ts_nil) (fun _ _ _ _ _ _ => by exact (x_op op_sub (od_sub (K := K)) (x_ix ix_list (od_ixL (K := K)) (xv 5) (xv 20)) (xv 20))) (by decide))) (ss_one (s_ret x_bl)) ss_nil)
      (ss_cons (s_set 14 sc_law.nd (x_ct call_dictD cd_dict T.n_dict (xa_cons (xv 8) xa_nil)))
      (ss_cons (s_setK 14 (hu1 hr.units) x_int (x_ix ix_list od_ixL (x_lst (xa_cons x_str (xa_cons x_int xa_nil))) (x_ct call_int1 cd_int T.n_int (xa_cons (x_cmp op_eq od_eq (xv 2) x_str) xa_nil))))
      (ss_cons (s_set 15 sc_law.nd (x_ct call_dictD cd_dict T.n_dict (xa_cons (xv 14) xa_nil)))
      (ss_cons (s_set 16 sc_law.nd (x_call G_l_mended (hr.mono (by decide)) T.g_l_mended T.F_l_mended.kp T.b_l_mended (xa_cons (xvV 12) (xa_cons (xvV 11) (xa_cons (xv 14) xa_nil)))))
      (ss_cons (s_if (t_w (w_or (t_cmp (op_diffK (hu1 hr.units)) od_sameK (xv 14) (xv 15)) (w_or (t_cmp (op_neD hr.units) od_neD (x_fldK "entries" T.ft (xv 12)) (x_ct call_tuple_of cd_tuple T.n_tuple (xa_cons (xv 7) xa_nil))) (w_or1 (t_cmp op_ne od_ne (x_fldK "room" T.ft (xv 12)) (xv 4)))))) (ss_one (s_ret x_bl)) ss_nil)
      (ss_cons (s_if (t_not (t_chain op_le op_le od_le od_le x_int (xv 11) x_int)) (ss_one (s_ret (x_cmp (op_eqD hr.units) od_eqD (xv 16) (x_tup (xa_cons x_str (xa_cons (xvV 11) xa_nil)))))) ss_nil)
      (ss_cons (s_if (t_cmp op_lt od_lt (xv 11) (xv 3)) (ss_one (s_ret (x_cmp (op_eqD hr.units) od_eqD (xv 16) (x_tup (xa_cons x_str (xa_cons (xvV 11) xa_nil)))))) ss_nil)
      (ss_cons (s_set 17 sc_law.nd (x_call G_l_least (hr.mono (by decide)) T.g_l_least T.F_l_least.kp T.b_l_least (xa_cons (xvV 5) (xa_cons (xvV 9) (xa_cons (xvV 11) xa_nil)))))
      (ss_cons (s_expr (x_dclear 14))
      (ss_cons (s_if (t_w (w_or (t_cmp op_ne od_ne (x_ix ix_tup od_ixT (xv 16) x_int) x_str) (w_or1 (t_not (t_val (x_call G_l_good (hr.mono (by decide)) T.g_l_good T.F_l_good.kp T.b_l_good (xa_cons (x_ix ix_tup od_ixT (xv 16) x_int) (xa_cons (xvV 2) (xa_cons (xvV 7) (xa_cons (xvV 9) (xa_cons (xvV 11) xa_nil))))))))))) (ss_one (s_ret x_bl)) ss_nil)
      (ss_cons (s_if (t_cmp op_ne od_ne (x_fldK "cost" T.ft (x_ix ix_tup od_ixT (xv 16) x_int)) (xv 17)) (ss_one (s_ret x_bl)) ss_nil)
      (ss_cons (s_set 18 sc_law.nd (x_call G_l_mended (hr.mono (by decide)) T.g_l_mended T.F_l_mended.kp T.b_l_mended (xa_cons (xvV 12) (xa_cons (xvV 11) (xa_cons (xv 14) xa_nil)))))
      (ss_cons (s_set 19 sc_law.nd (x_op op_rep od_rep (x_lst (xa_cons x_int xa_nil)) (xv 3)))
      (ss_cons (s_if (t_w (w_or (t_cmp op_ne od_ne (x_ix ix_tup od_ixT (xv 18) x_int) x_str) (w_or1 (t_not (t_val (x_call G_l_good (hr.mono (by decide)) T.g_l_good T.F_l_good.kp T.b_l_good (xa_cons (x_ix ix_tup od_ixT (xv 18) x_int) (xa_cons (xvV 2) (xa_cons (xvV 7) (xa_cons (xvV 19) (xa_cons (xvV 11) xa_nil))))))))))) (ss_one (s_ret x_bl)) ss_nil)
      (ss_one (s_ret (x_and (x_cmp op_eq od_eq (x_fldK "cost" T.ft (x_ix ix_tup od_ixT (xv 18) x_int)) x_int) (x_one (x_call G_l_good (hr.mono (by decide)) T.g_l_good T.F_l_good.kp T.b_l_good (xa_cons (x_ix ix_tup od_ixT (xv 16) x_int) (xa_cons (xvV 2) (xa_cons (xvV 7) (xa_cons (xvV 9) (xa_cons (xvV 11) xa_nil))))))))))))))))))))))))))))))))))))))))))⟩) pure_law
end
theorem all_mk {l : PySem.W.OpenLaw} {w : World} {K : PySem.W.Frag} {h : Heap} {mg : Str → Option Value} {fa f1 f2 f3 f4 f5 f6 f7 f8 f9 f10 f11 f12 f13 f14 f15 f16 f17 f18 f19 f20 f21 f22 f23 f24 f25 f26 f27 f28 f29 f30 f31 : Addr} (X : K.In h) (G : h.Ns mainGlobals mg) (hfa : mg "law" = some (.ref fa))
    {od1 an1 od2 an2 od3 an3 od4 an4 od5 an5 od6 an6 od7 an7 od8 an8 od9 an9 od10 an10 od11 an11 od12 an12 od13 an13 od14 an14 od15 an15 od16 an16 od17 an17 od18 an18 od19 an19 od20 an20 od21 an21 od22 an22 od23 an23 od24 an24 od25 an25 od26 an26 od27 an27 od28 an28 od29 an29 od30 an30 od31 an31 : Option Addr} {sl1 sl2 sl3 sl4 sl5 sl6 sl7 sl8 sl9 sl10 sl11 sl12 sl13 sl14 sl15 sl16 sl17 sl18 sl19 sl20 sl21 sl22 sl23 sl24 sl25 sl26 sl27 sl28 sl29 sl30 sl31 : Array (Option Value)} {oc1 kV1 dc1 pm1 cd1 ct1 oc2 kV2 dc2 pm2 cd2 ct2 oc3 kV3 dc3 pm3 cd3 ct3 oc4 kV4 dc4 pm4 cd4 ct4 oc5 kV5 dc5 pm5 cd5 ct5 oc6 kV6 dc6 pm6 cd6 ct6 oc7 kV7 dc7 pm7 cd7 ct7 oc8 kV8 dc8 pm8 cd8 ct8 oc9 kV9 dc9 pm9 cd9 ct9 oc10 kV10 dc10 pm10 cd10 ct10 oc11 kV11 dc11 pm11 cd11 ct11 oc12 kV12 dc12 pm12 cd12 ct12 oc13 kV13 dc13 pm13 cd13 ct13 oc14 kV14 dc14 pm14 cd14 ct14 oc15 kV15 dc15 pm15 cd15 ct15 oc16 kV16 dc16 pm16 cd16 ct16 oc17 kV17 dc17 pm17 cd17 ct17 oc18 kV18 dc18 pm18 cd18 ct18 oc19 kV19 dc19 pm19 cd19 ct19 oc20 kV20 dc20 pm20 cd20 ct20 oc21 kV21 dc21 pm21 cd21 ct21 oc22 kV22 dc22 pm22 cd22 ct22 oc23 kV23 dc23 pm23 cd23 ct23 oc24 kV24 dc24 pm24 cd24 ct24 oc25 kV25 dc25 pm25 cd25 ct25 oc26 kV26 dc26 pm26 cd26 ct26 oc27 kV27 dc27 pm27 cd27 ct27 oc28 kV28 dc28 pm28 cd28 ct28 oc29 kV29 dc29 pm29 cd29 ct29 oc30 kV30 dc30 pm30 cd30 ct30 oc31 kV31 dc31 pm31 cd31 ct31 : Value}
    {ADOMAINS : Addr} {odDOMAINS : Option Addr} {slDOMAINS : Array (Option Value)} {epDOMAINS : Nat} {kDOMAINS0 kDOMAINS1 : Tok} (eDOMAINS : PySem.W.nsIn K mainGlobals "DOMAINS" = some (some (.ref ADOMAINS))) (LDOMAINS : K.lookup ADOMAINS = some ⟨.type "tuple", odDOMAINS, .seq #[.str "number" kDOMAINS0, .str "word" kDOMAINS1] epDOMAINS, slDOMAINS⟩)
    {tkGREATEST tkLEAST tkLETTERS tkLONGEST tkMOST_CODE tkMOST_ROOM : Tok} (eGREATEST : PySem.W.nsIn K mainGlobals "GREATEST" = some (some (.int (999999999) tkGREATEST))) (eLEAST : PySem.W.nsIn K mainGlobals "LEAST" = some (some (.int (-999999999) tkLEAST))) (eLETTERS : PySem.W.nsIn K mainGlobals "LETTERS" = some (some (.str "abcdefghijklmnopqrstuvwxyz" tkLETTERS))) (eLONGEST : PySem.W.nsIn K mainGlobals "LONGEST" = some (some (.int (8) tkLONGEST))) (eMOST_CODE : PySem.W.nsIn K mainGlobals "MOST_CODE" = some (some (.int (9999999) tkMOST_CODE))) (eMOST_ROOM : PySem.W.nsIn K mainGlobals "MOST_ROOM" = some (some (.int (1000000) tkMOST_ROOM)))
    {CK0 CK1 : Addr}
    (aK0 : PySem.W.nsIn K mainGlobals "Book" = some (some (.ref CK0))) (pg0 : PySem.W.plainGet K CK0 Str.empty = true) (hK0 : PySem.W.hasDictIn K CK0 = true) (po0 : PySem.W.plainOver K CK0 = true) (sK0 : PySem.W.findIn K (.ref CK0) "__setattr__" = some (some (.builtin "object.__setattr__")))
    (mK0 : PySem.W.makesIn K CK0 = true) (kK0 : PySem.W.keepIn K (.ref CK0) = true)
    (fM8 : PySem.W.findIn K (.ref CK0) "__init__" = some (some (.ref f8))) (iM8 : PySem.W.isFn K (.ref f8) = true)
    {pA9 : Addr} {rst9 : List Value} (fM9 : PySem.W.findIn K (.ref CK0) "strays" = some (some (.ref pA9))) (gM9 : PySem.W.specialIn K (.ref pA9) "__get__" = some (some (.builtin "property.__get__"))) (tM9 : PySem.W.takesIn K (.ref pA9) = some true) (rM9 : PySem.W.recIn K pA9 "property" = some (.ref f9 :: rst9))
    (fM10 : PySem.W.findIn K (.ref CK0) "__contains__" = some (some (.ref f10))) (iM10 : PySem.W.isFn K (.ref f10) = true)
    (fM11 : PySem.W.findIn K (.ref CK0) "code_of" = some (some (.ref f11))) (iM11 : PySem.W.isFn K (.ref f11) = true)
    {tcMOST0 : Tok} (fcMOST0 : PySem.W.findIn K (.ref CK0) "MOST" = some (some (.int 120 tcMOST0))) (gcMOST0 : PySem.W.specialIn K (.int 120 tcMOST0) "__get__" = some none)
    (nA0x0 : PySem.W.findIn K (.ref CK0) "domain" = some none)
    (nA0x1 : PySem.W.findIn K (.ref CK0) "room" = some none)
    (nA0x2 : PySem.W.findIn K (.ref CK0) "entries" = some none)
    (nA0x3 : PySem.W.findIn K (.ref CK0) "code_by_value" = some none)
    (nA0x4 : PySem.W.findIn K (.ref CK0) "value_by_code" = some none)
    (nA0x5 : PySem.W.findIn K (.ref CK0) "relation" = some none)
    (aK1 : PySem.W.nsIn K mainGlobals "Mending" = some (some (.ref CK1))) (pg1 : PySem.W.plainGet K CK1 Str.empty = true) (hK1 : PySem.W.hasDictIn K CK1 = true) (po1 : PySem.W.plainOver K CK1 = true) (sK1 : PySem.W.findIn K (.ref CK1) "__setattr__" = some (some (.builtin "object.__setattr__")))
    (mK1 : PySem.W.makesIn K CK1 = true) (kK1 : PySem.W.keepIn K (.ref CK1) = true)
    (fM13 : PySem.W.findIn K (.ref CK1) "__init__" = some (some (.ref f13))) (iM13 : PySem.W.isFn K (.ref f13) = true)
    (nA1x0 : PySem.W.findIn K (.ref CK1) "book" = some none)
    (nA1x1 : PySem.W.findIn K (.ref CK1) "cost" = some none)
    (nA1x2 : PySem.W.findIn K (.ref CK1) "kept" = some none)
    (nA1x3 : PySem.W.findIn K (.ref CK1) "chains" = some none)
    (a1 : PySem.W.nsIn K mainGlobals "in_order" = some (some (.ref f1))) (l1 : K.lookup f1 = some ⟨oc1, od1, .func (PySem.W.fnOf "in_order" "in_order" (defArgs s_in_order) (defBody s_in_order) (defScope s_in_order) .none kV1 dc1 pm1 an1 cd1 ct1), sl1⟩) (c1 : PySem.W.codeIn K cd1 "in_order" = true) (k1 : PySem.W.keepIn K (.ref f1) = true)
    (a2 : PySem.W.nsIn K mainGlobals "told_by_first" = some (some (.ref f2))) (l2 : K.lookup f2 = some ⟨oc2, od2, .func (PySem.W.fnOf "told_by_first" "told_by_first" (defArgs s_told_by_first) (defBody s_told_by_first) (defScope s_told_by_first) .none kV2 dc2 pm2 an2 cd2 ct2), sl2⟩) (c2 : PySem.W.codeIn K cd2 "told_by_first" = true) (k2 : PySem.W.keepIn K (.ref f2) = true)
    (a3 : PySem.W.nsIn K mainGlobals "kept_by" = some (some (.ref f3))) (l3 : K.lookup f3 = some ⟨oc3, od3, .func (PySem.W.fnOf "kept_by" "kept_by" (defArgs s_kept_by) (defBody s_kept_by) (defScope s_kept_by) .none kV3 dc3 pm3 an3 cd3 ct3), sl3⟩) (c3 : PySem.W.codeIn K cd3 "kept_by" = true) (k3 : PySem.W.keepIn K (.ref f3) = true)
    (a4 : PySem.W.nsIn K mainGlobals "is_word" = some (some (.ref f4))) (l4 : K.lookup f4 = some ⟨oc4, od4, .func (PySem.W.fnOf "is_word" "is_word" (defArgs s_is_word) (defBody s_is_word) (defScope s_is_word) .none kV4 dc4 pm4 an4 cd4 ct4), sl4⟩) (c4 : PySem.W.codeIn K cd4 "is_word" = true) (k4 : PySem.W.keepIn K (.ref f4) = true)
    (a5 : PySem.W.nsIn K mainGlobals "is_value" = some (some (.ref f5))) (l5 : K.lookup f5 = some ⟨oc5, od5, .func (PySem.W.fnOf "is_value" "is_value" (defArgs s_is_value) (defBody s_is_value) (defScope s_is_value) .none kV5 dc5 pm5 an5 cd5 ct5), sl5⟩) (c5 : PySem.W.codeIn K cd5 "is_value" = true) (k5 : PySem.W.keepIn K (.ref f5) = true)
    (a6 : PySem.W.nsIn K mainGlobals "check_room" = some (some (.ref f6))) (l6 : K.lookup f6 = some ⟨oc6, od6, .func (PySem.W.fnOf "check_room" "check_room" (defArgs s_check_room) (defBody s_check_room) (defScope s_check_room) .none kV6 dc6 pm6 an6 cd6 ct6), sl6⟩) (c6 : PySem.W.codeIn K cd6 "check_room" = true) (k6 : PySem.W.keepIn K (.ref f6) = true)
    (a7 : PySem.W.nsIn K mainGlobals "is_code" = some (some (.ref f7))) (l7 : K.lookup f7 = some ⟨oc7, od7, .func (PySem.W.fnOf "is_code" "is_code" (defArgs s_is_code) (defBody s_is_code) (defScope s_is_code) .none kV7 dc7 pm7 an7 cd7 ct7), sl7⟩) (c7 : PySem.W.codeIn K cd7 "is_code" = true) (k7 : PySem.W.keepIn K (.ref f7) = true)
    {DT8 : Addr} {oDT8 : Value} {odT8 : Option Addr} {nDT8 : Nat} {slDT8 : Array (Option Value)} {uD8x0 : Value}
     (l8 : K.lookup f8 = some ⟨oc8, od8, .func (PySem.W.fnOf "__init__" "Book.__init__" (defArgs s_Book___init__) (defBody s_Book___init__) (defScope s_Book___init__) (.ref DT8) kV8 dc8 pm8 an8 cd8 ct8), sl8⟩) (c8 : PySem.W.codeIn K cd8 "Book.__init__" = true) (k8 : PySem.W.keepIn K (.ref f8) = true)
    (lDT8 : K.lookup DT8 = some ⟨oDT8, odT8, .seq #[uD8x0] nDT8, slDT8⟩)
     (l9 : K.lookup f9 = some ⟨oc9, od9, .func (PySem.W.fnOf "strays" "Book.strays" (defArgs s_Book_strays) (defBody s_Book_strays) (defScope s_Book_strays) .none kV9 dc9 pm9 an9 cd9 ct9), sl9⟩) (c9 : PySem.W.codeIn K cd9 "Book.strays" = true) (k9 : PySem.W.keepIn K (.ref f9) = true)
     (l10 : K.lookup f10 = some ⟨oc10, od10, .func (PySem.W.fnOf "__contains__" "Book.__contains__" (defArgs s_Book___contains__) (defBody s_Book___contains__) (defScope s_Book___contains__) .none kV10 dc10 pm10 an10 cd10 ct10), sl10⟩) (c10 : PySem.W.codeIn K cd10 "Book.__contains__" = true) (k10 : PySem.W.keepIn K (.ref f10) = true)
     (l11 : K.lookup f11 = some ⟨oc11, od11, .func (PySem.W.fnOf "code_of" "Book.code_of" (defArgs s_Book_code_of) (defBody s_Book_code_of) (defScope s_Book_code_of) .none kV11 dc11 pm11 an11 cd11 ct11), sl11⟩) (c11 : PySem.W.codeIn K cd11 "Book.code_of" = true) (k11 : PySem.W.keepIn K (.ref f11) = true)
    (a12 : PySem.W.nsIn K mainGlobals "leads" = some (some (.ref f12))) (l12 : K.lookup f12 = some ⟨oc12, od12, .func (PySem.W.fnOf "leads" "leads" (defArgs s_leads) (defBody s_leads) (defScope s_leads) .none kV12 dc12 pm12 an12 cd12 ct12), sl12⟩) (c12 : PySem.W.codeIn K cd12 "leads" = true) (k12 : PySem.W.keepIn K (.ref f12) = true)
     (l13 : K.lookup f13 = some ⟨oc13, od13, .func (PySem.W.fnOf "__init__" "Mending.__init__" (defArgs s_Mending___init__) (defBody s_Mending___init__) (defScope s_Mending___init__) .none kV13 dc13 pm13 an13 cd13 ct13), sl13⟩) (c13 : PySem.W.codeIn K cd13 "Mending.__init__" = true) (k13 : PySem.W.keepIn K (.ref f13) = true)
    (a14 : PySem.W.nsIn K mainGlobals "heights_of" = some (some (.ref f14))) (l14 : K.lookup f14 = some ⟨oc14, od14, .func (PySem.W.fnOf "heights_of" "heights_of" (defArgs s_heights_of) (defBody s_heights_of) (defScope s_heights_of) .none kV14 dc14 pm14 an14 cd14 ct14), sl14⟩) (c14 : PySem.W.codeIn K cd14 "heights_of" = true) (k14 : PySem.W.keepIn K (.ref f14) = true)
    (a15 : PySem.W.nsIn K mainGlobals "kept_ranks" = some (some (.ref f15))) (l15 : K.lookup f15 = some ⟨oc15, od15, .func (PySem.W.fnOf "kept_ranks" "kept_ranks" (defArgs s_kept_ranks) (defBody s_kept_ranks) (defScope s_kept_ranks) .none kV15 dc15 pm15 an15 cd15 ct15), sl15⟩) (c15 : PySem.W.codeIn K cd15 "kept_ranks" = true) (k15 : PySem.W.keepIn K (.ref f15) = true)
    (a16 : PySem.W.nsIn K mainGlobals "spread_leads" = some (some (.ref f16))) (l16 : K.lookup f16 = some ⟨oc16, od16, .func (PySem.W.fnOf "spread_leads" "spread_leads" (defArgs s_spread_leads) (defBody s_spread_leads) (defScope s_spread_leads) .none kV16 dc16 pm16 an16 cd16 ct16), sl16⟩) (c16 : PySem.W.codeIn K cd16 "spread_leads" = true) (k16 : PySem.W.keepIn K (.ref f16) = true)
    (a17 : PySem.W.nsIn K mainGlobals "clash_chains" = some (some (.ref f17))) (l17 : K.lookup f17 = some ⟨oc17, od17, .func (PySem.W.fnOf "clash_chains" "clash_chains" (defArgs s_clash_chains) (defBody s_clash_chains) (defScope s_clash_chains) .none kV17 dc17 pm17 an17 cd17 ct17), sl17⟩) (c17 : PySem.W.codeIn K cd17 "clash_chains" = true) (k17 : PySem.W.keepIn K (.ref f17) = true)
    (a18 : PySem.W.nsIn K mainGlobals "mend_book" = some (some (.ref f18))) (l18 : K.lookup f18 = some ⟨oc18, od18, .func (PySem.W.fnOf "mend_book" "mend_book" (defArgs s_mend_book) (defBody s_mend_book) (defScope s_mend_book) .none kV18 dc18 pm18 an18 cd18 ct18), sl18⟩) (c18 : PySem.W.codeIn K cd18 "mend_book" = true) (k18 : PySem.W.keepIn K (.ref f18) = true)
    (a19 : PySem.W.nsIn K mainGlobals "_law_take" = some (some (.ref f19))) (l19 : K.lookup f19 = some ⟨oc19, od19, .func (PySem.W.fnOf "_law_take" "_law_take" (defArgs s_l_take) (defBody s_l_take) (defScope s_l_take) .none kV19 dc19 pm19 an19 cd19 ct19), sl19⟩) (c19 : PySem.W.codeIn K cd19 "_law_take" = true) (k19 : PySem.W.keepIn K (.ref f19) = true)
    (a20 : PySem.W.nsIn K mainGlobals "_law_whole" = some (some (.ref f20))) (l20 : K.lookup f20 = some ⟨oc20, od20, .func (PySem.W.fnOf "_law_whole" "_law_whole" (defArgs s_l_whole) (defBody s_l_whole) (defScope s_l_whole) .none kV20 dc20 pm20 an20 cd20 ct20), sl20⟩) (c20 : PySem.W.codeIn K cd20 "_law_whole" = true) (k20 : PySem.W.keepIn K (.ref f20) = true)
    (a21 : PySem.W.nsIn K mainGlobals "_law_words" = some (some (.ref f21))) (l21 : K.lookup f21 = some ⟨oc21, od21, .func (PySem.W.fnOf "_law_words" "_law_words" (defArgs s_l_words) (defBody s_l_words) (defScope s_l_words) .none kV21 dc21 pm21 an21 cd21 ct21), sl21⟩) (c21 : PySem.W.codeIn K cd21 "_law_words" = true) (k21 : PySem.W.keepIn K (.ref f21) = true)
    (a22 : PySem.W.nsIn K mainGlobals "_law_room" = some (some (.ref f22))) (l22 : K.lookup f22 = some ⟨oc22, od22, .func (PySem.W.fnOf "_law_room" "_law_room" (defArgs s_l_room) (defBody s_l_room) (defScope s_l_room) .none kV22 dc22 pm22 an22 cd22 ct22), sl22⟩) (c22 : PySem.W.codeIn K cd22 "_law_room" = true) (k22 : PySem.W.keepIn K (.ref f22) = true)
    (a23 : PySem.W.nsIn K mainGlobals "_law_codes" = some (some (.ref f23))) (l23 : K.lookup f23 = some ⟨oc23, od23, .func (PySem.W.fnOf "_law_codes" "_law_codes" (defArgs s_l_codes) (defBody s_l_codes) (defScope s_l_codes) .none kV23 dc23 pm23 an23 cd23 ct23), sl23⟩) (c23 : PySem.W.codeIn K cd23 "_law_codes" = true) (k23 : PySem.W.keepIn K (.ref f23) = true)
    (a24 : PySem.W.nsIn K mainGlobals "_law_values" = some (some (.ref f24))) (l24 : K.lookup f24 = some ⟨oc24, od24, .func (PySem.W.fnOf "_law_values" "_law_values" (defArgs s_l_values) (defBody s_l_values) (defScope s_l_values) .none kV24 dc24 pm24 an24 cd24 ct24), sl24⟩) (c24 : PySem.W.codeIn K cd24 "_law_values" = true) (k24 : PySem.W.keepIn K (.ref f24) = true)
    (a25 : PySem.W.nsIn K mainGlobals "_law_weights" = some (some (.ref f25))) (l25 : K.lookup f25 = some ⟨oc25, od25, .func (PySem.W.fnOf "_law_weights" "_law_weights" (defArgs s_l_weights) (defBody s_l_weights) (defScope s_l_weights) .none kV25 dc25 pm25 an25 cd25 ct25), sl25⟩) (c25 : PySem.W.codeIn K cd25 "_law_weights" = true) (k25 : PySem.W.keepIn K (.ref f25) = true)
    (a26 : PySem.W.nsIn K mainGlobals "_law_subsets" = some (some (.ref f26))) (l26 : K.lookup f26 = some ⟨oc26, od26, .func (PySem.W.fnOf "_law_subsets" "_law_subsets" (defArgs s_l_subsets) (defBody s_l_subsets) (defScope s_l_subsets) .none kV26 dc26 pm26 an26 cd26 ct26), sl26⟩) (c26 : PySem.W.codeIn K cd26 "_law_subsets" = true) (k26 : PySem.W.keepIn K (.ref f26) = true)
    (a27 : PySem.W.nsIn K mainGlobals "_law_can" = some (some (.ref f27))) (l27 : K.lookup f27 = some ⟨oc27, od27, .func (PySem.W.fnOf "_law_can" "_law_can" (defArgs s_l_can) (defBody s_l_can) (defScope s_l_can) .none kV27 dc27 pm27 an27 cd27 ct27), sl27⟩) (c27 : PySem.W.codeIn K cd27 "_law_can" = true) (k27 : PySem.W.keepIn K (.ref f27) = true)
    (a28 : PySem.W.nsIn K mainGlobals "_law_least" = some (some (.ref f28))) (l28 : K.lookup f28 = some ⟨oc28, od28, .func (PySem.W.fnOf "_law_least" "_law_least" (defArgs s_l_least) (defBody s_l_least) (defScope s_l_least) .none kV28 dc28 pm28 an28 cd28 ct28), sl28⟩) (c28 : PySem.W.codeIn K cd28 "_law_least" = true) (k28 : PySem.W.keepIn K (.ref f28) = true)
    (a29 : PySem.W.nsIn K mainGlobals "_law_mended" = some (some (.ref f29))) (l29 : K.lookup f29 = some ⟨oc29, od29, .func (PySem.W.fnOf "_law_mended" "_law_mended" (defArgs s_l_mended) (defBody s_l_mended) (defScope s_l_mended) .none kV29 dc29 pm29 an29 cd29 ct29), sl29⟩) (c29 : PySem.W.codeIn K cd29 "_law_mended" = true) (k29 : PySem.W.keepIn K (.ref f29) = true)
    (a30 : PySem.W.nsIn K mainGlobals "_law_good" = some (some (.ref f30))) (l30 : K.lookup f30 = some ⟨oc30, od30, .func (PySem.W.fnOf "_law_good" "_law_good" (defArgs s_l_good) (defBody s_l_good) (defScope s_l_good) .none kV30 dc30 pm30 an30 cd30 ct30), sl30⟩) (c30 : PySem.W.codeIn K cd30 "_law_good" = true) (k30 : PySem.W.keepIn K (.ref f30) = true)
    (a31 : PySem.W.nsIn K mainGlobals "law" = some (some (.ref f31))) (l31 : K.lookup f31 = some ⟨oc31, od31, .func (PySem.W.fnOf "law" "law" (defArgs s_law) (defBody s_law) (defScope s_law) .none kV31 dc31 pm31 an31 cd31 ct31), sl31⟩) (c31 : PySem.W.codeIn K cd31 "law" = true) (k31 : PySem.W.keepIn K (.ref f31) = true)
    {C0 C1 C2 C3 C4 C5 C6 C7 C8 C9 C10 fI1 NI1 fI2 NI2 fI3 NI3 fI4 NI4 fI5 NI5 fI6 NI6 fI7 NI7 fI8 NI8 fI9 NI9 fI10 NI10 : Addr} {nm1 qn1 nm2 qn2 nm3 qn3 nm4 qn4 nm5 qn5 nm6 qn6 nm7 qn7 nm8 qn8 nm9 qn9 nm10 qn10 : Str} {bs1 su1 bs2 su2 bs3 su3 bs4 su4 bs5 su5 bs6 su6 bs7 su7 bs8 su8 bs9 su9 bs10 su10 : List Value} {sn1 sn2 sn3 sn4 sn5 sn6 sn7 sn8 sn9 sn10 : List Str} {ab1 ab2 ab3 ab4 ab5 ab6 ab7 ab8 ab9 ab10 : Bool} {co1 co2 co3 co4 co5 co6 co7 co8 co9 co10 : Option Bool} {dd1 odI1 anI1 dd2 odI2 anI2 dd3 odI3 anI3 dd4 odI4 anI4 dd5 odI5 anI5 dd6 odI6 anI6 dd7 odI7 anI7 dd8 odI8 anI8 dd9 odI9 anI9 dd10 odI10 anI10 : Option Addr} {m01 m11 m21 m31 m51 m02 m12 m22 m32 m52 m03 m13 m23 m33 m53 m04 m14 m24 m34 m54 m05 m15 m25 m35 m55 m06 m16 m26 m36 m56 m07 m17 m27 m37 m57 m08 m18 m28 m38 m58 m09 m19 m29 m39 m59 m010 m110 m210 m310 m510 : Option Value} {slI1 slI2 slI3 slI4 slI5 slI6 slI7 slI8 slI9 slI10 : Array (Option Value)} {ocI1 kVI1 dcI1 pmI1 cdI1 ctI1 ocI2 kVI2 dcI2 pmI2 cdI2 ctI2 ocI3 kVI3 dcI3 pmI3 cdI3 ctI3 ocI4 kVI4 dcI4 pmI4 cdI4 ctI4 ocI5 kVI5 dcI5 pmI5 cdI5 ctI5 ocI6 kVI6 dcI6 pmI6 cdI6 ctI6 ocI7 kVI7 dcI7 pmI7 cdI7 ctI7 ocI8 kVI8 dcI8 pmI8 cdI8 ctI8 ocI9 kVI9 dcI9 pmI9 cdI9 ctI9 ocI10 kVI10 dcI10 pmI10 cdI10 ctI10 : Value}
    (aC0 : PySem.W.nsIn K mainGlobals "ColonnadeError" = some (some (.ref C0)))
    (aC1 : PySem.W.nsIn K mainGlobals "NoRelation" = some (some (.ref C1)))
    (aC2 : PySem.W.nsIn K mainGlobals "BadValue" = some (some (.ref C2)))
    (aC3 : PySem.W.nsIn K mainGlobals "BadDomain" = some (some (.ref C3)))
    (aC4 : PySem.W.nsIn K mainGlobals "BadRoom" = some (some (.ref C4)))
    (aC5 : PySem.W.nsIn K mainGlobals "BadCode" = some (some (.ref C5)))
    (aC6 : PySem.W.nsIn K mainGlobals "Twice" = some (some (.ref C6)))
    (aC7 : PySem.W.nsIn K mainGlobals "Full" = some (some (.ref C7)))
    (aC8 : PySem.W.nsIn K mainGlobals "BadBook" = some (some (.ref C8)))
    (aC9 : PySem.W.nsIn K mainGlobals "NoValue" = some (some (.ref C9)))
    (aC10 : PySem.W.nsIn K mainGlobals "NoRoom" = some (some (.ref C10)))
    (eC0 : PySem.W.subIn K (.ref C0) (.type "BaseException") = some true) (tC0 : PySem.W.typeIn K (.ref C0) = some (.type "type")) (hd0 : PySem.W.hasDictIn K C0 = true)
    (eC1 : PySem.W.subIn K (.ref C1) (.type "BaseException") = some true) (tC1 : PySem.W.typeIn K (.ref C1) = some (.type "type")) (hd1 : PySem.W.hasDictIn K C1 = true)
    (eC2 : PySem.W.subIn K (.ref C2) (.type "BaseException") = some true) (tC2 : PySem.W.typeIn K (.ref C2) = some (.type "type")) (hd2 : PySem.W.hasDictIn K C2 = true)
    (eC3 : PySem.W.subIn K (.ref C3) (.type "BaseException") = some true) (tC3 : PySem.W.typeIn K (.ref C3) = some (.type "type")) (hd3 : PySem.W.hasDictIn K C3 = true)
    (eC4 : PySem.W.subIn K (.ref C4) (.type "BaseException") = some true) (tC4 : PySem.W.typeIn K (.ref C4) = some (.type "type")) (hd4 : PySem.W.hasDictIn K C4 = true)
    (eC5 : PySem.W.subIn K (.ref C5) (.type "BaseException") = some true) (tC5 : PySem.W.typeIn K (.ref C5) = some (.type "type")) (hd5 : PySem.W.hasDictIn K C5 = true)
    (eC6 : PySem.W.subIn K (.ref C6) (.type "BaseException") = some true) (tC6 : PySem.W.typeIn K (.ref C6) = some (.type "type")) (hd6 : PySem.W.hasDictIn K C6 = true)
    (eC7 : PySem.W.subIn K (.ref C7) (.type "BaseException") = some true) (tC7 : PySem.W.typeIn K (.ref C7) = some (.type "type")) (hd7 : PySem.W.hasDictIn K C7 = true)
    (eC8 : PySem.W.subIn K (.ref C8) (.type "BaseException") = some true) (tC8 : PySem.W.typeIn K (.ref C8) = some (.type "type")) (hd8 : PySem.W.hasDictIn K C8 = true)
    (eC9 : PySem.W.subIn K (.ref C9) (.type "BaseException") = some true) (tC9 : PySem.W.typeIn K (.ref C9) = some (.type "type")) (hd9 : PySem.W.hasDictIn K C9 = true)
    (eC10 : PySem.W.subIn K (.ref C10) (.type "BaseException") = some true) (tC10 : PySem.W.typeIn K (.ref C10) = some (.type "type")) (hd10 : PySem.W.hasDictIn K C10 = true)
    (gN : PySem.W.specialIn K (.builtin "object.__class__") "__get__" = some (some (.builtin "getset_descriptor.__get__"))) (gT : PySem.W.takesIn K (.builtin "object.__class__") = some true)
    (xL1 : K.lookup C1 = some (excClassObj nm1 qn1 C1 NI1 bs1 [.ref C0, .type "ValueError", .type "Exception", .type "BaseException", .type "object"] true sn1 su1 ab1 co1 dd1 m01 m11 m21 m31 m51 "ValueError.__new__"))
    (sa1 : PySem.W.findIn K (.ref C1) "__setattr__" = some (some (.builtin "object.__setattr__"))) (ga1 : PySem.W.findIn K (.ref C1) "__getattribute__" = some (some (.builtin "BaseException.__getattribute__"))) (gg1 : PySem.W.findIn K (.ref C1) "__getattr__" = some none) (hc1 : PySem.W.findIn K (.ref C1) "__class__" = some (some (.builtin "object.__class__"))) (hm1 : PySem.W.mroIn K C1 (.type "object") = some true) (kC1 : PySem.W.keepIn K (.ref C1) = true)
    (nb1name : PySem.W.findIn K (.ref C1) "name" = some none)
    (iI1 : PySem.W.findIn K (.ref C1) "__init__" = some (some (.ref fI1))) (tI1 : PySem.W.typeIn K (.ref fI1) = some (.type "function")) (lI1 : K.lookup fI1 = some ⟨ocI1, odI1, .func (PySem.W.fnOf "__init__" "NoRelation.__init__" (defArgs sI_1) (defBody sI_1) (defScope sI_1) .none kVI1 dcI1 pmI1 anI1 cdI1 ctI1), slI1⟩) (cI1 : PySem.W.codeIn K cdI1 "NoRelation.__init__" = true) (kI1 : PySem.W.keepIn K (.ref fI1) = true)
    (sb1x0 : PySem.W.subIn K (.ref C1) (.ref C0) = some true)
    (sb1x1 : PySem.W.subIn K (.ref C1) (.ref C1) = some true)
    (sb1x2 : PySem.W.subIn K (.ref C1) (.ref C2) = some false)
    (sb1x3 : PySem.W.subIn K (.ref C1) (.ref C3) = some false)
    (sb1x4 : PySem.W.subIn K (.ref C1) (.ref C4) = some false)
    (sb1x5 : PySem.W.subIn K (.ref C1) (.ref C5) = some false)
    (sb1x6 : PySem.W.subIn K (.ref C1) (.ref C6) = some false)
    (sb1x7 : PySem.W.subIn K (.ref C1) (.ref C7) = some false)
    (sb1x8 : PySem.W.subIn K (.ref C1) (.ref C8) = some false)
    (sb1x9 : PySem.W.subIn K (.ref C1) (.ref C9) = some false)
    (sb1x10 : PySem.W.subIn K (.ref C1) (.ref C10) = some false)
    (xL2 : K.lookup C2 = some (excClassObj nm2 qn2 C2 NI2 bs2 [.ref C0, .type "ValueError", .type "Exception", .type "BaseException", .type "object"] true sn2 su2 ab2 co2 dd2 m02 m12 m22 m32 m52 "ValueError.__new__"))
    (sa2 : PySem.W.findIn K (.ref C2) "__setattr__" = some (some (.builtin "object.__setattr__"))) (ga2 : PySem.W.findIn K (.ref C2) "__getattribute__" = some (some (.builtin "BaseException.__getattribute__"))) (gg2 : PySem.W.findIn K (.ref C2) "__getattr__" = some none) (hc2 : PySem.W.findIn K (.ref C2) "__class__" = some (some (.builtin "object.__class__"))) (hm2 : PySem.W.mroIn K C2 (.type "object") = some true) (kC2 : PySem.W.keepIn K (.ref C2) = true)
    (nb2value : PySem.W.findIn K (.ref C2) "value" = some none)
    (iI2 : PySem.W.findIn K (.ref C2) "__init__" = some (some (.ref fI2))) (tI2 : PySem.W.typeIn K (.ref fI2) = some (.type "function")) (lI2 : K.lookup fI2 = some ⟨ocI2, odI2, .func (PySem.W.fnOf "__init__" "BadValue.__init__" (defArgs sI_2) (defBody sI_2) (defScope sI_2) .none kVI2 dcI2 pmI2 anI2 cdI2 ctI2), slI2⟩) (cI2 : PySem.W.codeIn K cdI2 "BadValue.__init__" = true) (kI2 : PySem.W.keepIn K (.ref fI2) = true)
    (sb2x0 : PySem.W.subIn K (.ref C2) (.ref C0) = some true)
    (sb2x1 : PySem.W.subIn K (.ref C2) (.ref C1) = some false)
    (sb2x2 : PySem.W.subIn K (.ref C2) (.ref C2) = some true)
    (sb2x3 : PySem.W.subIn K (.ref C2) (.ref C3) = some false)
    (sb2x4 : PySem.W.subIn K (.ref C2) (.ref C4) = some false)
    (sb2x5 : PySem.W.subIn K (.ref C2) (.ref C5) = some false)
    (sb2x6 : PySem.W.subIn K (.ref C2) (.ref C6) = some false)
    (sb2x7 : PySem.W.subIn K (.ref C2) (.ref C7) = some false)
    (sb2x8 : PySem.W.subIn K (.ref C2) (.ref C8) = some false)
    (sb2x9 : PySem.W.subIn K (.ref C2) (.ref C9) = some false)
    (sb2x10 : PySem.W.subIn K (.ref C2) (.ref C10) = some false)
    (xL3 : K.lookup C3 = some (excClassObj nm3 qn3 C3 NI3 bs3 [.ref C0, .type "ValueError", .type "Exception", .type "BaseException", .type "object"] true sn3 su3 ab3 co3 dd3 m03 m13 m23 m33 m53 "ValueError.__new__"))
    (sa3 : PySem.W.findIn K (.ref C3) "__setattr__" = some (some (.builtin "object.__setattr__"))) (ga3 : PySem.W.findIn K (.ref C3) "__getattribute__" = some (some (.builtin "BaseException.__getattribute__"))) (gg3 : PySem.W.findIn K (.ref C3) "__getattr__" = some none) (hc3 : PySem.W.findIn K (.ref C3) "__class__" = some (some (.builtin "object.__class__"))) (hm3 : PySem.W.mroIn K C3 (.type "object") = some true) (kC3 : PySem.W.keepIn K (.ref C3) = true)
    (nb3domain : PySem.W.findIn K (.ref C3) "domain" = some none)
    (iI3 : PySem.W.findIn K (.ref C3) "__init__" = some (some (.ref fI3))) (tI3 : PySem.W.typeIn K (.ref fI3) = some (.type "function")) (lI3 : K.lookup fI3 = some ⟨ocI3, odI3, .func (PySem.W.fnOf "__init__" "BadDomain.__init__" (defArgs sI_3) (defBody sI_3) (defScope sI_3) .none kVI3 dcI3 pmI3 anI3 cdI3 ctI3), slI3⟩) (cI3 : PySem.W.codeIn K cdI3 "BadDomain.__init__" = true) (kI3 : PySem.W.keepIn K (.ref fI3) = true)
    (sb3x0 : PySem.W.subIn K (.ref C3) (.ref C0) = some true)
    (sb3x1 : PySem.W.subIn K (.ref C3) (.ref C1) = some false)
    (sb3x2 : PySem.W.subIn K (.ref C3) (.ref C2) = some false)
    (sb3x3 : PySem.W.subIn K (.ref C3) (.ref C3) = some true)
    (sb3x4 : PySem.W.subIn K (.ref C3) (.ref C4) = some false)
    (sb3x5 : PySem.W.subIn K (.ref C3) (.ref C5) = some false)
    (sb3x6 : PySem.W.subIn K (.ref C3) (.ref C6) = some false)
    (sb3x7 : PySem.W.subIn K (.ref C3) (.ref C7) = some false)
    (sb3x8 : PySem.W.subIn K (.ref C3) (.ref C8) = some false)
    (sb3x9 : PySem.W.subIn K (.ref C3) (.ref C9) = some false)
    (sb3x10 : PySem.W.subIn K (.ref C3) (.ref C10) = some false)
    (xL4 : K.lookup C4 = some (excClassObj nm4 qn4 C4 NI4 bs4 [.ref C0, .type "ValueError", .type "Exception", .type "BaseException", .type "object"] true sn4 su4 ab4 co4 dd4 m04 m14 m24 m34 m54 "ValueError.__new__"))
    (sa4 : PySem.W.findIn K (.ref C4) "__setattr__" = some (some (.builtin "object.__setattr__"))) (ga4 : PySem.W.findIn K (.ref C4) "__getattribute__" = some (some (.builtin "BaseException.__getattribute__"))) (gg4 : PySem.W.findIn K (.ref C4) "__getattr__" = some none) (hc4 : PySem.W.findIn K (.ref C4) "__class__" = some (some (.builtin "object.__class__"))) (hm4 : PySem.W.mroIn K C4 (.type "object") = some true) (kC4 : PySem.W.keepIn K (.ref C4) = true)
    (nb4room : PySem.W.findIn K (.ref C4) "room" = some none)
    (iI4 : PySem.W.findIn K (.ref C4) "__init__" = some (some (.ref fI4))) (tI4 : PySem.W.typeIn K (.ref fI4) = some (.type "function")) (lI4 : K.lookup fI4 = some ⟨ocI4, odI4, .func (PySem.W.fnOf "__init__" "BadRoom.__init__" (defArgs sI_4) (defBody sI_4) (defScope sI_4) .none kVI4 dcI4 pmI4 anI4 cdI4 ctI4), slI4⟩) (cI4 : PySem.W.codeIn K cdI4 "BadRoom.__init__" = true) (kI4 : PySem.W.keepIn K (.ref fI4) = true)
    (sb4x0 : PySem.W.subIn K (.ref C4) (.ref C0) = some true)
    (sb4x1 : PySem.W.subIn K (.ref C4) (.ref C1) = some false)
    (sb4x2 : PySem.W.subIn K (.ref C4) (.ref C2) = some false)
    (sb4x3 : PySem.W.subIn K (.ref C4) (.ref C3) = some false)
    (sb4x4 : PySem.W.subIn K (.ref C4) (.ref C4) = some true)
    (sb4x5 : PySem.W.subIn K (.ref C4) (.ref C5) = some false)
    (sb4x6 : PySem.W.subIn K (.ref C4) (.ref C6) = some false)
    (sb4x7 : PySem.W.subIn K (.ref C4) (.ref C7) = some false)
    (sb4x8 : PySem.W.subIn K (.ref C4) (.ref C8) = some false)
    (sb4x9 : PySem.W.subIn K (.ref C4) (.ref C9) = some false)
    (sb4x10 : PySem.W.subIn K (.ref C4) (.ref C10) = some false)
    (xL5 : K.lookup C5 = some (excClassObj nm5 qn5 C5 NI5 bs5 [.ref C0, .type "ValueError", .type "Exception", .type "BaseException", .type "object"] true sn5 su5 ab5 co5 dd5 m05 m15 m25 m35 m55 "ValueError.__new__"))
    (sa5 : PySem.W.findIn K (.ref C5) "__setattr__" = some (some (.builtin "object.__setattr__"))) (ga5 : PySem.W.findIn K (.ref C5) "__getattribute__" = some (some (.builtin "BaseException.__getattribute__"))) (gg5 : PySem.W.findIn K (.ref C5) "__getattr__" = some none) (hc5 : PySem.W.findIn K (.ref C5) "__class__" = some (some (.builtin "object.__class__"))) (hm5 : PySem.W.mroIn K C5 (.type "object") = some true) (kC5 : PySem.W.keepIn K (.ref C5) = true)
    (nb5code : PySem.W.findIn K (.ref C5) "code" = some none)
    (iI5 : PySem.W.findIn K (.ref C5) "__init__" = some (some (.ref fI5))) (tI5 : PySem.W.typeIn K (.ref fI5) = some (.type "function")) (lI5 : K.lookup fI5 = some ⟨ocI5, odI5, .func (PySem.W.fnOf "__init__" "BadCode.__init__" (defArgs sI_5) (defBody sI_5) (defScope sI_5) .none kVI5 dcI5 pmI5 anI5 cdI5 ctI5), slI5⟩) (cI5 : PySem.W.codeIn K cdI5 "BadCode.__init__" = true) (kI5 : PySem.W.keepIn K (.ref fI5) = true)
    (sb5x0 : PySem.W.subIn K (.ref C5) (.ref C0) = some true)
    (sb5x1 : PySem.W.subIn K (.ref C5) (.ref C1) = some false)
    (sb5x2 : PySem.W.subIn K (.ref C5) (.ref C2) = some false)
    (sb5x3 : PySem.W.subIn K (.ref C5) (.ref C3) = some false)
    (sb5x4 : PySem.W.subIn K (.ref C5) (.ref C4) = some false)
    (sb5x5 : PySem.W.subIn K (.ref C5) (.ref C5) = some true)
    (sb5x6 : PySem.W.subIn K (.ref C5) (.ref C6) = some false)
    (sb5x7 : PySem.W.subIn K (.ref C5) (.ref C7) = some false)
    (sb5x8 : PySem.W.subIn K (.ref C5) (.ref C8) = some false)
    (sb5x9 : PySem.W.subIn K (.ref C5) (.ref C9) = some false)
    (sb5x10 : PySem.W.subIn K (.ref C5) (.ref C10) = some false)
    (xL6 : K.lookup C6 = some (excClassObj nm6 qn6 C6 NI6 bs6 [.ref C0, .type "ValueError", .type "Exception", .type "BaseException", .type "object"] true sn6 su6 ab6 co6 dd6 m06 m16 m26 m36 m56 "ValueError.__new__"))
    (sa6 : PySem.W.findIn K (.ref C6) "__setattr__" = some (some (.builtin "object.__setattr__"))) (ga6 : PySem.W.findIn K (.ref C6) "__getattribute__" = some (some (.builtin "BaseException.__getattribute__"))) (gg6 : PySem.W.findIn K (.ref C6) "__getattr__" = some none) (hc6 : PySem.W.findIn K (.ref C6) "__class__" = some (some (.builtin "object.__class__"))) (hm6 : PySem.W.mroIn K C6 (.type "object") = some true) (kC6 : PySem.W.keepIn K (.ref C6) = true)
    (nb6name : PySem.W.findIn K (.ref C6) "name" = some none)
    (iI6 : PySem.W.findIn K (.ref C6) "__init__" = some (some (.ref fI6))) (tI6 : PySem.W.typeIn K (.ref fI6) = some (.type "function")) (lI6 : K.lookup fI6 = some ⟨ocI6, odI6, .func (PySem.W.fnOf "__init__" "Twice.__init__" (defArgs sI_6) (defBody sI_6) (defScope sI_6) .none kVI6 dcI6 pmI6 anI6 cdI6 ctI6), slI6⟩) (cI6 : PySem.W.codeIn K cdI6 "Twice.__init__" = true) (kI6 : PySem.W.keepIn K (.ref fI6) = true)
    (sb6x0 : PySem.W.subIn K (.ref C6) (.ref C0) = some true)
    (sb6x1 : PySem.W.subIn K (.ref C6) (.ref C1) = some false)
    (sb6x2 : PySem.W.subIn K (.ref C6) (.ref C2) = some false)
    (sb6x3 : PySem.W.subIn K (.ref C6) (.ref C3) = some false)
    (sb6x4 : PySem.W.subIn K (.ref C6) (.ref C4) = some false)
    (sb6x5 : PySem.W.subIn K (.ref C6) (.ref C5) = some false)
    (sb6x6 : PySem.W.subIn K (.ref C6) (.ref C6) = some true)
    (sb6x7 : PySem.W.subIn K (.ref C6) (.ref C7) = some false)
    (sb6x8 : PySem.W.subIn K (.ref C6) (.ref C8) = some false)
    (sb6x9 : PySem.W.subIn K (.ref C6) (.ref C9) = some false)
    (sb6x10 : PySem.W.subIn K (.ref C6) (.ref C10) = some false)
    (xL7 : K.lookup C7 = some (excClassObj nm7 qn7 C7 NI7 bs7 [.ref C0, .type "ValueError", .type "Exception", .type "BaseException", .type "object"] true sn7 su7 ab7 co7 dd7 m07 m17 m27 m37 m57 "ValueError.__new__"))
    (sa7 : PySem.W.findIn K (.ref C7) "__setattr__" = some (some (.builtin "object.__setattr__"))) (ga7 : PySem.W.findIn K (.ref C7) "__getattribute__" = some (some (.builtin "BaseException.__getattribute__"))) (gg7 : PySem.W.findIn K (.ref C7) "__getattr__" = some none) (hc7 : PySem.W.findIn K (.ref C7) "__class__" = some (some (.builtin "object.__class__"))) (hm7 : PySem.W.mroIn K C7 (.type "object") = some true) (kC7 : PySem.W.keepIn K (.ref C7) = true)
    (nb7value : PySem.W.findIn K (.ref C7) "value" = some none)
    (iI7 : PySem.W.findIn K (.ref C7) "__init__" = some (some (.ref fI7))) (tI7 : PySem.W.typeIn K (.ref fI7) = some (.type "function")) (lI7 : K.lookup fI7 = some ⟨ocI7, odI7, .func (PySem.W.fnOf "__init__" "Full.__init__" (defArgs sI_7) (defBody sI_7) (defScope sI_7) .none kVI7 dcI7 pmI7 anI7 cdI7 ctI7), slI7⟩) (cI7 : PySem.W.codeIn K cdI7 "Full.__init__" = true) (kI7 : PySem.W.keepIn K (.ref fI7) = true)
    (sb7x0 : PySem.W.subIn K (.ref C7) (.ref C0) = some true)
    (sb7x1 : PySem.W.subIn K (.ref C7) (.ref C1) = some false)
    (sb7x2 : PySem.W.subIn K (.ref C7) (.ref C2) = some false)
    (sb7x3 : PySem.W.subIn K (.ref C7) (.ref C3) = some false)
    (sb7x4 : PySem.W.subIn K (.ref C7) (.ref C4) = some false)
    (sb7x5 : PySem.W.subIn K (.ref C7) (.ref C5) = some false)
    (sb7x6 : PySem.W.subIn K (.ref C7) (.ref C6) = some false)
    (sb7x7 : PySem.W.subIn K (.ref C7) (.ref C7) = some true)
    (sb7x8 : PySem.W.subIn K (.ref C7) (.ref C8) = some false)
    (sb7x9 : PySem.W.subIn K (.ref C7) (.ref C9) = some false)
    (sb7x10 : PySem.W.subIn K (.ref C7) (.ref C10) = some false)
    (xL8 : K.lookup C8 = some (excClassObj nm8 qn8 C8 NI8 bs8 [.ref C0, .type "ValueError", .type "Exception", .type "BaseException", .type "object"] true sn8 su8 ab8 co8 dd8 m08 m18 m28 m38 m58 "ValueError.__new__"))
    (sa8 : PySem.W.findIn K (.ref C8) "__setattr__" = some (some (.builtin "object.__setattr__"))) (ga8 : PySem.W.findIn K (.ref C8) "__getattribute__" = some (some (.builtin "BaseException.__getattribute__"))) (gg8 : PySem.W.findIn K (.ref C8) "__getattr__" = some none) (hc8 : PySem.W.findIn K (.ref C8) "__class__" = some (some (.builtin "object.__class__"))) (hm8 : PySem.W.mroIn K C8 (.type "object") = some true) (kC8 : PySem.W.keepIn K (.ref C8) = true)
    (nb8value : PySem.W.findIn K (.ref C8) "value" = some none)
    (iI8 : PySem.W.findIn K (.ref C8) "__init__" = some (some (.ref fI8))) (tI8 : PySem.W.typeIn K (.ref fI8) = some (.type "function")) (lI8 : K.lookup fI8 = some ⟨ocI8, odI8, .func (PySem.W.fnOf "__init__" "BadBook.__init__" (defArgs sI_8) (defBody sI_8) (defScope sI_8) .none kVI8 dcI8 pmI8 anI8 cdI8 ctI8), slI8⟩) (cI8 : PySem.W.codeIn K cdI8 "BadBook.__init__" = true) (kI8 : PySem.W.keepIn K (.ref fI8) = true)
    (sb8x0 : PySem.W.subIn K (.ref C8) (.ref C0) = some true)
    (sb8x1 : PySem.W.subIn K (.ref C8) (.ref C1) = some false)
    (sb8x2 : PySem.W.subIn K (.ref C8) (.ref C2) = some false)
    (sb8x3 : PySem.W.subIn K (.ref C8) (.ref C3) = some false)
    (sb8x4 : PySem.W.subIn K (.ref C8) (.ref C4) = some false)
    (sb8x5 : PySem.W.subIn K (.ref C8) (.ref C5) = some false)
    (sb8x6 : PySem.W.subIn K (.ref C8) (.ref C6) = some false)
    (sb8x7 : PySem.W.subIn K (.ref C8) (.ref C7) = some false)
    (sb8x8 : PySem.W.subIn K (.ref C8) (.ref C8) = some true)
    (sb8x9 : PySem.W.subIn K (.ref C8) (.ref C9) = some false)
    (sb8x10 : PySem.W.subIn K (.ref C8) (.ref C10) = some false)
    (xL9 : K.lookup C9 = some (excClassObj nm9 qn9 C9 NI9 bs9 [.ref C0, .type "ValueError", .type "Exception", .type "BaseException", .type "object"] true sn9 su9 ab9 co9 dd9 m09 m19 m29 m39 m59 "ValueError.__new__"))
    (sa9 : PySem.W.findIn K (.ref C9) "__setattr__" = some (some (.builtin "object.__setattr__"))) (ga9 : PySem.W.findIn K (.ref C9) "__getattribute__" = some (some (.builtin "BaseException.__getattribute__"))) (gg9 : PySem.W.findIn K (.ref C9) "__getattr__" = some none) (hc9 : PySem.W.findIn K (.ref C9) "__class__" = some (some (.builtin "object.__class__"))) (hm9 : PySem.W.mroIn K C9 (.type "object") = some true) (kC9 : PySem.W.keepIn K (.ref C9) = true)
    (nb9value : PySem.W.findIn K (.ref C9) "value" = some none)
    (iI9 : PySem.W.findIn K (.ref C9) "__init__" = some (some (.ref fI9))) (tI9 : PySem.W.typeIn K (.ref fI9) = some (.type "function")) (lI9 : K.lookup fI9 = some ⟨ocI9, odI9, .func (PySem.W.fnOf "__init__" "NoValue.__init__" (defArgs sI_9) (defBody sI_9) (defScope sI_9) .none kVI9 dcI9 pmI9 anI9 cdI9 ctI9), slI9⟩) (cI9 : PySem.W.codeIn K cdI9 "NoValue.__init__" = true) (kI9 : PySem.W.keepIn K (.ref fI9) = true)
    (sb9x0 : PySem.W.subIn K (.ref C9) (.ref C0) = some true)
    (sb9x1 : PySem.W.subIn K (.ref C9) (.ref C1) = some false)
    (sb9x2 : PySem.W.subIn K (.ref C9) (.ref C2) = some false)
    (sb9x3 : PySem.W.subIn K (.ref C9) (.ref C3) = some false)
    (sb9x4 : PySem.W.subIn K (.ref C9) (.ref C4) = some false)
    (sb9x5 : PySem.W.subIn K (.ref C9) (.ref C5) = some false)
    (sb9x6 : PySem.W.subIn K (.ref C9) (.ref C6) = some false)
    (sb9x7 : PySem.W.subIn K (.ref C9) (.ref C7) = some false)
    (sb9x8 : PySem.W.subIn K (.ref C9) (.ref C8) = some false)
    (sb9x9 : PySem.W.subIn K (.ref C9) (.ref C9) = some true)
    (sb9x10 : PySem.W.subIn K (.ref C9) (.ref C10) = some false)
    (xL10 : K.lookup C10 = some (excClassObj nm10 qn10 C10 NI10 bs10 [.ref C0, .type "ValueError", .type "Exception", .type "BaseException", .type "object"] true sn10 su10 ab10 co10 dd10 m010 m110 m210 m310 m510 "ValueError.__new__"))
    (sa10 : PySem.W.findIn K (.ref C10) "__setattr__" = some (some (.builtin "object.__setattr__"))) (ga10 : PySem.W.findIn K (.ref C10) "__getattribute__" = some (some (.builtin "BaseException.__getattribute__"))) (gg10 : PySem.W.findIn K (.ref C10) "__getattr__" = some none) (hc10 : PySem.W.findIn K (.ref C10) "__class__" = some (some (.builtin "object.__class__"))) (hm10 : PySem.W.mroIn K C10 (.type "object") = some true) (kC10 : PySem.W.keepIn K (.ref C10) = true)
    (nb10room : PySem.W.findIn K (.ref C10) "room" = some none)
    (iI10 : PySem.W.findIn K (.ref C10) "__init__" = some (some (.ref fI10))) (tI10 : PySem.W.typeIn K (.ref fI10) = some (.type "function")) (lI10 : K.lookup fI10 = some ⟨ocI10, odI10, .func (PySem.W.fnOf "__init__" "NoRoom.__init__" (defArgs sI_10) (defBody sI_10) (defScope sI_10) .none kVI10 dcI10 pmI10 anI10 cdI10 ctI10), slI10⟩) (cI10 : PySem.W.codeIn K cdI10 "NoRoom.__init__" = true) (kI10 : PySem.W.keepIn K (.ref fI10) = true)
    (sb10x0 : PySem.W.subIn K (.ref C10) (.ref C0) = some true)
    (sb10x1 : PySem.W.subIn K (.ref C10) (.ref C1) = some false)
    (sb10x2 : PySem.W.subIn K (.ref C10) (.ref C2) = some false)
    (sb10x3 : PySem.W.subIn K (.ref C10) (.ref C3) = some false)
    (sb10x4 : PySem.W.subIn K (.ref C10) (.ref C4) = some false)
    (sb10x5 : PySem.W.subIn K (.ref C10) (.ref C5) = some false)
    (sb10x6 : PySem.W.subIn K (.ref C10) (.ref C6) = some false)
    (sb10x7 : PySem.W.subIn K (.ref C10) (.ref C7) = some false)
    (sb10x8 : PySem.W.subIn K (.ref C10) (.ref C8) = some false)
    (sb10x9 : PySem.W.subIn K (.ref C10) (.ref C9) = some false)
    (sb10x10 : PySem.W.subIn K (.ref C10) (.ref C10) = some true)
    (z0 : PySem.W.nsIn K mainGlobals "abs" = some none) (z1 : PySem.W.nsIn K mainGlobals "all" = some none) (z2 : PySem.W.nsIn K mainGlobals "bool" = some none) (z3 : PySem.W.nsIn K mainGlobals "dict" = some none) (z4 : PySem.W.nsIn K mainGlobals "enumerate" = some none) (z5 : PySem.W.nsIn K mainGlobals "int" = some none) (z6 : PySem.W.nsIn K mainGlobals "isinstance" = some none) (z7 : PySem.W.nsIn K mainGlobals "len" = some none) (z8 : PySem.W.nsIn K mainGlobals "list" = some none) (z9 : PySem.W.nsIn K mainGlobals "max" = some none) (z10 : PySem.W.nsIn K mainGlobals "min" = some none) (z11 : PySem.W.nsIn K mainGlobals "range" = some none) (z12 : PySem.W.nsIn K mainGlobals "reversed" = some none) (z13 : PySem.W.nsIn K mainGlobals "set" = some none) (z14 : PySem.W.nsIn K mainGlobals "sorted" = some none) (z15 : PySem.W.nsIn K mainGlobals "str" = some none) (z16 : PySem.W.nsIn K mainGlobals "sum" = some none) (z17 : PySem.W.nsIn K mainGlobals "tuple" = some none) (z18 : PySem.W.nsIn K mainGlobals "zip" = some none) :
    ∃ fd : FuncData, (∀ (s : Shared) (v : Value), BindsTo s fd ⟨[v], []⟩ [("_law_script", v)]) ∧ ∀ base : Heap, K.In base → base.Ns mainGlobals mg → FnOk l.prog w K mg base CX0 8 fa fd ["_law_script"] (spOf K 1 fsLaw) := by
  have e := hfa.symm.trans (PySem.W.mg_of X G a31)
  cases e
  have F1 := fun_mk (st := s_in_order) l1 c1 k1
  have F2 := fun_mk (st := s_told_by_first) l2 c2 k2
  have F3 := fun_mk (st := s_kept_by) l3 c3 k3
  have F4 := fun_mk (st := s_is_word) l4 c4 k4
  have F5 := fun_mk (st := s_is_value) l5 c5 k5
  have F6 := fun_mk (st := s_check_room) l6 c6 k6
  have F7 := fun_mk (st := s_is_code) l7 c7 k7
  have F8 := funV_mk (st := s_Book___init__) l8 c8 k8
  have F9 := fun_mk (st := s_Book_strays) l9 c9 k9
  have F10 := fun_mk (st := s_Book___contains__) l10 c10 k10
  have F11 := fun_mk (st := s_Book_code_of) l11 c11 k11
  have F12 := fun_mk (st := s_leads) l12 c12 k12
  have F13 := fun_mk (st := s_Mending___init__) l13 c13 k13
  have F14 := fun_mk (st := s_heights_of) l14 c14 k14
  have F15 := fun_mk (st := s_kept_ranks) l15 c15 k15
  have F16 := fun_mk (st := s_spread_leads) l16 c16 k16
  have F17 := fun_mk (st := s_clash_chains) l17 c17 k17
  have F18 := fun_mk (st := s_mend_book) l18 c18 k18
  have F19 := fun_mk (st := s_l_take) l19 c19 k19
  have F20 := fun_mk (st := s_l_whole) l20 c20 k20
  have F21 := fun_mk (st := s_l_words) l21 c21 k21
  have F22 := fun_mk (st := s_l_room) l22 c22 k22
  have F23 := fun_mk (st := s_l_codes) l23 c23 k23
  have F24 := fun_mk (st := s_l_values) l24 c24 k24
  have F25 := fun_mk (st := s_l_weights) l25 c25 k25
  have F26 := fun_mk (st := s_l_subsets) l26 c26 k26
  have F27 := fun_mk (st := s_l_can) l27 c27 k27
  have F28 := fun_mk (st := s_l_least) l28 c28 k28
  have F29 := fun_mk (st := s_l_mended) l29 c29 k29
  have F30 := fun_mk (st := s_l_good) l30 c30 k30
  have F31 := fun_mk (st := s_law) l31 c31 k31
  have FI1 := fun_mk (st := sI_1) lI1 cI1 kI1
  have o1 : OexC K C1 := ⟨⟨_, _, _, _, _, _, _, _, _, _, _, _, _, _, _, xL1, rfl⟩, sa1, eC1, tC1, kC1⟩
  have x1 : ExcC K C1 := ⟨ga1, gg1, eC1, hd1, hc1, gN, gT, hm1⟩
  have y1 : XfC K C1 := ⟨ga1, gg1, eC1, hd1⟩
  have FI2 := fun_mk (st := sI_2) lI2 cI2 kI2
  have o2 : OexC K C2 := ⟨⟨_, _, _, _, _, _, _, _, _, _, _, _, _, _, _, xL2, rfl⟩, sa2, eC2, tC2, kC2⟩
  have x2 : ExcC K C2 := ⟨ga2, gg2, eC2, hd2, hc2, gN, gT, hm2⟩
  have y2 : XfC K C2 := ⟨ga2, gg2, eC2, hd2⟩
  have FI3 := fun_mk (st := sI_3) lI3 cI3 kI3
  have o3 : OexC K C3 := ⟨⟨_, _, _, _, _, _, _, _, _, _, _, _, _, _, _, xL3, rfl⟩, sa3, eC3, tC3, kC3⟩
  have x3 : ExcC K C3 := ⟨ga3, gg3, eC3, hd3, hc3, gN, gT, hm3⟩
  have y3 : XfC K C3 := ⟨ga3, gg3, eC3, hd3⟩
  have FI4 := fun_mk (st := sI_4) lI4 cI4 kI4
  have o4 : OexC K C4 := ⟨⟨_, _, _, _, _, _, _, _, _, _, _, _, _, _, _, xL4, rfl⟩, sa4, eC4, tC4, kC4⟩
  have x4 : ExcC K C4 := ⟨ga4, gg4, eC4, hd4, hc4, gN, gT, hm4⟩
  have y4 : XfC K C4 := ⟨ga4, gg4, eC4, hd4⟩
  have FI5 := fun_mk (st := sI_5) lI5 cI5 kI5
  have o5 : OexC K C5 := ⟨⟨_, _, _, _, _, _, _, _, _, _, _, _, _, _, _, xL5, rfl⟩, sa5, eC5, tC5, kC5⟩
  have x5 : ExcC K C5 := ⟨ga5, gg5, eC5, hd5, hc5, gN, gT, hm5⟩
  have y5 : XfC K C5 := ⟨ga5, gg5, eC5, hd5⟩
  have FI6 := fun_mk (st := sI_6) lI6 cI6 kI6
  have o6 : OexC K C6 := ⟨⟨_, _, _, _, _, _, _, _, _, _, _, _, _, _, _, xL6, rfl⟩, sa6, eC6, tC6, kC6⟩
  have x6 : ExcC K C6 := ⟨ga6, gg6, eC6, hd6, hc6, gN, gT, hm6⟩
  have y6 : XfC K C6 := ⟨ga6, gg6, eC6, hd6⟩
  have FI7 := fun_mk (st := sI_7) lI7 cI7 kI7
  have o7 : OexC K C7 := ⟨⟨_, _, _, _, _, _, _, _, _, _, _, _, _, _, _, xL7, rfl⟩, sa7, eC7, tC7, kC7⟩
  have x7 : ExcC K C7 := ⟨ga7, gg7, eC7, hd7, hc7, gN, gT, hm7⟩
  have y7 : XfC K C7 := ⟨ga7, gg7, eC7, hd7⟩
  have FI8 := fun_mk (st := sI_8) lI8 cI8 kI8
  have o8 : OexC K C8 := ⟨⟨_, _, _, _, _, _, _, _, _, _, _, _, _, _, _, xL8, rfl⟩, sa8, eC8, tC8, kC8⟩
  have x8 : ExcC K C8 := ⟨ga8, gg8, eC8, hd8, hc8, gN, gT, hm8⟩
  have y8 : XfC K C8 := ⟨ga8, gg8, eC8, hd8⟩
  have FI9 := fun_mk (st := sI_9) lI9 cI9 kI9
  have o9 : OexC K C9 := ⟨⟨_, _, _, _, _, _, _, _, _, _, _, _, _, _, _, xL9, rfl⟩, sa9, eC9, tC9, kC9⟩
  have x9 : ExcC K C9 := ⟨ga9, gg9, eC9, hd9, hc9, gN, gT, hm9⟩
  have y9 : XfC K C9 := ⟨ga9, gg9, eC9, hd9⟩
  have FI10 := fun_mk (st := sI_10) lI10 cI10 kI10
  have o10 : OexC K C10 := ⟨⟨_, _, _, _, _, _, _, _, _, _, _, _, _, _, _, xL10, rfl⟩, sa10, eC10, tC10, kC10⟩
  have x10 : ExcC K C10 := ⟨ga10, gg10, eC10, hd10, hc10, gN, gT, hm10⟩
  have y10 : XfC K C10 := ⟨ga10, gg10, eC10, hd10⟩
  have eK0 : ctOf K "Book" = CK0 := ctOf_of aK0
  have eK1 : ctOf K "Mending" = CK1 := ctOf_of aK1
  let T : Txt K mg := {
    ct := fun n => match n with | 0 => C0 | 1 => C1 | 2 => C2 | 3 => C3 | 4 => C4 | 5 => C5 | 6 => C6 | 7 => C7 | 8 => C8 | 9 => C9 | 10 => C10 | _ => C0,
    gC_0 := PySem.W.mg_of X G aC0,
    gC_1 := PySem.W.mg_of X G aC1,
    gC_2 := PySem.W.mg_of X G aC2,
    gC_3 := PySem.W.mg_of X G aC3,
    gC_4 := PySem.W.mg_of X G aC4,
    gC_5 := PySem.W.mg_of X G aC5,
    gC_6 := PySem.W.mg_of X G aC6,
    gC_7 := PySem.W.mg_of X G aC7,
    gC_8 := PySem.W.mg_of X G aC8,
    gC_9 := PySem.W.mg_of X G aC9,
    gC_10 := PySem.W.mg_of X G aC10,
    fI_1 := fI1, dI_1 := _, FI_1 := FI1, bi_1 := FI1.binds fun _ _ _ _ _ _ us hl => match us, hl with | [_, _], _ => rfl,
    e_1 := ⟨o1, PySem.W.mg_of X G aC1, iI1, tI1⟩,
    nf_1_name := nb1name,
    fI_2 := fI2, dI_2 := _, FI_2 := FI2, bi_2 := FI2.binds fun _ _ _ _ _ _ us hl => match us, hl with | [_, _], _ => rfl,
    e_2 := ⟨o2, PySem.W.mg_of X G aC2, iI2, tI2⟩,
    nf_2_value := nb2value,
    fI_3 := fI3, dI_3 := _, FI_3 := FI3, bi_3 := FI3.binds fun _ _ _ _ _ _ us hl => match us, hl with | [_, _], _ => rfl,
    e_3 := ⟨o3, PySem.W.mg_of X G aC3, iI3, tI3⟩,
    nf_3_domain := nb3domain,
    fI_4 := fI4, dI_4 := _, FI_4 := FI4, bi_4 := FI4.binds fun _ _ _ _ _ _ us hl => match us, hl with | [_, _], _ => rfl,
    e_4 := ⟨o4, PySem.W.mg_of X G aC4, iI4, tI4⟩,
    nf_4_room := nb4room,
    fI_5 := fI5, dI_5 := _, FI_5 := FI5, bi_5 := FI5.binds fun _ _ _ _ _ _ us hl => match us, hl with | [_, _], _ => rfl,
    e_5 := ⟨o5, PySem.W.mg_of X G aC5, iI5, tI5⟩,
    nf_5_code := nb5code,
    fI_6 := fI6, dI_6 := _, FI_6 := FI6, bi_6 := FI6.binds fun _ _ _ _ _ _ us hl => match us, hl with | [_, _], _ => rfl,
    e_6 := ⟨o6, PySem.W.mg_of X G aC6, iI6, tI6⟩,
    nf_6_name := nb6name,
    fI_7 := fI7, dI_7 := _, FI_7 := FI7, bi_7 := FI7.binds fun _ _ _ _ _ _ us hl => match us, hl with | [_, _], _ => rfl,
    e_7 := ⟨o7, PySem.W.mg_of X G aC7, iI7, tI7⟩,
    nf_7_value := nb7value,
    fI_8 := fI8, dI_8 := _, FI_8 := FI8, bi_8 := FI8.binds fun _ _ _ _ _ _ us hl => match us, hl with | [_, _], _ => rfl,
    e_8 := ⟨o8, PySem.W.mg_of X G aC8, iI8, tI8⟩,
    nf_8_value := nb8value,
    fI_9 := fI9, dI_9 := _, FI_9 := FI9, bi_9 := FI9.binds fun _ _ _ _ _ _ us hl => match us, hl with | [_, _], _ => rfl,
    e_9 := ⟨o9, PySem.W.mg_of X G aC9, iI9, tI9⟩,
    nf_9_value := nb9value,
    fI_10 := fI10, dI_10 := _, FI_10 := FI10, bi_10 := FI10.binds fun _ _ _ _ _ _ us hl => match us, hl with | [_, _], _ => rfl,
    e_10 := ⟨o10, PySem.W.mg_of X G aC10, iI10, tI10⟩,
    nf_10_room := nb10room,
    hrd := fun n f h => match n, f, h with | 1, f, h => ⟨y1, by rcases (by simpa [exRd] using h : f = "name") with rfl <;> assumption⟩ | 2, f, h => ⟨y2, by rcases (by simpa [exRd] using h : f = "value") with rfl <;> assumption⟩ | 3, f, h => ⟨y3, by rcases (by simpa [exRd] using h : f = "domain") with rfl <;> assumption⟩ | 4, f, h => ⟨y4, by rcases (by simpa [exRd] using h : f = "room") with rfl <;> assumption⟩ | 5, f, h => ⟨y5, by rcases (by simpa [exRd] using h : f = "code") with rfl <;> assumption⟩ | 6, f, h => ⟨y6, by rcases (by simpa [exRd] using h : f = "name") with rfl <;> assumption⟩ | 7, f, h => ⟨y7, by rcases (by simpa [exRd] using h : f = "value") with rfl <;> assumption⟩ | 8, f, h => ⟨y8, by rcases (by simpa [exRd] using h : f = "value") with rfl <;> assumption⟩ | 9, f, h => ⟨y9, by rcases (by simpa [exRd] using h : f = "value") with rfl <;> assumption⟩ | 10, f, h => ⟨y10, by rcases (by simpa [exRd] using h : f = "room") with rfl <;> assumption⟩ | 0, f, h => by simp [exRd] at h | n + 11, f, h => by simp [exRd] at h,
    hkit := fun n t b h => (by
      unfold exKit at h
      split at h
      · unfold exKit_1 at h
        split at h
        · cases h; exact ⟨x1, kit_ref hd0 tC0 sb1x1 sb1x0⟩
        · cases h; exact ⟨x1, kit_ref hd1 tC1 sb1x1 sb1x1⟩
        · cases h; exact ⟨x1, kit_ref hd2 tC2 sb1x1 sb1x2⟩
        · cases h; exact ⟨x1, kit_ref hd3 tC3 sb1x1 sb1x3⟩
        · cases h; exact ⟨x1, kit_ref hd4 tC4 sb1x1 sb1x4⟩
        · cases h; exact ⟨x1, kit_ref hd5 tC5 sb1x1 sb1x5⟩
        · cases h; exact ⟨x1, kit_ref hd6 tC6 sb1x1 sb1x6⟩
        · cases h; exact ⟨x1, kit_ref hd7 tC7 sb1x1 sb1x7⟩
        · cases h; exact ⟨x1, kit_ref hd8 tC8 sb1x1 sb1x8⟩
        · cases h; exact ⟨x1, kit_ref hd9 tC9 sb1x1 sb1x9⟩
        · cases h; exact ⟨x1, kit_ref hd10 tC10 sb1x1 sb1x10⟩
        · cases h
      · unfold exKit_2 at h
        split at h
        · cases h; exact ⟨x2, kit_ref hd0 tC0 sb2x2 sb2x0⟩
        · cases h; exact ⟨x2, kit_ref hd1 tC1 sb2x2 sb2x1⟩
        · cases h; exact ⟨x2, kit_ref hd2 tC2 sb2x2 sb2x2⟩
        · cases h; exact ⟨x2, kit_ref hd3 tC3 sb2x2 sb2x3⟩
        · cases h; exact ⟨x2, kit_ref hd4 tC4 sb2x2 sb2x4⟩
        · cases h; exact ⟨x2, kit_ref hd5 tC5 sb2x2 sb2x5⟩
        · cases h; exact ⟨x2, kit_ref hd6 tC6 sb2x2 sb2x6⟩
        · cases h; exact ⟨x2, kit_ref hd7 tC7 sb2x2 sb2x7⟩
        · cases h; exact ⟨x2, kit_ref hd8 tC8 sb2x2 sb2x8⟩
        · cases h; exact ⟨x2, kit_ref hd9 tC9 sb2x2 sb2x9⟩
        · cases h; exact ⟨x2, kit_ref hd10 tC10 sb2x2 sb2x10⟩
        · cases h
      · unfold exKit_3 at h
        split at h
        · cases h; exact ⟨x3, kit_ref hd0 tC0 sb3x3 sb3x0⟩
        · cases h; exact ⟨x3, kit_ref hd1 tC1 sb3x3 sb3x1⟩
        · cases h; exact ⟨x3, kit_ref hd2 tC2 sb3x3 sb3x2⟩
        · cases h; exact ⟨x3, kit_ref hd3 tC3 sb3x3 sb3x3⟩
        · cases h; exact ⟨x3, kit_ref hd4 tC4 sb3x3 sb3x4⟩
        · cases h; exact ⟨x3, kit_ref hd5 tC5 sb3x3 sb3x5⟩
        · cases h; exact ⟨x3, kit_ref hd6 tC6 sb3x3 sb3x6⟩
        · cases h; exact ⟨x3, kit_ref hd7 tC7 sb3x3 sb3x7⟩
        · cases h; exact ⟨x3, kit_ref hd8 tC8 sb3x3 sb3x8⟩
        · cases h; exact ⟨x3, kit_ref hd9 tC9 sb3x3 sb3x9⟩
        · cases h; exact ⟨x3, kit_ref hd10 tC10 sb3x3 sb3x10⟩
        · cases h
      · unfold exKit_4 at h
        split at h
        · cases h; exact ⟨x4, kit_ref hd0 tC0 sb4x4 sb4x0⟩
        · cases h; exact ⟨x4, kit_ref hd1 tC1 sb4x4 sb4x1⟩
        · cases h; exact ⟨x4, kit_ref hd2 tC2 sb4x4 sb4x2⟩
        · cases h; exact ⟨x4, kit_ref hd3 tC3 sb4x4 sb4x3⟩
        · cases h; exact ⟨x4, kit_ref hd4 tC4 sb4x4 sb4x4⟩
        · cases h; exact ⟨x4, kit_ref hd5 tC5 sb4x4 sb4x5⟩
        · cases h; exact ⟨x4, kit_ref hd6 tC6 sb4x4 sb4x6⟩
        · cases h; exact ⟨x4, kit_ref hd7 tC7 sb4x4 sb4x7⟩
        · cases h; exact ⟨x4, kit_ref hd8 tC8 sb4x4 sb4x8⟩
        · cases h; exact ⟨x4, kit_ref hd9 tC9 sb4x4 sb4x9⟩
        · cases h; exact ⟨x4, kit_ref hd10 tC10 sb4x4 sb4x10⟩
        · cases h
      · unfold exKit_5 at h
        split at h
        · cases h; exact ⟨x5, kit_ref hd0 tC0 sb5x5 sb5x0⟩
        · cases h; exact ⟨x5, kit_ref hd1 tC1 sb5x5 sb5x1⟩
        · cases h; exact ⟨x5, kit_ref hd2 tC2 sb5x5 sb5x2⟩
        · cases h; exact ⟨x5, kit_ref hd3 tC3 sb5x5 sb5x3⟩
        · cases h; exact ⟨x5, kit_ref hd4 tC4 sb5x5 sb5x4⟩
        · cases h; exact ⟨x5, kit_ref hd5 tC5 sb5x5 sb5x5⟩
        · cases h; exact ⟨x5, kit_ref hd6 tC6 sb5x5 sb5x6⟩
        · cases h; exact ⟨x5, kit_ref hd7 tC7 sb5x5 sb5x7⟩
        · cases h; exact ⟨x5, kit_ref hd8 tC8 sb5x5 sb5x8⟩
        · cases h; exact ⟨x5, kit_ref hd9 tC9 sb5x5 sb5x9⟩
        · cases h; exact ⟨x5, kit_ref hd10 tC10 sb5x5 sb5x10⟩
        · cases h
      · unfold exKit_6 at h
        split at h
        · cases h; exact ⟨x6, kit_ref hd0 tC0 sb6x6 sb6x0⟩
        · cases h; exact ⟨x6, kit_ref hd1 tC1 sb6x6 sb6x1⟩
        · cases h; exact ⟨x6, kit_ref hd2 tC2 sb6x6 sb6x2⟩
        · cases h; exact ⟨x6, kit_ref hd3 tC3 sb6x6 sb6x3⟩
        · cases h; exact ⟨x6, kit_ref hd4 tC4 sb6x6 sb6x4⟩
        · cases h; exact ⟨x6, kit_ref hd5 tC5 sb6x6 sb6x5⟩
        · cases h; exact ⟨x6, kit_ref hd6 tC6 sb6x6 sb6x6⟩
        · cases h; exact ⟨x6, kit_ref hd7 tC7 sb6x6 sb6x7⟩
        · cases h; exact ⟨x6, kit_ref hd8 tC8 sb6x6 sb6x8⟩
        · cases h; exact ⟨x6, kit_ref hd9 tC9 sb6x6 sb6x9⟩
        · cases h; exact ⟨x6, kit_ref hd10 tC10 sb6x6 sb6x10⟩
        · cases h
      · unfold exKit_7 at h
        split at h
        · cases h; exact ⟨x7, kit_ref hd0 tC0 sb7x7 sb7x0⟩
        · cases h; exact ⟨x7, kit_ref hd1 tC1 sb7x7 sb7x1⟩
        · cases h; exact ⟨x7, kit_ref hd2 tC2 sb7x7 sb7x2⟩
        · cases h; exact ⟨x7, kit_ref hd3 tC3 sb7x7 sb7x3⟩
        · cases h; exact ⟨x7, kit_ref hd4 tC4 sb7x7 sb7x4⟩
        · cases h; exact ⟨x7, kit_ref hd5 tC5 sb7x7 sb7x5⟩
        · cases h; exact ⟨x7, kit_ref hd6 tC6 sb7x7 sb7x6⟩
        · cases h; exact ⟨x7, kit_ref hd7 tC7 sb7x7 sb7x7⟩
        · cases h; exact ⟨x7, kit_ref hd8 tC8 sb7x7 sb7x8⟩
        · cases h; exact ⟨x7, kit_ref hd9 tC9 sb7x7 sb7x9⟩
        · cases h; exact ⟨x7, kit_ref hd10 tC10 sb7x7 sb7x10⟩
        · cases h
      · unfold exKit_8 at h
        split at h
        · cases h; exact ⟨x8, kit_ref hd0 tC0 sb8x8 sb8x0⟩
        · cases h; exact ⟨x8, kit_ref hd1 tC1 sb8x8 sb8x1⟩
        · cases h; exact ⟨x8, kit_ref hd2 tC2 sb8x8 sb8x2⟩
        · cases h; exact ⟨x8, kit_ref hd3 tC3 sb8x8 sb8x3⟩
        · cases h; exact ⟨x8, kit_ref hd4 tC4 sb8x8 sb8x4⟩
        · cases h; exact ⟨x8, kit_ref hd5 tC5 sb8x8 sb8x5⟩
        · cases h; exact ⟨x8, kit_ref hd6 tC6 sb8x8 sb8x6⟩
        · cases h; exact ⟨x8, kit_ref hd7 tC7 sb8x8 sb8x7⟩
        · cases h; exact ⟨x8, kit_ref hd8 tC8 sb8x8 sb8x8⟩
        · cases h; exact ⟨x8, kit_ref hd9 tC9 sb8x8 sb8x9⟩
        · cases h; exact ⟨x8, kit_ref hd10 tC10 sb8x8 sb8x10⟩
        · cases h
      · unfold exKit_9 at h
        split at h
        · cases h; exact ⟨x9, kit_ref hd0 tC0 sb9x9 sb9x0⟩
        · cases h; exact ⟨x9, kit_ref hd1 tC1 sb9x9 sb9x1⟩
        · cases h; exact ⟨x9, kit_ref hd2 tC2 sb9x9 sb9x2⟩
        · cases h; exact ⟨x9, kit_ref hd3 tC3 sb9x9 sb9x3⟩
        · cases h; exact ⟨x9, kit_ref hd4 tC4 sb9x9 sb9x4⟩
        · cases h; exact ⟨x9, kit_ref hd5 tC5 sb9x9 sb9x5⟩
        · cases h; exact ⟨x9, kit_ref hd6 tC6 sb9x9 sb9x6⟩
        · cases h; exact ⟨x9, kit_ref hd7 tC7 sb9x9 sb9x7⟩
        · cases h; exact ⟨x9, kit_ref hd8 tC8 sb9x9 sb9x8⟩
        · cases h; exact ⟨x9, kit_ref hd9 tC9 sb9x9 sb9x9⟩
        · cases h; exact ⟨x9, kit_ref hd10 tC10 sb9x9 sb9x10⟩
        · cases h
      · unfold exKit_10 at h
        split at h
        · cases h; exact ⟨x10, kit_ref hd0 tC0 sb10x10 sb10x0⟩
        · cases h; exact ⟨x10, kit_ref hd1 tC1 sb10x10 sb10x1⟩
        · cases h; exact ⟨x10, kit_ref hd2 tC2 sb10x10 sb10x2⟩
        · cases h; exact ⟨x10, kit_ref hd3 tC3 sb10x10 sb10x3⟩
        · cases h; exact ⟨x10, kit_ref hd4 tC4 sb10x10 sb10x4⟩
        · cases h; exact ⟨x10, kit_ref hd5 tC5 sb10x10 sb10x5⟩
        · cases h; exact ⟨x10, kit_ref hd6 tC6 sb10x10 sb10x6⟩
        · cases h; exact ⟨x10, kit_ref hd7 tC7 sb10x10 sb10x7⟩
        · cases h; exact ⟨x10, kit_ref hd8 tC8 sb10x10 sb10x8⟩
        · cases h; exact ⟨x10, kit_ref hd9 tC9 sb10x10 sb10x9⟩
        · cases h; exact ⟨x10, kit_ref hd10 tC10 sb10x10 sb10x10⟩
        · cases h
      · cases h),
    hsub_0 := fun n b h => match n, h with | 1, h => by cases h; exact PySem.W.exm_ref eC0 hd0 tC0 sb1x0 | 2, h => by cases h; exact PySem.W.exm_ref eC0 hd0 tC0 sb2x0 | 3, h => by cases h; exact PySem.W.exm_ref eC0 hd0 tC0 sb3x0 | 4, h => by cases h; exact PySem.W.exm_ref eC0 hd0 tC0 sb4x0 | 5, h => by cases h; exact PySem.W.exm_ref eC0 hd0 tC0 sb5x0 | 6, h => by cases h; exact PySem.W.exm_ref eC0 hd0 tC0 sb6x0 | 7, h => by cases h; exact PySem.W.exm_ref eC0 hd0 tC0 sb7x0 | 8, h => by cases h; exact PySem.W.exm_ref eC0 hd0 tC0 sb8x0 | 9, h => by cases h; exact PySem.W.exm_ref eC0 hd0 tC0 sb9x0 | 10, h => by cases h; exact PySem.W.exm_ref eC0 hd0 tC0 sb10x0 | 0, h => by cases h | n + 11, h => by simp [exSub_0, exKit] at h,
    hsub_1 := fun n b h => match n, h with | 1, h => by cases h; exact PySem.W.exm_ref eC1 hd1 tC1 sb1x1 | 2, h => by cases h; exact PySem.W.exm_ref eC1 hd1 tC1 sb2x1 | 3, h => by cases h; exact PySem.W.exm_ref eC1 hd1 tC1 sb3x1 | 4, h => by cases h; exact PySem.W.exm_ref eC1 hd1 tC1 sb4x1 | 5, h => by cases h; exact PySem.W.exm_ref eC1 hd1 tC1 sb5x1 | 6, h => by cases h; exact PySem.W.exm_ref eC1 hd1 tC1 sb6x1 | 7, h => by cases h; exact PySem.W.exm_ref eC1 hd1 tC1 sb7x1 | 8, h => by cases h; exact PySem.W.exm_ref eC1 hd1 tC1 sb8x1 | 9, h => by cases h; exact PySem.W.exm_ref eC1 hd1 tC1 sb9x1 | 10, h => by cases h; exact PySem.W.exm_ref eC1 hd1 tC1 sb10x1 | 0, h => by cases h | n + 11, h => by simp [exSub_1, exKit] at h,
    hsub_2 := fun n b h => match n, h with | 1, h => by cases h; exact PySem.W.exm_ref eC2 hd2 tC2 sb1x2 | 2, h => by cases h; exact PySem.W.exm_ref eC2 hd2 tC2 sb2x2 | 3, h => by cases h; exact PySem.W.exm_ref eC2 hd2 tC2 sb3x2 | 4, h => by cases h; exact PySem.W.exm_ref eC2 hd2 tC2 sb4x2 | 5, h => by cases h; exact PySem.W.exm_ref eC2 hd2 tC2 sb5x2 | 6, h => by cases h; exact PySem.W.exm_ref eC2 hd2 tC2 sb6x2 | 7, h => by cases h; exact PySem.W.exm_ref eC2 hd2 tC2 sb7x2 | 8, h => by cases h; exact PySem.W.exm_ref eC2 hd2 tC2 sb8x2 | 9, h => by cases h; exact PySem.W.exm_ref eC2 hd2 tC2 sb9x2 | 10, h => by cases h; exact PySem.W.exm_ref eC2 hd2 tC2 sb10x2 | 0, h => by cases h | n + 11, h => by simp [exSub_2, exKit] at h,
    hsub_3 := fun n b h => match n, h with | 1, h => by cases h; exact PySem.W.exm_ref eC3 hd3 tC3 sb1x3 | 2, h => by cases h; exact PySem.W.exm_ref eC3 hd3 tC3 sb2x3 | 3, h => by cases h; exact PySem.W.exm_ref eC3 hd3 tC3 sb3x3 | 4, h => by cases h; exact PySem.W.exm_ref eC3 hd3 tC3 sb4x3 | 5, h => by cases h; exact PySem.W.exm_ref eC3 hd3 tC3 sb5x3 | 6, h => by cases h; exact PySem.W.exm_ref eC3 hd3 tC3 sb6x3 | 7, h => by cases h; exact PySem.W.exm_ref eC3 hd3 tC3 sb7x3 | 8, h => by cases h; exact PySem.W.exm_ref eC3 hd3 tC3 sb8x3 | 9, h => by cases h; exact PySem.W.exm_ref eC3 hd3 tC3 sb9x3 | 10, h => by cases h; exact PySem.W.exm_ref eC3 hd3 tC3 sb10x3 | 0, h => by cases h | n + 11, h => by simp [exSub_3, exKit] at h,
    hsub_4 := fun n b h => match n, h with | 1, h => by cases h; exact PySem.W.exm_ref eC4 hd4 tC4 sb1x4 | 2, h => by cases h; exact PySem.W.exm_ref eC4 hd4 tC4 sb2x4 | 3, h => by cases h; exact PySem.W.exm_ref eC4 hd4 tC4 sb3x4 | 4, h => by cases h; exact PySem.W.exm_ref eC4 hd4 tC4 sb4x4 | 5, h => by cases h; exact PySem.W.exm_ref eC4 hd4 tC4 sb5x4 | 6, h => by cases h; exact PySem.W.exm_ref eC4 hd4 tC4 sb6x4 | 7, h => by cases h; exact PySem.W.exm_ref eC4 hd4 tC4 sb7x4 | 8, h => by cases h; exact PySem.W.exm_ref eC4 hd4 tC4 sb8x4 | 9, h => by cases h; exact PySem.W.exm_ref eC4 hd4 tC4 sb9x4 | 10, h => by cases h; exact PySem.W.exm_ref eC4 hd4 tC4 sb10x4 | 0, h => by cases h | n + 11, h => by simp [exSub_4, exKit] at h,
    hsub_5 := fun n b h => match n, h with | 1, h => by cases h; exact PySem.W.exm_ref eC5 hd5 tC5 sb1x5 | 2, h => by cases h; exact PySem.W.exm_ref eC5 hd5 tC5 sb2x5 | 3, h => by cases h; exact PySem.W.exm_ref eC5 hd5 tC5 sb3x5 | 4, h => by cases h; exact PySem.W.exm_ref eC5 hd5 tC5 sb4x5 | 5, h => by cases h; exact PySem.W.exm_ref eC5 hd5 tC5 sb5x5 | 6, h => by cases h; exact PySem.W.exm_ref eC5 hd5 tC5 sb6x5 | 7, h => by cases h; exact PySem.W.exm_ref eC5 hd5 tC5 sb7x5 | 8, h => by cases h; exact PySem.W.exm_ref eC5 hd5 tC5 sb8x5 | 9, h => by cases h; exact PySem.W.exm_ref eC5 hd5 tC5 sb9x5 | 10, h => by cases h; exact PySem.W.exm_ref eC5 hd5 tC5 sb10x5 | 0, h => by cases h | n + 11, h => by simp [exSub_5, exKit] at h,
    hsub_6 := fun n b h => match n, h with | 1, h => by cases h; exact PySem.W.exm_ref eC6 hd6 tC6 sb1x6 | 2, h => by cases h; exact PySem.W.exm_ref eC6 hd6 tC6 sb2x6 | 3, h => by cases h; exact PySem.W.exm_ref eC6 hd6 tC6 sb3x6 | 4, h => by cases h; exact PySem.W.exm_ref eC6 hd6 tC6 sb4x6 | 5, h => by cases h; exact PySem.W.exm_ref eC6 hd6 tC6 sb5x6 | 6, h => by cases h; exact PySem.W.exm_ref eC6 hd6 tC6 sb6x6 | 7, h => by cases h; exact PySem.W.exm_ref eC6 hd6 tC6 sb7x6 | 8, h => by cases h; exact PySem.W.exm_ref eC6 hd6 tC6 sb8x6 | 9, h => by cases h; exact PySem.W.exm_ref eC6 hd6 tC6 sb9x6 | 10, h => by cases h; exact PySem.W.exm_ref eC6 hd6 tC6 sb10x6 | 0, h => by cases h | n + 11, h => by simp [exSub_6, exKit] at h,
    hsub_7 := fun n b h => match n, h with | 1, h => by cases h; exact PySem.W.exm_ref eC7 hd7 tC7 sb1x7 | 2, h => by cases h; exact PySem.W.exm_ref eC7 hd7 tC7 sb2x7 | 3, h => by cases h; exact PySem.W.exm_ref eC7 hd7 tC7 sb3x7 | 4, h => by cases h; exact PySem.W.exm_ref eC7 hd7 tC7 sb4x7 | 5, h => by cases h; exact PySem.W.exm_ref eC7 hd7 tC7 sb5x7 | 6, h => by cases h; exact PySem.W.exm_ref eC7 hd7 tC7 sb6x7 | 7, h => by cases h; exact PySem.W.exm_ref eC7 hd7 tC7 sb7x7 | 8, h => by cases h; exact PySem.W.exm_ref eC7 hd7 tC7 sb8x7 | 9, h => by cases h; exact PySem.W.exm_ref eC7 hd7 tC7 sb9x7 | 10, h => by cases h; exact PySem.W.exm_ref eC7 hd7 tC7 sb10x7 | 0, h => by cases h | n + 11, h => by simp [exSub_7, exKit] at h,
    hsub_8 := fun n b h => match n, h with | 1, h => by cases h; exact PySem.W.exm_ref eC8 hd8 tC8 sb1x8 | 2, h => by cases h; exact PySem.W.exm_ref eC8 hd8 tC8 sb2x8 | 3, h => by cases h; exact PySem.W.exm_ref eC8 hd8 tC8 sb3x8 | 4, h => by cases h; exact PySem.W.exm_ref eC8 hd8 tC8 sb4x8 | 5, h => by cases h; exact PySem.W.exm_ref eC8 hd8 tC8 sb5x8 | 6, h => by cases h; exact PySem.W.exm_ref eC8 hd8 tC8 sb6x8 | 7, h => by cases h; exact PySem.W.exm_ref eC8 hd8 tC8 sb7x8 | 8, h => by cases h; exact PySem.W.exm_ref eC8 hd8 tC8 sb8x8 | 9, h => by cases h; exact PySem.W.exm_ref eC8 hd8 tC8 sb9x8 | 10, h => by cases h; exact PySem.W.exm_ref eC8 hd8 tC8 sb10x8 | 0, h => by cases h | n + 11, h => by simp [exSub_8, exKit] at h,
    hsub_9 := fun n b h => match n, h with | 1, h => by cases h; exact PySem.W.exm_ref eC9 hd9 tC9 sb1x9 | 2, h => by cases h; exact PySem.W.exm_ref eC9 hd9 tC9 sb2x9 | 3, h => by cases h; exact PySem.W.exm_ref eC9 hd9 tC9 sb3x9 | 4, h => by cases h; exact PySem.W.exm_ref eC9 hd9 tC9 sb4x9 | 5, h => by cases h; exact PySem.W.exm_ref eC9 hd9 tC9 sb5x9 | 6, h => by cases h; exact PySem.W.exm_ref eC9 hd9 tC9 sb6x9 | 7, h => by cases h; exact PySem.W.exm_ref eC9 hd9 tC9 sb7x9 | 8, h => by cases h; exact PySem.W.exm_ref eC9 hd9 tC9 sb8x9 | 9, h => by cases h; exact PySem.W.exm_ref eC9 hd9 tC9 sb9x9 | 10, h => by cases h; exact PySem.W.exm_ref eC9 hd9 tC9 sb10x9 | 0, h => by cases h | n + 11, h => by simp [exSub_9, exKit] at h,
    hsub_10 := fun n b h => match n, h with | 1, h => by cases h; exact PySem.W.exm_ref eC10 hd10 tC10 sb1x10 | 2, h => by cases h; exact PySem.W.exm_ref eC10 hd10 tC10 sb2x10 | 3, h => by cases h; exact PySem.W.exm_ref eC10 hd10 tC10 sb3x10 | 4, h => by cases h; exact PySem.W.exm_ref eC10 hd10 tC10 sb4x10 | 5, h => by cases h; exact PySem.W.exm_ref eC10 hd10 tC10 sb5x10 | 6, h => by cases h; exact PySem.W.exm_ref eC10 hd10 tC10 sb6x10 | 7, h => by cases h; exact PySem.W.exm_ref eC10 hd10 tC10 sb7x10 | 8, h => by cases h; exact PySem.W.exm_ref eC10 hd10 tC10 sb8x10 | 9, h => by cases h; exact PySem.W.exm_ref eC10 hd10 tC10 sb9x10 | 10, h => by cases h; exact PySem.W.exm_ref eC10 hd10 tC10 sb10x10 | 0, h => by cases h | n + 11, h => by simp [exSub_10, exKit] at h,
    f_in_order := _, d_in_order := _, g_in_order := PySem.W.mg_of X G a1, F_in_order := F1, b_in_order := F1.binds fun _ _ _ _ _ _ us hl => match us, hl with | [_], _ => rfl,
    f_told_by_first := _, d_told_by_first := _, g_told_by_first := PySem.W.mg_of X G a2, F_told_by_first := F2, b_told_by_first := F2.binds fun _ _ _ _ _ _ us hl => match us, hl with | [_], _ => rfl,
    f_kept_by := _, d_kept_by := _, g_kept_by := PySem.W.mg_of X G a3, F_kept_by := F3, b_kept_by := F3.binds fun _ _ _ _ _ _ us hl => match us, hl with | [_], _ => rfl,
    f_is_word := _, d_is_word := _, g_is_word := PySem.W.mg_of X G a4, F_is_word := F4, b_is_word := F4.binds fun _ _ _ _ _ _ us hl => match us, hl with | [_], _ => rfl,
    f_is_value := _, d_is_value := _, g_is_value := PySem.W.mg_of X G a5, F_is_value := F5, b_is_value := F5.binds fun _ _ _ _ _ _ us hl => match us, hl with | [_, _], _ => rfl,
    f_check_room := _, d_check_room := _, g_check_room := PySem.W.mg_of X G a6, F_check_room := F6, b_check_room := F6.binds fun _ _ _ _ _ _ us hl => match us, hl with | [_], _ => rfl,
    f_is_code := _, d_is_code := _, g_is_code := PySem.W.mg_of X G a7, F_is_code := F7, b_is_code := F7.binds fun _ _ _ _ _ _ us hl => match us, hl with | [_], _ => rfl,
    f_Book___init__ := _, d_Book___init__ := _, F_Book___init__ := F8, b_Book___init__ := bindsV lDT8 fun us hl => match us, hl with | [_, _, _, _], _ => ⟨_, rfl, rfl⟩,
    f_Book_strays := _, d_Book_strays := _, F_Book_strays := F9, b_Book_strays := F9.binds fun _ _ _ _ _ _ us hl => match us, hl with | [_], _ => rfl,
    f_Book___contains__ := _, d_Book___contains__ := _, F_Book___contains__ := F10, b_Book___contains__ := F10.binds fun _ _ _ _ _ _ us hl => match us, hl with | [_, _], _ => rfl,
    f_Book_code_of := _, d_Book_code_of := _, F_Book_code_of := F11, b_Book_code_of := F11.binds fun _ _ _ _ _ _ us hl => match us, hl with | [_, _], _ => rfl,
    f_leads := _, d_leads := _, g_leads := PySem.W.mg_of X G a12, F_leads := F12, b_leads := F12.binds fun _ _ _ _ _ _ us hl => match us, hl with | [_], _ => rfl,
    f_Mending___init__ := _, d_Mending___init__ := _, F_Mending___init__ := F13, b_Mending___init__ := F13.binds fun _ _ _ _ _ _ us hl => match us, hl with | [_, _, _, _, _], _ => rfl,
    f_heights_of := _, d_heights_of := _, g_heights_of := PySem.W.mg_of X G a14, F_heights_of := F14, b_heights_of := F14.binds fun _ _ _ _ _ _ us hl => match us, hl with | [_, _, _], _ => rfl,
    f_kept_ranks := _, d_kept_ranks := _, g_kept_ranks := PySem.W.mg_of X G a15, F_kept_ranks := F15, b_kept_ranks := F15.binds fun _ _ _ _ _ _ us hl => match us, hl with | [_, _, _], _ => rfl,
    f_spread_leads := _, d_spread_leads := _, g_spread_leads := PySem.W.mg_of X G a16, F_spread_leads := F16, b_spread_leads := F16.binds fun _ _ _ _ _ _ us hl => match us, hl with | [_], _ => rfl,
    f_clash_chains := _, d_clash_chains := _, g_clash_chains := PySem.W.mg_of X G a17, F_clash_chains := F17, b_clash_chains := F17.binds fun _ _ _ _ _ _ us hl => match us, hl with | [_, _, _], _ => rfl,
    f_mend_book := _, d_mend_book := _, g_mend_book := PySem.W.mg_of X G a18, F_mend_book := F18, b_mend_book := F18.binds fun _ _ _ _ _ _ us hl => match us, hl with | [_, _, _], _ => rfl,
    f_l_take := _, d_l_take := _, g_l_take := PySem.W.mg_of X G a19, F_l_take := F19, b_l_take := F19.binds fun _ _ _ _ _ _ us hl => match us, hl with | [_, _], _ => rfl,
    f_l_whole := _, d_l_whole := _, g_l_whole := PySem.W.mg_of X G a20, F_l_whole := F20, b_l_whole := F20.binds fun _ _ _ _ _ _ us hl => match us, hl with | [_], _ => rfl,
    f_l_words := _, d_l_words := _, g_l_words := PySem.W.mg_of X G a21, F_l_words := F21, b_l_words := F21.binds fun _ _ _ _ _ _ us hl => match us, hl with | [], _ => rfl,
    f_l_room := _, d_l_room := _, g_l_room := PySem.W.mg_of X G a22, F_l_room := F22, b_l_room := F22.binds fun _ _ _ _ _ _ us hl => match us, hl with | [_], _ => rfl,
    f_l_codes := _, d_l_codes := _, g_l_codes := PySem.W.mg_of X G a23, F_l_codes := F23, b_l_codes := F23.binds fun _ _ _ _ _ _ us hl => match us, hl with | [_, _, _], _ => rfl,
    f_l_values := _, d_l_values := _, g_l_values := PySem.W.mg_of X G a24, F_l_values := F24, b_l_values := F24.binds fun _ _ _ _ _ _ us hl => match us, hl with | [_, _, _], _ => rfl,
    f_l_weights := _, d_l_weights := _, g_l_weights := PySem.W.mg_of X G a25, F_l_weights := F25, b_l_weights := F25.binds fun _ _ _ _ _ _ us hl => match us, hl with | [_, _], _ => rfl,
    f_l_subsets := _, d_l_subsets := _, g_l_subsets := PySem.W.mg_of X G a26, F_l_subsets := F26, b_l_subsets := F26.binds fun _ _ _ _ _ _ us hl => match us, hl with | [_], _ => rfl,
    f_l_can := _, d_l_can := _, g_l_can := PySem.W.mg_of X G a27, F_l_can := F27, b_l_can := F27.binds fun _ _ _ _ _ _ us hl => match us, hl with | [_, _, _], _ => rfl,
    f_l_least := _, d_l_least := _, g_l_least := PySem.W.mg_of X G a28, F_l_least := F28, b_l_least := F28.binds fun _ _ _ _ _ _ us hl => match us, hl with | [_, _, _], _ => rfl,
    f_l_mended := _, d_l_mended := _, g_l_mended := PySem.W.mg_of X G a29, F_l_mended := F29, b_l_mended := F29.binds fun _ _ _ _ _ _ us hl => match us, hl with | [_, _, _], _ => rfl,
    f_l_good := _, d_l_good := _, g_l_good := PySem.W.mg_of X G a30, F_l_good := F30, b_l_good := F30.binds fun _ _ _ _ _ _ us hl => match us, hl with | [_, _, _, _, _], _ => rfl,
    f_law := _, d_law := _, g_law := PySem.W.mg_of X G a31, F_law := F31, b_law := F31.binds fun _ _ _ _ _ _ us hl => match us, hl with | [_], _ => rfl,
    n_abs := PySem.W.mg_none_of X G z0,
    n_all := PySem.W.mg_none_of X G z1,
    n_bool := PySem.W.mg_none_of X G z2,
    n_dict := PySem.W.mg_none_of X G z3,
    n_enumerate := PySem.W.mg_none_of X G z4,
    n_int := PySem.W.mg_none_of X G z5,
    n_isinstance := PySem.W.mg_none_of X G z6,
    n_len := PySem.W.mg_none_of X G z7,
    n_list := PySem.W.mg_none_of X G z8,
    n_max := PySem.W.mg_none_of X G z9,
    n_min := PySem.W.mg_none_of X G z10,
    n_range := PySem.W.mg_none_of X G z11,
    n_reversed := PySem.W.mg_none_of X G z12,
    n_set := PySem.W.mg_none_of X G z13,
    n_sorted := PySem.W.mg_none_of X G z14,
    n_str := PySem.W.mg_none_of X G z15,
    n_sum := PySem.W.mg_none_of X G z16,
    n_tuple := PySem.W.mg_none_of X G z17,
    n_zip := PySem.W.mg_none_of X G z18,
    cl_Book := by rw [eK0]; exact ⟨pg0, hK0, po0, sK0⟩,
    gK_Book := by rw [eK0]; exact PySem.W.mg_of X G aK0,
    mk_Book := by rw [eK0]; exact ⟨mK0, fM8, iM8, kK0⟩,
    p_Book_strays := _, pr_Book_strays := by rw [eK0]; exact ⟨fM9, gM9, tM9, _, rM9⟩,
    me_Book___contains__ := by rw [eK0]; exact ⟨fM10, iM10, k10⟩,
    me_Book_code_of := by rw [eK0]; exact ⟨fM11, iM11, k11⟩,
    cl_Mending := by rw [eK1]; exact ⟨pg1, hK1, po1, sK1⟩,
    gK_Mending := by rw [eK1]; exact PySem.W.mg_of X G aK1,
    mk_Mending := by rw [eK1]; exact ⟨mK1, fM13, iM13, kK1⟩,
    ft := fun C f h => by
      simp only [exFt, Bool.or_eq_true, Bool.and_eq_true, decide_eq_true_eq, or_assoc] at h
      rcases h with ⟨rfl, h⟩ | ⟨rfl, h⟩
      · rw [eK0]
        refine ⟨⟨pg0, hK0, po0, sK0⟩, ?_⟩
        rcases h with rfl | rfl | rfl | rfl | rfl | rfl <;> assumption
      · rw [eK1]
        refine ⟨⟨pg1, hK1, po1, sK1⟩, ?_⟩
        rcases h with rfl | rfl | rfl | rfl <;> assumption
,
    t_GREATEST := tkGREATEST, c_GREATEST := PySem.W.mg_of X G eGREATEST,
    t_LEAST := tkLEAST, c_LEAST := PySem.W.mg_of X G eLEAST,
    t_LETTERS := tkLETTERS, c_LETTERS := PySem.W.mg_of X G eLETTERS,
    t_LONGEST := tkLONGEST, c_LONGEST := PySem.W.mg_of X G eLONGEST,
    t_MOST_CODE := tkMOST_CODE, c_MOST_CODE := PySem.W.mg_of X G eMOST_CODE,
    t_MOST_ROOM := tkMOST_ROOM, c_MOST_ROOM := PySem.W.mg_of X G eMOST_ROOM,
    a_DOMAINS := _, c_DOMAINS := PySem.W.mg_of X G eDOMAINS, l_DOMAINS := .inr ⟨_, _, _, LDOMAINS, rfl, rfl, sz_le (by decide : 2 ≤ 1000000), (.cons ⟨_, rfl⟩ (.cons ⟨_, rfl⟩ .nil))⟩, r_DOMAINS := fun z F => (.cons (.str _) (.cons (.str _) .nil)),
    co_MOST := fun C i h => by
      unfold mc_MOST at h
      split at h
      · rename_i e; subst e; cases h; rw [eK0]; exact ⟨⟨pg0, hK0, po0, sK0⟩, _, fcMOST0, ⟨_, rfl⟩, gcMOST0, by decide⟩
      cases h }
  exact ⟨_, fun s v => .of_eq rfl, fun base _ _ => ok_law T⟩
end K14
open PySem PySem.W PyProof.Rows
set_option maxHeartbeats 0 in
theorem PySem.Challenge.cw_colonnade_k14_mendings_cheapest_holds : PySem.Challenge.rw_colonnade_k14_mendings_cheapest.Holds := by
  w_on; o_law; k_head; (case hw => w_witness2)
  k_fill
  refine L2.walk_of (l := PySem.Challenge.rw_colonnade_k14_mendings_cheapest) (n := 63) (k := 8) (x := "_law_script") (CX := fun _ => L2.CX0) (sp := fun w => DL.spOf _ 1 DL.fsLaw) rfl (by decide) rfl ⟨rfl, by decide, by decide⟩ (fun w h Y => PySem.W.kIn_of Y) ?F (fun _ _ a ns hl _ hS => DL.law_sp hl hS) (fun _ _ _ _ _ h => h)
  case F =>
    intro w mg fa h KX G hmg
    refine' K14.all_mk KX G hmg ?eDOMAINS ?LDOMAINS ?eGREATEST ?eLEAST ?eLETTERS ?eLONGEST ?eMOST_CODE ?eMOST_ROOM ?aK0 ?pg0 ?hK0 ?po0 ?sK0 ?mK0 ?kK0 ?fM8 ?iM8 ?fM9 ?gM9 ?tM9 ?rM9 ?fM10 ?iM10 ?fM11 ?iM11 ?fcMOST0 ?gcMOST0 ?nA0x0 ?nA0x1 ?nA0x2 ?nA0x3 ?nA0x4 ?nA0x5 ?aK1 ?pg1 ?hK1 ?po1 ?sK1 ?mK1 ?kK1 ?fM13 ?iM13 ?nA1x0 ?nA1x1 ?nA1x2 ?nA1x3 ?a1 ?l1 ?c1 ?k1 ?a2 ?l2 ?c2 ?k2 ?a3 ?l3 ?c3 ?k3 ?a4 ?l4 ?c4 ?k4 ?a5 ?l5 ?c5 ?k5 ?a6 ?l6 ?c6 ?k6 ?a7 ?l7 ?c7 ?k7 ?l8 ?c8 ?k8 ?lDT8 ?l9 ?c9 ?k9 ?l10 ?c10 ?k10 ?l11 ?c11 ?k11 ?a12 ?l12 ?c12 ?k12 ?l13 ?c13 ?k13 ?a14 ?l14 ?c14 ?k14 ?a15 ?l15 ?c15 ?k15 ?a16 ?l16 ?c16 ?k16 ?a17 ?l17 ?c17 ?k17 ?a18 ?l18 ?c18 ?k18 ?a19 ?l19 ?c19 ?k19 ?a20 ?l20 ?c20 ?k20 ?a21 ?l21 ?c21 ?k21 ?a22 ?l22 ?c22 ?k22 ?a23 ?l23 ?c23 ?k23 ?a24 ?l24 ?c24 ?k24 ?a25 ?l25 ?c25 ?k25 ?a26 ?l26 ?c26 ?k26 ?a27 ?l27 ?c27 ?k27 ?a28 ?l28 ?c28 ?k28 ?a29 ?l29 ?c29 ?k29 ?a30 ?l30 ?c30 ?k30 ?a31 ?l31 ?c31 ?k31 ?aC0 ?aC1 ?aC2 ?aC3 ?aC4 ?aC5 ?aC6 ?aC7 ?aC8 ?aC9 ?aC10 ?eC0 ?tC0 ?hd0 ?eC1 ?tC1 ?hd1 ?eC2 ?tC2 ?hd2 ?eC3 ?tC3 ?hd3 ?eC4 ?tC4 ?hd4 ?eC5 ?tC5 ?hd5 ?eC6 ?tC6 ?hd6 ?eC7 ?tC7 ?hd7 ?eC8 ?tC8 ?hd8 ?eC9 ?tC9 ?hd9 ?eC10 ?tC10 ?hd10 ?gN ?gT ?xL1 ?sa1 ?ga1 ?gg1 ?hc1 ?hm1 ?kC1 ?nb1name ?iI1 ?tI1 ?lI1 ?cI1 ?kI1 ?sb1x0 ?sb1x1 ?sb1x2 ?sb1x3 ?sb1x4 ?sb1x5 ?sb1x6 ?sb1x7 ?sb1x8 ?sb1x9 ?sb1x10 ?xL2 ?sa2 ?ga2 ?gg2 ?hc2 ?hm2 ?kC2 ?nb2value ?iI2 ?tI2 ?lI2 ?cI2 ?kI2 ?sb2x0 ?sb2x1 ?sb2x2 ?sb2x3 ?sb2x4 ?sb2x5 ?sb2x6 ?sb2x7 ?sb2x8 ?sb2x9 ?sb2x10 ?xL3 ?sa3 ?ga3 ?gg3 ?hc3 ?hm3 ?kC3 ?nb3domain ?iI3 ?tI3 ?lI3 ?cI3 ?kI3 ?sb3x0 ?sb3x1 ?sb3x2 ?sb3x3 ?sb3x4 ?sb3x5 ?sb3x6 ?sb3x7 ?sb3x8 ?sb3x9 ?sb3x10 ?xL4 ?sa4 ?ga4 ?gg4 ?hc4 ?hm4 ?kC4 ?nb4room ?iI4 ?tI4 ?lI4 ?cI4 ?kI4 ?sb4x0 ?sb4x1 ?sb4x2 ?sb4x3 ?sb4x4 ?sb4x5 ?sb4x6 ?sb4x7 ?sb4x8 ?sb4x9 ?sb4x10 ?xL5 ?sa5 ?ga5 ?gg5 ?hc5 ?hm5 ?kC5 ?nb5code ?iI5 ?tI5 ?lI5 ?cI5 ?kI5 ?sb5x0 ?sb5x1 ?sb5x2 ?sb5x3 ?sb5x4 ?sb5x5 ?sb5x6 ?sb5x7 ?sb5x8 ?sb5x9 ?sb5x10 ?xL6 ?sa6 ?ga6 ?gg6 ?hc6 ?hm6 ?kC6 ?nb6name ?iI6 ?tI6 ?lI6 ?cI6 ?kI6 ?sb6x0 ?sb6x1 ?sb6x2 ?sb6x3 ?sb6x4 ?sb6x5 ?sb6x6 ?sb6x7 ?sb6x8 ?sb6x9 ?sb6x10 ?xL7 ?sa7 ?ga7 ?gg7 ?hc7 ?hm7 ?kC7 ?nb7value ?iI7 ?tI7 ?lI7 ?cI7 ?kI7 ?sb7x0 ?sb7x1 ?sb7x2 ?sb7x3 ?sb7x4 ?sb7x5 ?sb7x6 ?sb7x7 ?sb7x8 ?sb7x9 ?sb7x10 ?xL8 ?sa8 ?ga8 ?gg8 ?hc8 ?hm8 ?kC8 ?nb8value ?iI8 ?tI8 ?lI8 ?cI8 ?kI8 ?sb8x0 ?sb8x1 ?sb8x2 ?sb8x3 ?sb8x4 ?sb8x5 ?sb8x6 ?sb8x7 ?sb8x8 ?sb8x9 ?sb8x10 ?xL9 ?sa9 ?ga9 ?gg9 ?hc9 ?hm9 ?kC9 ?nb9value ?iI9 ?tI9 ?lI9 ?cI9 ?kI9 ?sb9x0 ?sb9x1 ?sb9x2 ?sb9x3 ?sb9x4 ?sb9x5 ?sb9x6 ?sb9x7 ?sb9x8 ?sb9x9 ?sb9x10 ?xL10 ?sa10 ?ga10 ?gg10 ?hc10 ?hm10 ?kC10 ?nb10room ?iI10 ?tI10 ?lI10 ?cI10 ?kI10 ?sb10x0 ?sb10x1 ?sb10x2 ?sb10x3 ?sb10x4 ?sb10x5 ?sb10x6 ?sb10x7 ?sb10x8 ?sb10x9 ?sb10x10 ?z0 ?z1 ?z2 ?z3 ?z4 ?z5 ?z6 ?z7 ?z8 ?z9 ?z10 ?z11 ?z12 ?z13 ?z14 ?z15 ?z16 ?z17 ?z18
    (case eDOMAINS => k_is); (case LDOMAINS => k_is); (case eGREATEST => k_is); (case eLEAST => k_is); (case eLETTERS => k_is); (case eLONGEST => k_is); (case eMOST_CODE => k_is); (case eMOST_ROOM => k_is); (case aK0 => k_is); (case pg0 => k_is); (case hK0 => k_is); (case po0 => k_is); (case sK0 => k_is); (case mK0 => k_is); (case kK0 => k_is); (case fM8 => k_is); (case iM8 => k_is); (case fM9 => k_is); (case gM9 => k_is); (case tM9 => k_is); (case rM9 => k_is); (case fM10 => k_is); (case iM10 => k_is); (case fM11 => k_is); (case iM11 => k_is); (case fcMOST0 => k_is); (case gcMOST0 => k_is); (case nA0x0 => k_is); (case nA0x1 => k_is); (case nA0x2 => k_is); (case nA0x3 => k_is); (case nA0x4 => k_is); (case nA0x5 => k_is); (case aK1 => k_is); (case pg1 => k_is); (case hK1 => k_is); (case po1 => k_is); (case sK1 => k_is); (case mK1 => k_is); (case kK1 => k_is); (case fM13 => k_is); (case iM13 => k_is); (case nA1x0 => k_is); (case nA1x1 => k_is); (case nA1x2 => k_is); (case nA1x3 => k_is); (case a1 => k_is); (case l1 => k_is); (case c1 => k_is); (case k1 => k_is); (case a2 => k_is); (case l2 => k_is); (case c2 => k_is); (case k2 => k_is); (case a3 => k_is); (case l3 => k_is); (case c3 => k_is); (case k3 => k_is); (case a4 => k_is); (case l4 => k_is); (case c4 => k_is); (case k4 => k_is); (case a5 => k_is); (case l5 => k_is); (case c5 => k_is); (case k5 => k_is); (case a6 => k_is); (case l6 => k_is); (case c6 => k_is); (case k6 => k_is); (case a7 => k_is); (case l7 => k_is); (case c7 => k_is); (case k7 => k_is); (case l8 => k_is); (case c8 => k_is); (case k8 => k_is); (case lDT8 => k_is); (case l9 => k_is); (case c9 => k_is); (case k9 => k_is); (case l10 => k_is); (case c10 => k_is); (case k10 => k_is); (case l11 => k_is); (case c11 => k_is); (case k11 => k_is); (case a12 => k_is); (case l12 => k_is); (case c12 => k_is); (case k12 => k_is); (case l13 => k_is); (case c13 => k_is); (case k13 => k_is); (case a14 => k_is); (case l14 => k_is); (case c14 => k_is); (case k14 => k_is); (case a15 => k_is); (case l15 => k_is); (case c15 => k_is); (case k15 => k_is); (case a16 => k_is); (case l16 => k_is); (case c16 => k_is); (case k16 => k_is); (case a17 => k_is); (case l17 => k_is); (case c17 => k_is); (case k17 => k_is); (case a18 => k_is); (case l18 => k_is); (case c18 => k_is); (case k18 => k_is); (case a19 => k_is); (case l19 => k_is); (case c19 => k_is); (case k19 => k_is); (case a20 => k_is); (case l20 => k_is); (case c20 => k_is); (case k20 => k_is); (case a21 => k_is); (case l21 => k_is); (case c21 => k_is); (case k21 => k_is); (case a22 => k_is); (case l22 => k_is); (case c22 => k_is); (case k22 => k_is); (case a23 => k_is); (case l23 => k_is); (case c23 => k_is); (case k23 => k_is); (case a24 => k_is); (case l24 => k_is); (case c24 => k_is); (case k24 => k_is); (case a25 => k_is); (case l25 => k_is); (case c25 => k_is); (case k25 => k_is); (case a26 => k_is); (case l26 => k_is); (case c26 => k_is); (case k26 => k_is); (case a27 => k_is); (case l27 => k_is); (case c27 => k_is); (case k27 => k_is); (case a28 => k_is); (case l28 => k_is); (case c28 => k_is); (case k28 => k_is); (case a29 => k_is); (case l29 => k_is); (case c29 => k_is); (case k29 => k_is); (case a30 => k_is); (case l30 => k_is); (case c30 => k_is); (case k30 => k_is); (case a31 => k_is); (case l31 => k_is); (case c31 => k_is); (case k31 => k_is); (case aC0 => k_is); (case aC1 => k_is); (case aC2 => k_is); (case aC3 => k_is); (case aC4 => k_is); (case aC5 => k_is); (case aC6 => k_is); (case aC7 => k_is); (case aC8 => k_is); (case aC9 => k_is); (case aC10 => k_is); (case eC0 => k_is); (case tC0 => k_is); (case hd0 => k_is); (case eC1 => k_is); (case tC1 => k_is); (case hd1 => k_is); (case eC2 => k_is); (case tC2 => k_is); (case hd2 => k_is); (case eC3 => k_is); (case tC3 => k_is); (case hd3 => k_is); (case eC4 => k_is); (case tC4 => k_is); (case hd4 => k_is); (case eC5 => k_is); (case tC5 => k_is); (case hd5 => k_is); (case eC6 => k_is); (case tC6 => k_is); (case hd6 => k_is); (case eC7 => k_is); (case tC7 => k_is); (case hd7 => k_is); (case eC8 => k_is); (case tC8 => k_is); (case hd8 => k_is); (case eC9 => k_is); (case tC9 => k_is); (case hd9 => k_is); (case eC10 => k_is); (case tC10 => k_is); (case hd10 => k_is); (case gN => k_is); (case gT => k_is); (case xL1 => k_is); (case sa1 => k_is); (case ga1 => k_is); (case gg1 => k_is); (case hc1 => k_is); (case hm1 => k_is); (case kC1 => k_is); (case nb1name => k_is); (case iI1 => k_is); (case tI1 => k_is); (case lI1 => k_is); (case cI1 => k_is); (case kI1 => k_is); (case sb1x0 => k_is); (case sb1x1 => k_is); (case sb1x2 => k_is); (case sb1x3 => k_is); (case sb1x4 => k_is); (case sb1x5 => k_is); (case sb1x6 => k_is); (case sb1x7 => k_is); (case sb1x8 => k_is); (case sb1x9 => k_is); (case sb1x10 => k_is); (case xL2 => k_is); (case sa2 => k_is); (case ga2 => k_is); (case gg2 => k_is); (case hc2 => k_is); (case hm2 => k_is); (case kC2 => k_is); (case nb2value => k_is); (case iI2 => k_is); (case tI2 => k_is); (case lI2 => k_is); (case cI2 => k_is); (case kI2 => k_is); (case sb2x0 => k_is); (case sb2x1 => k_is); (case sb2x2 => k_is); (case sb2x3 => k_is); (case sb2x4 => k_is); (case sb2x5 => k_is); (case sb2x6 => k_is); (case sb2x7 => k_is); (case sb2x8 => k_is); (case sb2x9 => k_is); (case sb2x10 => k_is); (case xL3 => k_is); (case sa3 => k_is); (case ga3 => k_is); (case gg3 => k_is); (case hc3 => k_is); (case hm3 => k_is); (case kC3 => k_is); (case nb3domain => k_is); (case iI3 => k_is); (case tI3 => k_is); (case lI3 => k_is); (case cI3 => k_is); (case kI3 => k_is); (case sb3x0 => k_is); (case sb3x1 => k_is); (case sb3x2 => k_is); (case sb3x3 => k_is); (case sb3x4 => k_is); (case sb3x5 => k_is); (case sb3x6 => k_is); (case sb3x7 => k_is); (case sb3x8 => k_is); (case sb3x9 => k_is); (case sb3x10 => k_is); (case xL4 => k_is); (case sa4 => k_is); (case ga4 => k_is); (case gg4 => k_is); (case hc4 => k_is); (case hm4 => k_is); (case kC4 => k_is); (case nb4room => k_is); (case iI4 => k_is); (case tI4 => k_is); (case lI4 => k_is); (case cI4 => k_is); (case kI4 => k_is); (case sb4x0 => k_is); (case sb4x1 => k_is); (case sb4x2 => k_is); (case sb4x3 => k_is); (case sb4x4 => k_is); (case sb4x5 => k_is); (case sb4x6 => k_is); (case sb4x7 => k_is); (case sb4x8 => k_is); (case sb4x9 => k_is); (case sb4x10 => k_is); (case xL5 => k_is); (case sa5 => k_is); (case ga5 => k_is); (case gg5 => k_is); (case hc5 => k_is); (case hm5 => k_is); (case kC5 => k_is); (case nb5code => k_is); (case iI5 => k_is); (case tI5 => k_is); (case lI5 => k_is); (case cI5 => k_is); (case kI5 => k_is); (case sb5x0 => k_is); (case sb5x1 => k_is); (case sb5x2 => k_is); (case sb5x3 => k_is); (case sb5x4 => k_is); (case sb5x5 => k_is); (case sb5x6 => k_is); (case sb5x7 => k_is); (case sb5x8 => k_is); (case sb5x9 => k_is); (case sb5x10 => k_is); (case xL6 => k_is); (case sa6 => k_is); (case ga6 => k_is); (case gg6 => k_is); (case hc6 => k_is); (case hm6 => k_is); (case kC6 => k_is); (case nb6name => k_is); (case iI6 => k_is); (case tI6 => k_is); (case lI6 => k_is); (case cI6 => k_is); (case kI6 => k_is); (case sb6x0 => k_is); (case sb6x1 => k_is); (case sb6x2 => k_is); (case sb6x3 => k_is); (case sb6x4 => k_is); (case sb6x5 => k_is); (case sb6x6 => k_is); (case sb6x7 => k_is); (case sb6x8 => k_is); (case sb6x9 => k_is); (case sb6x10 => k_is); (case xL7 => k_is); (case sa7 => k_is); (case ga7 => k_is); (case gg7 => k_is); (case hc7 => k_is); (case hm7 => k_is); (case kC7 => k_is); (case nb7value => k_is); (case iI7 => k_is); (case tI7 => k_is); (case lI7 => k_is); (case cI7 => k_is); (case kI7 => k_is); (case sb7x0 => k_is); (case sb7x1 => k_is); (case sb7x2 => k_is); (case sb7x3 => k_is); (case sb7x4 => k_is); (case sb7x5 => k_is); (case sb7x6 => k_is); (case sb7x7 => k_is); (case sb7x8 => k_is); (case sb7x9 => k_is); (case sb7x10 => k_is); (case xL8 => k_is); (case sa8 => k_is); (case ga8 => k_is); (case gg8 => k_is); (case hc8 => k_is); (case hm8 => k_is); (case kC8 => k_is); (case nb8value => k_is); (case iI8 => k_is); (case tI8 => k_is); (case lI8 => k_is); (case cI8 => k_is); (case kI8 => k_is); (case sb8x0 => k_is); (case sb8x1 => k_is); (case sb8x2 => k_is); (case sb8x3 => k_is); (case sb8x4 => k_is); (case sb8x5 => k_is); (case sb8x6 => k_is); (case sb8x7 => k_is); (case sb8x8 => k_is); (case sb8x9 => k_is); (case sb8x10 => k_is); (case xL9 => k_is); (case sa9 => k_is); (case ga9 => k_is); (case gg9 => k_is); (case hc9 => k_is); (case hm9 => k_is); (case kC9 => k_is); (case nb9value => k_is); (case iI9 => k_is); (case tI9 => k_is); (case lI9 => k_is); (case cI9 => k_is); (case kI9 => k_is); (case sb9x0 => k_is); (case sb9x1 => k_is); (case sb9x2 => k_is); (case sb9x3 => k_is); (case sb9x4 => k_is); (case sb9x5 => k_is); (case sb9x6 => k_is); (case sb9x7 => k_is); (case sb9x8 => k_is); (case sb9x9 => k_is); (case sb9x10 => k_is); (case xL10 => k_is); (case sa10 => k_is); (case ga10 => k_is); (case gg10 => k_is); (case hc10 => k_is); (case hm10 => k_is); (case kC10 => k_is); (case nb10room => k_is); (case iI10 => k_is); (case tI10 => k_is); (case lI10 => k_is); (case cI10 => k_is); (case kI10 => k_is); (case sb10x0 => k_is); (case sb10x1 => k_is); (case sb10x2 => k_is); (case sb10x3 => k_is); (case sb10x4 => k_is); (case sb10x5 => k_is); (case sb10x6 => k_is); (case sb10x7 => k_is); (case sb10x8 => k_is); (case sb10x9 => k_is); (case sb10x10 => k_is); (case z0 => k_is); (case z1 => k_is); (case z2 => k_is); (case z3 => k_is); (case z4 => k_is); (case z5 => k_is); (case z6 => k_is); (case z7 => k_is); (case z8 => k_is); (case z9 => k_is); (case z10 => k_is); (case z11 => k_is); (case z12 => k_is); (case z13 => k_is); (case z14 => k_is); (case z15 => k_is); (case z16 => k_is); (case z17 => k_is); (case z18 => k_is)
