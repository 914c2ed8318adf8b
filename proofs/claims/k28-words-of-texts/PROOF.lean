import PyProof.Rows.All
import HandS.CallLocal
import HandS.CallSlots
import HandS.ClsMeth
import HandS.Codes
import HandS.Conv
import HandS.Defaults
import HandS.Evl
import HandS.ExcCtx
import HandS.ExcField
import HandS.ExcInit
import HandS.ExcInitHot
import HandS.ExcIs
import HandS.FStr
import HandS.Finally
import HandS.ForExc
import HandS.ForMost
import HandS.HotCalls
import HandS.IsInst
import HandS.Iter
import HandS.More
import HandS.Property
import HandS.RaiseMore
import HandS.RevRange
import HandS.SetFor
import HandS.SetTxt0
import HandS.SortKw
import HandS.Star
import HandS.StrMore
import HandS.Strs
import HandS.Style
import HandS.TupAny
import HandS.TupLe
import HandS.Wide
import HandS.WideBits
import HandS.Zip
import KE.DataMinMax
import KE.GoesEnum
import KE.GoesZip
import KE.KCallOwn
import KE.KDictZip
import KE.KEqDict
import KE.KEqNest
import KE.KExcIs
import KE.KOpsOwn
import KE.OsRunLaw
import KE.SortData
import PyProof.Rows.All
import PyProof.Rows.StrJoinRep
import PyProof.Rows.StrPadFill
import PyProof.Rows.StrPadWhole
import PySem.Challenge.RW_colonnade_k28_words_of_texts
set_option Elab.async false
set_option linter.all false
set_option maxRecDepth 100000
set_option maxHeartbeats 2000000
/-! A layer over the heap's readings: what a def does is said of plain data, the heap is hidden. Own work. -/
namespace DL
open PySem PySem.Spec PyProof.Rows L2
open Evl (Ex ex_l ex_t)

/-! ### lists in pairs -/
section
variable {α β : Type} {G : α → β → Prop}
theorem P_get : ∀ {l : List α} {m : List β} {i : Nat} {b : β}, Paired G l m → m[i]? = some b → ∃ a, l[i]? = some a ∧ G a b
  | _, _, _, _, .nil, e => by simp at e
  | _, _, 0, _, .cons r _, e => by simp at e; subst e; exact ⟨_, rfl, r⟩
  | _, _, i + 1, b, .cons _ t, e => by
    obtain ⟨a, h1, h2⟩ := P_get (i := i) (b := b) t (by simpa using e)
    exact ⟨a, by simpa using h1, h2⟩
theorem P_getL : ∀ {l : List α} {m : List β} {i : Nat} {a : α}, Paired G l m → l[i]? = some a → ∃ b, m[i]? = some b ∧ G a b
  | _, _, _, _, .nil, e => by simp at e
  | _, _, 0, _, .cons r _, e => by simp at e; subst e; exact ⟨_, rfl, r⟩
  | _, _, i + 1, a, .cons _ t, e => by
    obtain ⟨b, h1, h2⟩ := P_getL (i := i) (a := a) t (by simpa using e)
    exact ⟨b, by simpa using h1, h2⟩
theorem P_len : ∀ {l : List α} {m : List β}, Paired G l m → l.length = m.length
  | _, _, .nil => rfl
  | _, _, .cons _ t => by rw [List.length_cons, List.length_cons, P_len t]
theorem P_app : ∀ {l l' : List α} {m m' : List β}, Paired G l m → Paired G l' m' → Paired G (l ++ l') (m ++ m')
  | _, _, _, _, .nil, s => s
  | _, _, _, _, .cons r t, s => .cons r (P_app t s)
theorem P_take : ∀ {l : List α} {m : List β} (n : Nat), Paired G l m → Paired G (l.take n) (m.take n)
  | _, _, 0, _ => .nil
  | _, _, _ + 1, .nil => .nil
  | _, _, n + 1, .cons r t => .cons r (P_take n t)
theorem P_drop : ∀ {l : List α} {m : List β} (n : Nat), Paired G l m → Paired G (l.drop n) (m.drop n)
  | _, _, 0, r => r
  | _, _, _ + 1, .nil => .nil
  | _, _, n + 1, .cons _ t => P_drop n t
theorem P_set {a : α} {b : β} (r : G a b) : ∀ {l : List α} {m : List β} (i : Nat), Paired G l m → Paired G (l.set i a) (m.set i b)
  | _, _, _, .nil => .nil
  | _, _, 0, .cons _ t => .cons r t
  | _, _, i + 1, .cons q t => .cons q (P_set r i t)
theorem P_rev : ∀ {l : List α} {m : List β}, Paired G l m → Paired G l.reverse m.reverse
  | _, _, .nil => .nil
  | _, _, .cons r t => by
    rw [List.reverse_cons, List.reverse_cons]
    exact P_app (P_rev t) (.cons r .nil)
theorem P_erase : ∀ {l : List α} {m : List β} (i : Nat), Paired G l m → Paired G (l.eraseIdx i) (m.eraseIdx i)
  | _, _, _, .nil => .nil
  | _, _, 0, .cons _ t => t
  | _, _, i + 1, .cons q t => .cons q (P_erase i t)
theorem P_mono {G' : α → β → Prop} (k : ∀ a b, G a b → G' a b) : ∀ {l : List α} {m : List β}, Paired G l m → Paired G' l m
  | _, _, .nil => .nil
  | _, _, .cons r t => .cons (k _ _ r) (P_mono k t)
theorem P_rep {l : List α} {m : List β} (h : Paired G l m) : ∀ k : Nat, Paired G (List.replicate k l).flatten (List.replicate k m).flatten
  | 0 => .nil
  | k + 1 => by
    rw [List.replicate_succ, List.replicate_succ, List.flatten_cons, List.flatten_cons]
    exact P_app h (P_rep h k)
theorem P_dropLast {l : List α} {m : List β} (h : Paired G l m) : Paired G l.dropLast m.dropLast := by
  rw [List.dropLast_eq_take, List.dropLast_eq_take, P_len h]
  exact P_take _ h
theorem P_of : ∀ {l : List α} {m : List β}, l.length = m.length → (∀ (i : Nat) (a : α) (b : β), l[i]? = some a → m[i]? = some b → G a b) → Paired G l m
  | [], [], _, _ => .nil
  | [], _ :: _, h, _ => by simp at h
  | _ :: _, [], h, _ => by simp at h
  | a :: l, b :: m, h, k => .cons (k 0 a b rfl rfl) (P_of (by simpa using h) fun i x y e1 e2 => k (i + 1) x y (by simpa using e1) (by simpa using e2))
theorem P_insert {a : α} {b : β} (r : G a b) : ∀ {l : List α} {m : List β} (i : Nat), Paired G l m → Paired G (l.take i ++ a :: l.drop i) (m.take i ++ b :: m.drop i) := fun i h =>
  P_app (P_take i h) (.cons r (P_drop i h))
end

/-! ### data -/
inductive D where
  | non | bl (b : Bool) | int (i : Int) | str (x : Str) | ref (a : Addr) | ty (n : String)
  | lst (xs : List D) | tup (xs : List D) | obj (C : String) (fs : List (Str × D)) | dct (kvs : List (Key × D))
  /-- a class of the text -/
  | kls (C : String)
  /-- a dict that is locked for good: it may be walked -/
  | ldc (kvs : List (Key × D))
  /-- the law's own script -/
  | scr (ns : List Int)
  /-- a thing that is newer than the line that was drawn -/
  | fr (d : D)

/-- the kit's fragment, and the addresses that were there before -/
structure KZ where
  fr : PySem.W.Frag
  z : Addr → Prop
instance : Coe KZ PySem.W.Frag := ⟨KZ.fr⟩
/-- where a class of the text stands -/
def ctOf (K : PySem.W.Frag) (n : String) : Addr := match PySem.W.nsIn K mainGlobals n with
  | some (some (.ref a)) => a
  | _ => 0
theorem ctOf_of {K : PySem.W.Frag} {n : String} {a : Addr} (h : PySem.W.nsIn K mainGlobals n = some (some (.ref a))) : ctOf K n = a := by
  unfold ctOf
  rw [h]
mutual
/-- v is the data d, all of it read off F -/
inductive Rp (K : KZ) (F : Hp) : V → D → Prop
  | non : Rp K F .non .non
  | bl (b : Bool) : Rp K F (.bl b) (.bl b)
  | int (i : Int) : Rp K F (.int i) (.int i)
  | str (x : Str) : Rp K F (.str x) (.str x)
  | ref (a : Addr) : Rp K F (.ref a) (.ref a)
  | ty (n : String) : Rp K F (.ty n) (.ty n)
  | lst {a : Addr} {vs : List V} {ds : List D} : F a = some (.lst vs) → RpAll K F vs ds → Rp K F (.ref a) (.lst ds)
  | scr {a : Addr} {ns : List Int} : SqL K.fr F a (ns.map V.int) → Rp K F (.ref a) (.scr ns)
  | tup {a : Addr} {vs : List V} {ds : List D} : SqT K.fr F a vs → RpAll K F vs ds → Rp K F (.ref a) (.tup ds)
  | kls (n : String) : Rp K F (.ref (ctOf K.fr n)) (.kls n)
  | obj {a dx : Addr} {C : String} {fv : List (Str × V)} {fs : List (Str × D)} : F a = some (.ins (ctOf K.fr C) dx fv) → F dx = some (.own a) → RpFs K F fv fs → Rp K F (.ref a) (.obj C fs)
  | dct {a : Addr} {kv : List (Key × V)} {kd : List (Key × D)} : Rd F a (.dK kv) → RpKs K F kv kd → Rp K F (.ref a) (.dct kd)
  | ldc {a : Addr} {o : Obj} {kv : List (Key × V)} {kd : List (Key × D)} : F a = some (.frz o (.dK kv)) → RpKs K F kv kd → Rp K F (.ref a) (.ldc kd)
  | fr {a : Addr} {d : D} : ¬ K.z a → Rp K F (.ref a) d → Rp K F (.ref a) (.fr d)
inductive RpAll (K : KZ) (F : Hp) : List V → List D → Prop
  | nil : RpAll K F [] []
  | cons {v : V} {vs : List V} {d : D} {ds : List D} : Rp K F v d → RpAll K F vs ds → RpAll K F (v :: vs) (d :: ds)
inductive RpFs (K : KZ) (F : Hp) : List (Str × V) → List (Str × D) → Prop
  | nil : RpFs K F [] []
  | cons {n : Str} {v : V} {vs : List (Str × V)} {d : D} {ds : List (Str × D)} : Rp K F v d → RpFs K F vs ds → RpFs K F ((n, v) :: vs) ((n, d) :: ds)
inductive RpKs (K : KZ) (F : Hp) : List (Key × V) → List (Key × D) → Prop
  | nil : RpKs K F [] []
  | cons {n : Key} {v : V} {vs : List (Key × V)} {d : D} {ds : List (Key × D)} : Rp K F v d → RpKs K F vs ds → RpKs K F ((n, v) :: vs) ((n, d) :: ds)
end
section
variable {K : KZ} {F F' : Hp}
mutual
theorem Rp.mono (e : Ex F F') : ∀ {v : V} {d : D}, Rp K F v d → Rp K F' v d
  | _, _, .non => .non
  | _, _, .bl b => .bl b
  | _, _, .int i => .int i
  | _, _, .str x => .str x
  | _, _, .ref a => .ref a
  | _, _, .ty n => .ty n
  | _, _, .kls n => .kls n
  | _, _, .lst h a => .lst (e _ _ h) (RpAll.mono e a)
  | _, _, .scr h => .scr (ex_l e h)
  | _, _, .tup h a => .tup (ex_t e h) (RpAll.mono e a)
  | _, _, .obj h1 h2 a => .obj (e _ _ h1) (e _ _ h2) (RpFs.mono e a)
  | _, _, .ldc h1 a => .ldc (e _ _ h1) (RpKs.mono e a)
  | _, _, .dct h1 a => .dct (h1.imp (e _ _) fun ⟨o, h⟩ => ⟨o, e _ _ h⟩) (RpKs.mono e a)
  | _, _, .fr n a => .fr n (Rp.mono e a)
theorem RpAll.mono (e : Ex F F') : ∀ {v : List V} {d : List D}, RpAll K F v d → RpAll K F' v d
  | _, _, .nil => .nil
  | _, _, .cons h t => .cons (Rp.mono e h) (RpAll.mono e t)
theorem RpFs.mono (e : Ex F F') : ∀ {v : List (Str × V)} {d : List (Str × D)}, RpFs K F v d → RpFs K F' v d
  | _, _, .nil => .nil
  | _, _, .cons h t => .cons (Rp.mono e h) (RpFs.mono e t)
theorem RpKs.mono (e : Ex F F') : ∀ {v : List (Key × V)} {d : List (Key × D)}, RpKs K F v d → RpKs K F' v d
  | _, _, .nil => .nil
  | _, _, .cons h t => .cons (Rp.mono e h) (RpKs.mono e t)
end
theorem RpAll.p : ∀ {vs : List V} {ds : List D}, RpAll K F vs ds → Paired (Rp K F) vs ds
  | _, _, .nil => .nil
  | _, _, .cons h t => .cons h (RpAll.p t)
theorem RpAll.of : ∀ {vs : List V} {ds : List D}, Paired (Rp K F) vs ds → RpAll K F vs ds
  | _, _, .nil => .nil
  | _, _, .cons h t => .cons h (RpAll.of t)
theorem RpAll.length {vs : List V} {ds : List D} (h : RpAll K F vs ds) : vs.length = ds.length := P_len h.p
end

/-! ### what is owned: it may still change -/
inductive OC where
  | lst (xs : List D) | ins (C : String) (fs : List (Str × D)) | dct (kvs : List (Key × D))
def OC.data : OC → D
  | .lst xs => .lst xs
  | .ins C fs => .obj C fs
  | .dct k => .dct k
/-- a name's slot: nothing known; data that stays; a thing that this def may change (of a parameter: some k) -/
inductive Sx where
  | no | val (d : D) | own (p : Option Nat) (c : OC)
/-- a result: data that stays; what stands in slot j; a new thing that nobody else holds -/
inductive RS where
  | val (d : D) | own (j : Nat) (c : OC) | new (c : OC)
def RS.data : RS → D
  | .val d => d
  | .own _ c => c.data
  | .new c => c.data
abbrev Env := List Sx
def look : Env → Nat → Sx
  | [], _ => .no
  | s :: _, 0 => s
  | _ :: γ, i + 1 => look γ i
def put : Env → Nat → Sx → Env
  | [], _, _ => []
  | _ :: γ, 0, t => t :: γ
  | s :: γ, i + 1, t => s :: put γ i t
theorem look_of : ∀ {γ : Env} {i : Nat} {s : Sx}, γ[i]? = some s → look γ i = s
  | [], _, _, h => by simp at h
  | _ :: _, 0, _, h => by simpa [look] using h
  | _ :: γ, i + 1, _, h => look_of (γ := γ) (i := i) (by simpa using h)
theorem of_look : ∀ {γ : Env} {i : Nat} {s : Sx}, look γ i = s → s ≠ .no → γ[i]? = some s
  | [], _, _, h, n => absurd h.symm n
  | _ :: _, 0, _, h, _ => by simpa [look] using h
  | _ :: γ, i + 1, _, h, n => by
    have := of_look (γ := γ) (i := i) h n
    simpa using this
theorem put_set : ∀ {γ : Env} {i : Nat} {s : Sx}, put γ i s = γ.set i s
  | [], _, _ => rfl
  | _ :: _, 0, _ => rfl
  | _ :: γ, i + 1, _ => by rw [put, put_set, List.set_cons_succ]
theorem put_len {γ : Env} {i : Nat} {s : Sx} : (put γ i s).length = γ.length := by rw [put_set, List.length_set]

/-- a base: N the heap at the def's entry, pa its parameters' things; F, H the heaps that later ones are held against, m what may have changed since -/
structure Bs where
  N : Hp
  pa : Nat → Option Addr
  F : Hp
  H : Hp
  m : List Addr
  z : Addr → Prop
  zn : ∀ a, z a → ∃ o, N a = some o
abbrev Bs.kz (B : Bs) (K : PySem.W.Frag) : KZ := ⟨K, B.z⟩

def OCok (K : PySem.W.Frag) (B : Bs) (F H : Hp) (a : Addr) : OC → Prop
  | .lst ds => ∃ vs, H a = some (.lst vs) ∧ RpAll (B.kz K) F vs ds
  | .ins C fs => ∃ dx fv, H a = some (.ins (ctOf K C) dx fv) ∧ H dx = some (.own a) ∧ F dx = none ∧ (B.N a = none → B.N dx = none) ∧ (dx ∈ B.m ∨ B.H dx = none) ∧ RpFs (B.kz K) F fv fs
  | .dct kd => ∃ kv, H a = some (.dK kv) ∧ RpKs (B.kz K) F kv kd
def SlotOk (K : PySem.W.Frag) (B : Bs) (F H : Hp) (s : Option V) : Sx → Prop
  | .no => True
  | .val d => ∃ v, s = some v ∧ Rp (B.kz K) F v d
  | .own _ c => ∃ a, s = some (.ref a) ∧ F a = none ∧ OCok K B F H a c
/-- the kind of an object stays -/
def Kin : HO → HO → Prop
  | .ins C dx _, o => ∃ fs, o = .ins C dx fs
  | .lst _, o => ∃ xs, o = .lst xs
  | .dK _, o => (∃ xs, o = .dK xs) ∨ ∃ od xs, o = .frz od (.dK xs)
  | .frz od u, o => o = .frz od u
  | _, _ => True
theorem Kin.refl : ∀ o : HO, Kin o o
  | .ins _ _ fs => ⟨fs, rfl⟩
  | .lst xs => ⟨xs, rfl⟩
  | .dK xs => .inl ⟨xs, rfl⟩
  | .tup _ => trivial | .dT _ => trivial | .set _ _ => trivial | .own _ => trivial | .xd _ => trivial | .met _ _ => trivial | .rng _ _ => trivial | .frz _ _ => rfl | .tbl _ => trivial | .ext _ => trivial
theorem Kin.trans : ∀ {a b c : HO}, Kin a b → Kin b c → Kin a c
  | .ins _ _ fs, _, _, ⟨_, rfl⟩, h => h
  | .lst xs, _, _, ⟨_, rfl⟩, h => h
  | .dK xs, _, _, .inl ⟨_, rfl⟩, h => h
  | .dK xs, _, _, .inr ⟨od, ys, rfl⟩, h => .inr ⟨od, ys, h⟩
  | .frz od u, _, _, rfl, h => h
  | .tup _, _, _, _, _ => trivial | .dT _, _, _, _, _ => trivial | .set _ _, _, _, _, _ => trivial | .own _, _, _, _, _ => trivial | .xd _, _, _, _, _ => trivial | .met _ _, _, _, _, _ => trivial | .rng _ _, _, _, _, _ => trivial | .tbl _, _, _, _, _ => trivial | .ext _, _, _, _, _ => trivial
structure Rep (K : PySem.W.Frag) (B : Bs) (F H : Hp) (σ : L2.St) (γ : Env) : Prop where
  fh : Ex F H
  len : σ.length = γ.length
  sl : ∀ (i : Nat) s t, σ[i]? = some s → γ[i]? = some t → SlotOk K B F H s t
  nd : ∀ (i j : Nat) a p c q c', γ[i]? = some (.own p c) → γ[j]? = some (.own q c') → σ[i]? = some (some (.ref a)) → σ[j]? = some (some (.ref a)) → i = j
  b1 : ∀ b o, B.H b = some o → (b ∉ B.m → H b = some o) ∧ ∃ o', H b = some o'
  b2 : Ex B.F F
  b3 : ∀ b o, B.H b = some o → b ∉ B.m → F b = B.F b
  b4 : ∀ (i : Nat) a p c, γ[i]? = some (.own p c) → σ[i]? = some (some (.ref a)) → (∀ k, p = some k → B.pa k = some a) ∧ (p = none → B.N a = none)
  b5 : ∀ (i : Nat) a p c, γ[i]? = some (.own p c) → σ[i]? = some (some (.ref a)) → a ∈ B.m ∨ B.H a = none
  bN : ∀ b o, B.N b = some o → ∃ o', H b = some o'
  bd : ∀ a o, B.H a = some o → ∃ o', H a = some o' ∧ Kin o o'
structure RNew (K : PySem.W.Frag) (B : Bs) (F H : Hp) (σ : L2.St) (γ : Env) (a : Addr) (c : OC) : Prop where
  fa : F a = none
  ok : OCok K B F H a c
  bn : B.N a = none
  bm : a ∈ B.m ∨ B.H a = none
  na : ∀ (i : Nat) p c', γ[i]? = some (.own p c') → σ[i]? ≠ some (some (.ref a))
def RsOk (K : PySem.W.Frag) (B : Bs) (F H : Hp) (σ : L2.St) (γ : Env) (v : V) : RS → Prop
  | .val d => Rp (B.kz K) F v d
  | .own j c => σ[j]? = some (some v) ∧ ∃ p, γ[j]? = some (.own p c)
  | .new c => ∃ a, v = .ref a ∧ RNew K B F H σ γ a c
/-- the result still stands as it was told -/
def RS.ok (γ : Env) : RS → Prop
  | .own j c => ∃ p, look γ j = .own p c
  | _ => True

section
variable {K : PySem.W.Frag} {B : Bs} {F F' H H' : Hp} {σ : L2.St} {γ : Env} {v : V} {d : D}
theorem OCok.mono {a : Addr} {c : OC} (e : Ex F F') (hd : ∀ dx, H dx = some (.own a) → F dx = none → F' dx = none) (h : OCok K B F H a c) : OCok K B F' H a c := by
  cases c with
  | lst ds => obtain ⟨vs, h1, h2⟩ := h; exact ⟨vs, h1, h2.mono e⟩
  | ins C fs => obtain ⟨dx, fv, h1, h2, h3, h4, h5, h6⟩ := h; exact ⟨dx, fv, h1, h2, hd dx h2 h3, h4, h5, h6.mono e⟩
  | dct kd => obtain ⟨kv, h1, h2⟩ := h; exact ⟨kv, h1, h2.mono e⟩
theorem OCok.obj {a : Addr} {c : OC} (h : OCok K B F H a c) : ∃ o, H a = some o ∧ ∀ x, o ≠ .own x := by
  cases c with
  | lst ds => obtain ⟨vs, h1, h2⟩ := h; exact ⟨_, h1, fun x e => by cases e⟩
  | ins C fs => obtain ⟨dx, fv, h1, _⟩ := h; exact ⟨_, h1, fun x e => by cases e⟩
  | dct kd => obtain ⟨kv, h1, h2⟩ := h; exact ⟨_, h1, fun x e => by cases e⟩
/-- the heap may change elsewhere -/
theorem OCok.heap {a : Addr} {c : OC} (h : OCok K B F H a c) (ka : H' a = H a) (kd : ∀ dx, H dx = some (.own a) → H' dx = H dx) : OCok K B F H' a c := by
  cases c with
  | lst ds => obtain ⟨vs, h1, h2⟩ := h; exact ⟨vs, ka.trans h1, h2⟩
  | ins C fs => obtain ⟨dx, fv, h1, h2, h3⟩ := h; exact ⟨dx, fv, ka.trans h1, (kd dx h2).trans h2, h3⟩
  | dct kd => obtain ⟨kv, h1, h2⟩ := h; exact ⟨kv, ka.trans h1, h2⟩
theorem OCok.base {a : Addr} {c : OC} {B' : Bs} (h : OCok K B F H a c) (hN : B'.N = B.N) (hz : B'.z = B.z) (hm : ∀ dx, H dx = some (.own a) → dx ∈ B.m ∨ B.H dx = none → dx ∈ B'.m ∨ B'.H dx = none) : OCok K B' F H a c := by
  have e : B'.kz K = B.kz K := by unfold Bs.kz; rw [hz]
  cases c with
  | lst ds => obtain ⟨vs, h1, h2⟩ := h; exact ⟨vs, h1, by rw [e]; exact h2⟩
  | ins C fs => obtain ⟨dx, fv, h1, h2, h3, h4, h5, h6⟩ := h; exact ⟨dx, fv, h1, h2, h3, by rw [hN]; exact h4, hm dx h2 h5, by rw [e]; exact h6⟩
  | dct kd => obtain ⟨kv, h1, h2⟩ := h; exact ⟨kv, h1, by rw [e]; exact h2⟩

theorem Rep.val (R : Rep K B F H σ γ) {i : Nat} (h : look γ i = .val d) : ∃ v, σ[i]? = some (some v) ∧ Rp (B.kz K) F v d := by
  have hg := of_look h (by intro e; cases e)
  obtain ⟨h1, _⟩ := List.getElem?_eq_some_iff.mp hg
  have h2 : i < σ.length := by rw [R.len]; exact h1
  have hs : σ[i]? = some σ[i] := List.getElem?_eq_getElem h2
  obtain ⟨v, e, r⟩ := R.sl i _ _ hs hg
  exact ⟨v, by rw [hs, e], r⟩
theorem Rep.own (R : Rep K B F H σ γ) {i : Nat} {p : Option Nat} {c : OC} (h : look γ i = .own p c) : ∃ a, σ[i]? = some (some (.ref a)) ∧ γ[i]? = some (.own p c) ∧ F a = none ∧ OCok K B F H a c := by
  have hg := of_look h (by intro e; cases e)
  obtain ⟨h1, _⟩ := List.getElem?_eq_some_iff.mp hg
  have h2 : i < σ.length := by rw [R.len]; exact h1
  have hs : σ[i]? = some σ[i] := List.getElem?_eq_getElem h2
  obtain ⟨a, e, r, q⟩ := R.sl i _ _ hs hg
  exact ⟨a, by rw [hs, e], hg, r, q⟩
/-- a free address is free everywhere -/
theorem Rep.fresh (R : Rep K B F H σ γ) {p : Addr} (h : H p = none) : F p = none ∧ B.H p = none ∧ B.N p = none ∧ ∀ (i : Nat) q c', γ[i]? = some (.own q c') → σ[i]? ≠ some (some (.ref p)) := by
  refine ⟨?_, ?_, ?_, ?_⟩
  · cases e : F p with
    | none => rfl
    | some o => rw [R.fh p o e] at h; cases h
  · cases e : B.H p with
    | none => rfl
    | some o => obtain ⟨_, o', e'⟩ := R.b1 p o e; rw [e'] at h; cases h
  · cases e : B.N p with
    | none => rfl
    | some o => obtain ⟨o', e'⟩ := R.bN p o e; rw [e'] at h; cases h
  · intro i q c' hg hs
    obtain ⟨a, e, _, ok⟩ := R.sl i _ _ hs hg
    cases e
    obtain ⟨o, ho, _⟩ := ok.obj
    rw [ho] at h; cases h
/-- a slot's address, and that it is no own dict -/
theorem Rep.ownObj (R : Rep K B F H σ γ) {i : Nat} {p : Option Nat} {c : OC} {a : Addr} (hg : γ[i]? = some (.own p c)) (hs : σ[i]? = some (some (.ref a))) : F a = none ∧ OCok K B F H a c := by
  obtain ⟨a', e, f, ok⟩ := R.sl i _ _ hs hg
  cases e
  exact ⟨f, ok⟩
/-- a new object, not frozen -/
theorem Rep.alloc (R : Rep K B F H σ γ) {p : Addr} (o : HO) (h : H p = none) : Rep K B F (upd H p o) σ γ := by
  have hx : Ex H (upd H p o) := Ex.new h
  have nep : ∀ {b : Addr} {x : HO}, H b = some x → b ≠ p := fun e => ne_of_none e h
  refine ⟨R.fh.trans hx, R.len, fun i s t hs hg => ?_, R.nd, fun b x e => ?_, R.b2, R.b3, R.b4, R.b5, fun b x e => ?_, fun a x e => let ⟨o', h, k⟩ := R.bd a x e; ⟨o', hx _ _ h, k⟩⟩
  · have q := R.sl i s t hs hg
    cases t with
    | no => trivial
    | val d => exact q
    | own q' c =>
      obtain ⟨a, e, f, ok⟩ := q
      obtain ⟨o', ho', _⟩ := ok.obj
      exact ⟨a, e, f, ok.heap (upd_ne (nep ho')) fun dx hd => upd_ne (nep hd)⟩
  · obtain ⟨h1, o', h2⟩ := R.b1 b x e
    exact ⟨fun n => hx _ _ (h1 n), o', hx _ _ h2⟩
  · obtain ⟨o', h2⟩ := R.bN b x e
    exact ⟨o', hx _ _ h2⟩
/-- F takes up what H holds at a, which nobody owns -/
theorem Rep.freeze (R : Rep K B F H σ γ) {a : Addr} {o : HO} (h : H a = some o) (fa : F a = none) (bm : a ∈ B.m ∨ B.H a = none) (na : ∀ (i : Nat) q c', γ[i]? = some (.own q c') → σ[i]? ≠ some (some (.ref a)) ∧ ∀ x, σ[i]? = some (some (.ref x)) → o ≠ .own x) :
    Rep K B (upd F a o) H σ γ ∧ Ex F (upd F a o) := by
  have hx : Ex F (upd F a o) := Ex.new fa
  refine ⟨⟨fun b x e => ?_, R.len, fun i s t hs hg => ?_, R.nd, R.b1, R.b2.trans hx, fun b x e n => ?_, R.b4, R.b5, R.bN, R.bd⟩, hx⟩
  · by_cases hb : b = a
    · subst hb; rw [upd_same] at e; cases e; exact h
    · rw [upd_ne hb] at e; exact R.fh b x e
  · have q := R.sl i s t hs hg
    cases t with
    | no => trivial
    | val d => obtain ⟨v, e, r⟩ := q; exact ⟨v, e, r.mono hx⟩
    | own q' c =>
      obtain ⟨b, e, f, ok⟩ := q
      subst e
      obtain ⟨n1, n2⟩ := na i _ _ hg
      have nba : b ≠ a := fun z => n1 (by rw [hs, z])
      refine ⟨b, rfl, by rw [upd_ne nba]; exact f, ok.mono hx fun dx hd fd => ?_⟩
      have : dx ≠ a := fun z => by
        subst z
        rw [h] at hd
        exact n2 b hs (Option.some.inj hd)
      rw [upd_ne this]; exact fd
  · rcases bm with z | z
    · by_cases hb : b = a
      · subst hb; exact absurd z n
      · rw [upd_ne hb]; exact R.b3 b x e n
    · rw [upd_ne (ne_of_none e z)]; exact R.b3 b x e n
end
end DL

set_option Elab.async false
set_option linter.all false
set_option maxRecDepth 100000
set_option maxHeartbeats 2000000
namespace DL
open PySem PySem.Spec PyProof.Rows L2
open Evl (Ex ex_l ex_t)

abbrev DE := Env → (RS → Env → Prop) → Prop
abbrev DT := Env → (Bool → Env → Prop) → Prop
abbrev DA := Env → (List RS → Env → Prop) → Prop
def SE (K : PySem.W.Frag) (B : Bs) (te : TE) (de : DE) : Prop := ∀ (F H : Hp) (σ : L2.St) (γ : Env) (Q : VK) (q : RS → Env → Prop), Rep K B F H σ γ → de γ q →
  (∀ v F' H' γ' s, Rep K B F' H' σ γ' → Ex F F' → RsOk K B F' H' σ γ' v s → q s γ' → Q v H') → te σ H Q
def ST (K : PySem.W.Frag) (B : Bs) (tt : TT) (dt : DT) : Prop := ∀ (F H : Hp) (σ : L2.St) (γ : Env) (Q : Bool → Hp → Prop) (q : Bool → Env → Prop), Rep K B F H σ γ → dt γ q →
  (∀ b F' H' γ', Rep K B F' H' σ γ' → Ex F F' → q b γ' → Q b H') → tt σ H Q
def SA (K : PySem.W.Frag) (B : Bs) (ta : TA) (da : DA) : Prop := ∀ (F H : Hp) (σ : L2.St) (γ : Env) (Q : List V → Hp → Prop) (q : List RS → Env → Prop), Rep K B F H σ γ → da γ q →
  (∀ vs F' H' γ' rs, Rep K B F' H' σ γ' → Ex F F' → Paired (RsOk K B F' H' σ γ') vs rs → q rs γ' → Q vs H') → ta σ H Q
structure XE (X : Cx) (B : Bs) (e : Expr) (te : TE) (de : DE) : Prop where
  pe : PE X e te
  se : SE X.K B te de
structure XT (X : Cx) (B : Bs) (e : Expr) (tt : TT) (dt : DT) : Prop where
  pt : PT X e tt
  st : ST X.K B tt dt
structure XW (X : Cx) (B : Bs) (e : Expr) (tt : TT) (dt : DT) : Prop where
  pw : PW X e tt
  st : ST X.K B tt dt
structure XA (X : Cx) (B : Bs) (es : List Expr) (ta : TA) (da : DA) : Prop where
  pa : PA X es ta
  sa : SA X.K B ta da

/-- a new thing that is not given a name stays -/
def RS.fz : RS → RS
  | .new c => .val c.data
  | s => s
theorem RS.fz_data (s : RS) : s.fz.data = s.data := by cases s <;> rfl
section
variable {K : PySem.W.Frag} {B : Bs} {F F' H H' : Hp} {σ : L2.St} {γ γ' : Env} {v : V} {d : D}
theorem RsOk.fz (R : Rep K B F H σ γ) {s : RS} (h : RsOk K B F H σ γ v s) : ∃ F', Rep K B F' H σ γ ∧ Ex F F' ∧ RsOk K B F' H σ γ v s.fz := by
  cases s with
  | val d => exact ⟨F, R, Evl.Ex.refl F, h⟩
  | own j c => exact ⟨F, R, Evl.Ex.refl F, h⟩
  | new c =>
    obtain ⟨a, rfl, N⟩ := h
    have ok := N.ok
    cases c with
    | lst ds =>
      obtain ⟨vs, h1, h2⟩ := ok
      obtain ⟨R', e⟩ := R.freeze h1 N.fa N.bm fun i q c' hg => ⟨N.na i q c' hg, fun x _ z => by cases z⟩
      exact ⟨_, R', e, .lst upd_same (h2.mono e)⟩
    | dct kd =>
      obtain ⟨kv, h1, h2⟩ := ok
      obtain ⟨R', e⟩ := R.freeze h1 N.fa N.bm fun i q c' hg => ⟨N.na i q c' hg, fun x _ z => by cases z⟩
      exact ⟨_, R', e, .dct (.inl upd_same) (h2.mono e)⟩
    | ins C fs =>
      obtain ⟨dx, fv, h1, h2, h3, h4, h5, h6⟩ := ok
      have na : a ≠ dx := ne_of h1 h2 (fun z => by cases z)
      obtain ⟨R', e⟩ := R.freeze h2 h3 h5 fun i q c' hg => ⟨fun hs => by
        obtain ⟨_, ok'⟩ := R.ownObj hg hs
        obtain ⟨o, ho, n⟩ := ok'.obj
        rw [h2] at ho
        exact n a (Option.some.inj ho).symm, fun x hs z => by
        injection z with z
        subst z
        exact N.na i q c' hg hs⟩
      obtain ⟨R2, e2⟩ := R'.freeze h1 (by rw [upd_ne na]; exact N.fa) N.bm fun i q c' hg => ⟨N.na i q c' hg, fun x _ z => by cases z⟩
      refine ⟨_, R2, e.trans e2, .obj upd_same (e2 dx _ upd_same) (h6.mono (e.trans e2))⟩
/-- read as it stands: frozen, or owned -/
def Rs (K : KZ) (F H : Hp) (v : V) (d : D) : Prop := Rp K F v d ∨ ∃ a, v = .ref a ∧
  ((∃ vs ds, d = .lst ds ∧ H a = some (.lst vs) ∧ RpAll K F vs ds) ∨ (∃ C dx fv fs, d = .obj C fs ∧ H a = some (.ins (ctOf K.fr C) dx fv) ∧ H dx = some (.own a) ∧ RpFs K F fv fs) ∨ ∃ kv kd, d = .dct kd ∧ H a = some (.dK kv) ∧ RpKs K F kv kd)
theorem OCok.rs {a : Addr} {c : OC} (h : OCok K B F H a c) : Rs (B.kz K) F H (.ref a) c.data := by
  cases c with
  | lst ds => obtain ⟨vs, h1, h2⟩ := h; exact .inr ⟨a, rfl, .inl ⟨vs, ds, rfl, h1, h2⟩⟩
  | ins C fs => obtain ⟨dx, fv, h1, h2, _, _, _, h6⟩ := h; exact .inr ⟨a, rfl, .inr (.inl ⟨C, dx, fv, fs, rfl, h1, h2, h6⟩)⟩
  | dct kd => obtain ⟨kv, h1, h2⟩ := h; exact .inr ⟨a, rfl, .inr (.inr ⟨kv, kd, rfl, h1, h2⟩)⟩
/-- what a result says later: val grows, own is asked again -/
theorem RsOk.later {s : RS} {F1 H1 F2 H2 : Hp} {γ1 γ2 : Env} (h : RsOk K B F1 H1 σ γ1 v s) (e : Ex F1 F2) (R2 : Rep K B F2 H2 σ γ2) (hok : s.ok γ2) (hf : s.fz = s) : RsOk K B F2 H2 σ γ2 v s := by
  cases s with
  | val d => exact Rp.mono e h
  | own j c =>
    obtain ⟨p, hp⟩ := hok
    obtain ⟨a, _, hg, _⟩ := R2.own hp
    exact ⟨h.1, p, hg⟩
  | new c => cases hf
theorem RsOk.rs (R : Rep K B F H σ γ) {s : RS} (h : RsOk K B F H σ γ v s) : Rs (B.kz K) F H v s.data := by
  cases s with
  | val d => exact .inl h
  | own j c =>
    obtain ⟨hs, p, hg⟩ := h
    obtain ⟨a, e, _, ok⟩ := R.sl j _ _ hs hg
    cases e
    exact ok.rs
  | new c =>
    obtain ⟨a, rfl, N⟩ := h
    exact N.ok.rs
theorem fz_idem (s : RS) : s.fz.fz = s.fz := by cases s <;> rfl
theorem fz_ok (s : RS) (γ : Env) : s.ok γ → s.fz.ok γ := by cases s <;> exact fun h => h
theorem ok_own {j : Nat} {c : OC} {p : Option Nat} (h : look γ j = .own p c) : RS.ok γ (.own j c) := ⟨p, h⟩
end
/-! inversions -/
section
variable {K : KZ} {F F' H H' : Hp} {v : V} {d : D}
theorem Rs.int {i : Int} (h : Rs K F H v (.int i)) : v = .int i := by
  rcases h with h | ⟨a, rfl, ⟨_, _, e, _⟩ | ⟨_, _, _, _, e, _⟩ | ⟨_, _, e, _⟩⟩
  · cases h; rfl
  all_goals cases e
theorem Rs.bl {i : Bool} (h : Rs K F H v (.bl i)) : v = .bl i := by
  rcases h with h | ⟨a, rfl, ⟨_, _, e, _⟩ | ⟨_, _, _, _, e, _⟩ | ⟨_, _, e, _⟩⟩
  · cases h; rfl
  all_goals cases e
theorem Rs.str {i : Str} (h : Rs K F H v (.str i)) : v = .str i := by
  rcases h with h | ⟨a, rfl, ⟨_, _, e, _⟩ | ⟨_, _, _, _, e, _⟩ | ⟨_, _, e, _⟩⟩
  · cases h; rfl
  all_goals cases e
theorem Rs.non (h : Rs K F H v .non) : v = .non := by
  rcases h with h | ⟨a, rfl, ⟨_, _, e, _⟩ | ⟨_, _, _, _, e, _⟩ | ⟨_, _, e, _⟩⟩
  · cases h; rfl
  all_goals cases e
theorem Rs.lst {ds : List D} (e : Ex F H) (h : Rs K F H v (.lst ds)) : ∃ a vs, v = .ref a ∧ H a = some (.lst vs) ∧ RpAll K F vs ds := by
  rcases h with h | ⟨a, rfl, ⟨vs, _, e, h1, h2⟩ | ⟨_, _, _, _, e, _⟩ | ⟨_, _, e, _⟩⟩
  · cases h with
    | lst h1 h2 => exact ⟨_, _, rfl, e _ _ h1, h2⟩
  · cases e; exact ⟨a, vs, rfl, h1, h2⟩
  all_goals cases e
theorem Rs.tup {ds : List D} (e : Ex F H) (h : Rs K F H v (.tup ds)) : ∃ a vs, v = .ref a ∧ SqT K H a vs ∧ RpAll K F vs ds := by
  rcases h with h | ⟨a, rfl, ⟨vs, _, e, h1, h2⟩ | ⟨_, _, _, _, e, _⟩ | ⟨_, _, e, _⟩⟩
  · cases h with
    | tup h1 h2 => exact ⟨_, _, rfl, ex_t e h1, h2⟩
  all_goals cases e
end

/-! ### names and constants -/
section
variable {X : Cx} {B : Bs} {pos : Pos}
def dC (d : D) (γ : Env) (q : RS → Env → Prop) : Prop := q (.val d) γ
/-- a name, as it stands -/
def dVar (i : Nat) (γ : Env) (q : RS → Env → Prop) : Prop := match look γ i with
  | .val d => q (.val d) γ
  | .own _ c => q (.own i c) γ
  | .no => False
/-- a name whose thing stays from here on -/
def dVarV (i : Nat) (γ : Env) (q : RS → Env → Prop) : Prop := match look γ i with
  | .val d => q (.val d) γ
  | .own _ c => q (.val c.data) (put γ i (.val c.data))
  | .no => False
/-- a name that is given away -/
def dVarM (i : Nat) (γ : Env) (q : RS → Env → Prop) : Prop := match look γ i with
  | .val d => q (.val d) γ
  | .own none c => q (.new c) (put γ i .no)
  | .own (some _) _ => False
  | .no => False
theorem se_c {K : PySem.W.Frag} {B : Bs} {v : V} {d : D} (h : ∀ z F, Rp ⟨K, z⟩ F v d) : SE K B (tC v) (dC d) := fun F H σ γ Q q R hq k => k v F H γ (.val d) R (Evl.Ex.refl F) (h B.z F) hq
theorem se_var {K : PySem.W.Frag} {B : Bs} {i : Nat} : SE K B (tVar i) (dVar i) := fun F H σ γ Q q R hq k => by
  unfold dVar at hq
  cases e : look γ i with
  | no => rw [e] at hq; exact hq.elim
  | val d =>
    rw [e] at hq
    obtain ⟨v, hs, r⟩ := R.val e
    exact ⟨v, hs, k v F H γ (.val d) R (Evl.Ex.refl F) r hq⟩
  | own p c =>
    rw [e] at hq
    obtain ⟨a, hs, hg, _⟩ := R.own e
    exact ⟨.ref a, hs, k _ F H γ (.own i c) R (Evl.Ex.refl F) ⟨hs, p, hg⟩ hq⟩
section
variable {K : PySem.W.Frag} {B : Bs} {F H : Hp} {σ : L2.St} {γ : Env}
theorem get_put {i j : Nat} {s t : Sx} (h : (put γ i s)[j]? = some t) : (j = i ∧ t = s) ∨ (j ≠ i ∧ γ[j]? = some t) := by
  rw [put_set] at h
  by_cases e : i = j
  · subst e
    by_cases hl : i < γ.length
    · rw [List.getElem?_set_self hl] at h; exact .inl ⟨rfl, (Option.some.inj h).symm⟩
    · rw [List.getElem?_eq_none (by rw [List.length_set]; omega)] at h; cases h
  · rw [List.getElem?_set_ne e] at h; exact .inr ⟨fun z => e z.symm, h⟩
/-- a slot told less, or by frozen data -/
theorem Rep.told (R : Rep K B F H σ γ) {i : Nat} {t : Sx} (ht : ∀ s, σ[i]? = some s → SlotOk K B F H s t) (hn : ∀ p c, t ≠ .own p c) : Rep K B F H σ (put γ i t) := by
  have key : ∀ {j : Nat} {p : Option Nat} {c : OC}, (put γ i t)[j]? = some (.own p c) → γ[j]? = some (.own p c) := fun h => by
    rcases get_put h with ⟨_, e⟩ | ⟨_, e⟩
    · exact absurd e.symm (hn _ _)
    · exact e
  refine ⟨R.fh, by rw [put_len]; exact R.len, fun j s u hs hg => ?_, fun i j a p c q c' h1 h2 => R.nd i j a p c q c' (key h1) (key h2), R.b1, R.b2, R.b3, fun j a p c h1 => R.b4 j a p c (key h1), fun j a p c h1 => R.b5 j a p c (key h1), R.bN, R.bd⟩
  rcases get_put hg with ⟨rfl, rfl⟩ | ⟨_, e⟩
  · exact ht s hs
  · exact R.sl j s u hs e
/-- the thing in slot i is given away -/
theorem Rep.move (R : Rep K B F H σ γ) {i : Nat} {c : OC} (e : look γ i = .own none c) : ∃ a, σ[i]? = some (some (.ref a)) ∧ Rep K B F H σ (put γ i .no) ∧ RNew K B F H σ (put γ i .no) a c := by
  obtain ⟨a, hs, hg, fa, ok⟩ := R.own e
  refine ⟨a, hs, R.told (fun _ _ => trivial) (fun _ _ z => by cases z), fa, ok, (R.b4 i a none c hg hs).2 rfl, R.b5 i a none c hg hs, fun j p c' h1 h2 => ?_⟩
  rcases get_put h1 with ⟨_, z⟩ | ⟨n, z⟩
  · cases z
  · exact n (R.nd j i a p c' none c z hg h2 hs)
/-- the thing in slot i stays from here on -/
theorem Rep.freezeVar (R : Rep K B F H σ γ) {i : Nat} {p : Option Nat} {c : OC} (e : look γ i = .own p c) : ∃ a F', σ[i]? = some (some (.ref a)) ∧ Rep K B F' H σ (put γ i (.val c.data)) ∧ Ex F F' ∧ Rp (B.kz K) F' (.ref a) c.data := by
  obtain ⟨a, hs, hg, fa, ok⟩ := R.own e
  have R0 : Rep K B F H σ (put γ i .no) := R.told (fun _ _ => trivial) (fun _ _ z => by cases z)
  have na : ∀ (j : Nat) q c', (put γ i .no)[j]? = some (.own q c') → σ[j]? ≠ some (some (.ref a)) := fun j q c' h1 h2 => by
    rcases get_put h1 with ⟨_, z⟩ | ⟨n, z⟩
    · cases z
    · exact n (R.nd j i a q c' p c z hg h2 hs)
  have b5 := R.b5 i a p c hg hs
  obtain ⟨F', R', ex, rp⟩ : ∃ F', Rep K B F' H σ (put γ i .no) ∧ Ex F F' ∧ Rp (B.kz K) F' (.ref a) c.data := by
    cases c with
    | lst ds =>
      obtain ⟨vs, h1, h2⟩ := ok
      obtain ⟨R', e⟩ := R0.freeze h1 fa b5 fun i q c' hg => ⟨na i q c' hg, fun x _ z => by cases z⟩
      exact ⟨_, R', e, .lst upd_same (h2.mono e)⟩
    | dct kd =>
      obtain ⟨kv, h1, h2⟩ := ok
      obtain ⟨R', e⟩ := R0.freeze h1 fa b5 fun i q c' hg => ⟨na i q c' hg, fun x _ z => by cases z⟩
      exact ⟨_, R', e, .dct (.inl upd_same) (h2.mono e)⟩
    | ins C fs =>
      obtain ⟨dx, fv, h1, h2, h3, h4, h5, h6⟩ := ok
      have nad : a ≠ dx := ne_of h1 h2 (fun z => by cases z)
      obtain ⟨R', e⟩ := R0.freeze h2 h3 h5 fun i q c' hg => ⟨fun hs => by
        obtain ⟨_, ok'⟩ := R0.ownObj hg hs
        obtain ⟨o, ho, n⟩ := ok'.obj
        rw [h2] at ho
        exact n a (Option.some.inj ho).symm, fun x hs z => by
        injection z with z
        subst z
        exact na i q c' hg hs⟩
      obtain ⟨R2, e2⟩ := R'.freeze h1 (by rw [upd_ne nad]; exact fa) b5 fun i q c' hg => ⟨na i q c' hg, fun x _ z => by cases z⟩
      exact ⟨_, R2, e.trans e2, .obj upd_same (e2 dx _ upd_same) (h6.mono (e.trans e2))⟩
  refine ⟨a, F', hs, ?_, ex, rp⟩
  have q := R'.told (i := i) (t := .val c.data) (fun s hs' => by rw [hs] at hs'; cases hs'; exact ⟨_, rfl, rp⟩) (fun _ _ z => by cases z)
  have pp : put (put γ i .no) i (.val c.data) = put γ i (.val c.data) := by rw [put_set, put_set, put_set, List.set_set]
  rw [pp] at q
  exact q
end
theorem se_varV {K : PySem.W.Frag} {B : Bs} {i : Nat} : SE K B (tVar i) (dVarV i) := fun F H σ γ Q q R hq k => by
  unfold dVarV at hq
  cases e : look γ i with
  | no => rw [e] at hq; exact hq.elim
  | val d =>
    rw [e] at hq
    obtain ⟨v, hs, r⟩ := R.val e
    exact ⟨v, hs, k v F H γ (.val d) R (Evl.Ex.refl F) r hq⟩
  | own p c =>
    rw [e] at hq
    obtain ⟨a, F', hs, R', ex, rp⟩ := R.freezeVar e
    exact ⟨.ref a, hs, k _ F' H _ (.val c.data) R' ex rp hq⟩
theorem se_varM {K : PySem.W.Frag} {B : Bs} {i : Nat} : SE K B (tVar i) (dVarM i) := fun F H σ γ Q q R hq k => by
  unfold dVarM at hq
  cases e : look γ i with
  | no => rw [e] at hq; exact hq.elim
  | val d =>
    rw [e] at hq
    obtain ⟨v, hs, r⟩ := R.val e
    exact ⟨v, hs, k v F H γ (.val d) R (Evl.Ex.refl F) r hq⟩
  | own p c =>
    rw [e] at hq
    cases p with
    | some k' => exact hq.elim
    | none =>
      obtain ⟨a, hs, R', N⟩ := R.move e
      exact ⟨.ref a, hs, k _ F H _ (.new c) R' (Evl.Ex.refl F) ⟨a, rfl, N⟩ hq⟩
section
variable {x : Str}
theorem xv (i : Nat) (hN : X.N[i]? = some x := by rfl) (hv : Vis X.env.scope x := by first | exact Or.inl rfl | exact Or.inr (Or.inl rfl) | exact Or.inr (Or.inr rfl)) (hd : (x == ("__debug__" : Str)) = false := by decide)
    (hcd : (x == ("__classdict__" : Str)) = false := by decide) : XE X B (.Name x pos) (tVar i) (dVar i) := ⟨pe_var hN hv hd hcd, se_var⟩
theorem xvV (i : Nat) (hN : X.N[i]? = some x := by rfl) (hv : Vis X.env.scope x := by first | exact Or.inl rfl | exact Or.inr (Or.inl rfl) | exact Or.inr (Or.inr rfl)) (hd : (x == ("__debug__" : Str)) = false := by decide)
    (hcd : (x == ("__classdict__" : Str)) = false := by decide) : XE X B (.Name x pos) (tVar i) (dVarV i) := ⟨pe_var hN hv hd hcd, se_varV⟩
theorem xvM (i : Nat) (hN : X.N[i]? = some x := by rfl) (hv : Vis X.env.scope x := by first | exact Or.inl rfl | exact Or.inr (Or.inl rfl) | exact Or.inr (Or.inr rfl)) (hd : (x == ("__debug__" : Str)) = false := by decide)
    (hcd : (x == ("__classdict__" : Str)) = false := by decide) : XE X B (.Name x pos) (tVar i) (dVarM i) := ⟨pe_var hN hv hd hcd, se_varM⟩
end
theorem x_int {i j} : XE X B (.Constant (.int i) j pos) (tC (.int i)) (dC (.int i)) := ⟨pe_int, se_c fun _ _ => .int i⟩
theorem x_bl {i j} : XE X B (.Constant (.bool i) j pos) (tC (.bl i)) (dC (.bl i)) := ⟨pe_bl, se_c fun _ _ => .bl i⟩
theorem x_non {j} : XE X B (.Constant .none j pos) (tC .non) (dC .non) := ⟨pe_non, se_c fun _ _ => .non⟩
theorem x_str {i j} : XE X B (.Constant (.str i) j pos) (tC (.str i)) (dC (.str i)) := ⟨pe_str, se_c fun _ _ => .str i⟩
theorem x_glob {x : Str} {v : V} {d : D} {u : Value} (hg : Gl X x) (hm : X.mg x = some u) (r : RelV v u) (h : ∀ z F, Rp ⟨X.K, z⟩ F v d) (hd : (x == ("__debug__" : Str)) = false := by decide) : XE X B (.Name x pos) (tC v) (dC d) := ⟨pe_glob hg hm r hd, se_c h⟩
end

/-! ### operations -/
def OpD (K : PySem.W.Frag) (r : R2) (f : D → D → (RS → Prop) → Prop) : Prop := ∀ (B : Bs) (F H : Hp) (σ : L2.St) (γ : Env) (x y : V) (d e : D) (Q : VK) (q : RS → Prop), Rep K B F H σ γ → Rs (B.kz K) F H x d → Rs (B.kz K) F H y e → f d e q →
  (∀ v F' H' s, Rep K B F' H' σ γ → Ex F F' → RsOk K B F' H' σ γ v s → q s → Q v H') → r x y H Q
def UnD (K : PySem.W.Frag) (r : V → Hp → VK → Prop) (f : D → (RS → Prop) → Prop) : Prop := ∀ (B : Bs) (F H : Hp) (σ : L2.St) (γ : Env) (x : V) (d : D) (Q : VK) (q : RS → Prop), Rep K B F H σ γ → Rs (B.kz K) F H x d → f d q →
  (∀ v F' H' s, Rep K B F' H' σ γ → Ex F F' → RsOk K B F' H' σ γ v s → q s → Q v H') → r x H Q
def CallD (K : PySem.W.Frag) (r : List V → Hp → VK → Prop) (f : List D → (RS → Prop) → Prop) : Prop := ∀ (B : Bs) (F H : Hp) (σ : L2.St) (γ : Env) (xs : List V) (ds : List D) (Q : VK) (q : RS → Prop), Rep K B F H σ γ → Paired (Rs (B.kz K) F H) xs ds → f ds q →
  (∀ v F' H' s, Rep K B F' H' σ γ → Ex F F' → RsOk K B F' H' σ γ v s → q s → Q v H') → r xs H Q
def d2 (f : D → D → (RS → Prop) → Prop) (da db : DE) (γ : Env) (q : RS → Env → Prop) : Prop := da γ fun s γ1 => db γ1 fun t γ2 => s.ok γ2 ∧ f s.data t.data fun r => q r γ2
def d1 (f : D → (RS → Prop) → Prop) (da : DE) (γ : Env) (q : RS → Env → Prop) : Prop := da γ fun s γ1 => f s.data fun r => q r γ1
section
variable {K : PySem.W.Frag} {B : Bs} {ta tb : TE} {da db : DE}
theorem se_op {r : R2} {f : D → D → (RS → Prop) → Prop} (ho : OpD K r f) (sa : SE K B ta da) (sb : SE K B tb db) : SE K B (tOp r ta tb) (d2 f da db) := fun F H σ γ Q q R hq k => by
  refine sa F H σ γ _ _ R hq fun x F1 H1 γ1 s R1 e1 o1 h1 => ?_
  obtain ⟨F2, R2, e2, o2⟩ := o1.fz R1
  refine sb F2 H1 σ γ1 _ _ R2 h1 fun y F3 H3 γ3 t R3 e3 o3 ⟨h3, h4⟩ => ?_
  obtain ⟨F4, R4, e4, o4⟩ := o3.fz R3
  have ox := o2.later (e3.trans e4) R4 (fz_ok s γ3 h3) (fz_idem s)
  have rx := ox.rs R4
  have ry := o4.rs R4
  rw [RS.fz_data] at rx ry
  exact ho B F4 H3 σ γ3 x y _ _ Q _ R4 rx ry h4 fun v F5 H5 u R5 e5 o5 h5 => k v F5 H5 γ3 u R5 ((((e1.trans e2).trans e3).trans e4).trans e5) o5 h5
theorem se_un {r : V → Hp → VK → Prop} {f : D → (RS → Prop) → Prop} (ho : UnD K r f) (sa : SE K B ta da) : SE K B (tUn r ta) (d1 f da) := fun F H σ γ Q q R hq k => by
  refine sa F H σ γ _ _ R hq fun x F1 H1 γ1 s R1 e1 o1 h1 => ?_
  obtain ⟨F2, R2, e2, o2⟩ := o1.fz R1
  have rx := o2.rs R2
  rw [RS.fz_data] at rx
  exact ho B F2 H1 σ γ1 x _ Q _ R2 rx h1 fun v F5 H5 u R5 e5 o5 h5 => k v F5 H5 γ1 u R5 ((e1.trans e2).trans e5) o5 h5
def dNil (γ : Env) (q : List RS → Env → Prop) : Prop := q [] γ
/-- what a result is by now -/
def RS.now (γ : Env) : RS → (RS → Prop) → Prop
  | .own j _, q => match look γ j with
    | .own _ c => q (.own j c)
    | .val d => q (.val d)
    | .no => False
  | .val d, q => q (.val d)
  | .new c, q => q (.val c.data)
theorem RsOk.now {B : Bs} {F1 H1 F2 H2 : Hp} {σ : L2.St} {γ1 γ2 : Env} {v : V} {s : RS} {q : RS → Prop} (h : RsOk K B F1 H1 σ γ1 v s.fz) (e : Ex F1 F2) (R2 : Rep K B F2 H2 σ γ2) (hq : s.now γ2 q) : ∃ s', RsOk K B F2 H2 σ γ2 v s' ∧ q s' := by
  cases s with
  | val d => exact ⟨.val d, Rp.mono e h, hq⟩
  | new c => exact ⟨.val c.data, Rp.mono e h, hq⟩
  | own j c =>
    obtain ⟨hs, p, hg⟩ := h
    unfold RS.now at hq
    cases el : look γ2 j with
    | no => simp only [el] at hq
    | val d =>
      simp only [el] at hq
      obtain ⟨v', hs', r⟩ := R2.val el
      rw [hs] at hs'
      cases hs'
      exact ⟨.val d, r, hq⟩
    | own p' c' =>
      simp only [el] at hq
      obtain ⟨a, hs', hg', _⟩ := R2.own el
      exact ⟨.own j c', ⟨hs, p', hg'⟩, hq⟩
def dCons (da : DE) (dr : DA) (γ : Env) (q : List RS → Env → Prop) : Prop := da γ fun s γ1 => dr γ1 fun rs γ2 => s.now γ2 fun s' => q (s' :: rs) γ2
theorem sa_nil : SA K B tNil dNil := fun F H σ γ Q q R hq k => k [] F H γ [] R (Evl.Ex.refl F) .nil hq
theorem sa_cons {tr : TA} {dr : DA} (sa : SE K B ta da) (sr : SA K B tr dr) : SA K B (tCons ta tr) (dCons da dr) := fun F H σ γ Q q R hq k => by
  refine sa F H σ γ _ _ R hq fun x F1 H1 γ1 s R1 e1 o1 h1 => ?_
  obtain ⟨F2, R2, e2, o2⟩ := o1.fz R1
  refine sr F2 H1 σ γ1 _ _ R2 h1 fun vs F3 H3 γ3 rs R3 e3 o3 h3 => ?_
  obtain ⟨s', o4, h4⟩ := o2.now e3 R3 h3
  exact k _ F3 H3 γ3 _ R3 ((e1.trans e2).trans e3) (.cons o4 o3) h4
/-- the data of arguments -/
def dCB (f : List D → (RS → Prop) → Prop) (da : DA) (γ : Env) (q : RS → Env → Prop) : Prop := da γ fun rs γ1 => f (rs.map RS.data) fun r => q r γ1
theorem rs_all {B : Bs} {F H : Hp} {σ : L2.St} {γ : Env} (R : Rep K B F H σ γ) : ∀ {vs : List V} {rs : List RS}, Paired (RsOk K B F H σ γ) vs rs → Paired (Rs (B.kz K) F H) vs (rs.map RS.data)
  | _, _, .nil => .nil
  | _, _, .cons h t => .cons (h.rs R) (rs_all R t)
theorem se_cb {ta : TA} {da : DA} {r : List V → Hp → VK → Prop} {f : List D → (RS → Prop) → Prop} (ho : CallD K r f) (sa : SA K B ta da) : SE K B (tCB r ta) (dCB f da) := fun F H σ γ Q q R hq k => by
  refine sa F H σ γ _ _ R hq fun vs F1 H1 γ1 rs R1 e1 o1 h1 => ?_
  exact ho B F1 H1 σ γ1 vs _ Q _ R1 (rs_all R1 o1) h1 fun v F5 H5 u R5 e5 o5 h5 => k v F5 H5 γ1 u R5 (e1.trans e5) o5 h5
end
section
variable {X : Cx} {B : Bs} {pos : Pos} {a b : Expr} {ta tb : TE} {da db : DE}
theorem x_op {op : Operator} {r : R2} {f : D → D → (RS → Prop) → Prop} (ho : OpR X (binaryOp op) r) (hd : OpD X.K r f) (ha : XE X B a ta da) (hb : XE X B b tb db) : XE X B (.BinOp a op b pos) (tOp r ta tb) (d2 f da db) := ⟨pe_op ho ha.pe hb.pe, se_op hd ha.se hb.se⟩
theorem x_un {op : UnaryOp} {r : V → Hp → VK → Prop} {f : D → (RS → Prop) → Prop} (ho : UnR X (unaryOp op) r) (hd : UnD X.K r f) (ha : XE X B a ta da) : XE X B (.UnaryOp op a pos) (tUn r ta) (d1 f da) := ⟨pe_un ho ha.pe, se_un hd ha.se⟩
theorem x_cmp {op : CmpOp} {r : R2} {f : D → D → (RS → Prop) → Prop} (ho : OpR X (compareOp op) r) (hd : OpD X.K r f) (ha : XE X B a ta da) (hb : XE X B b tb db) (hm : behindInMarks op b = false := by first | exact nomark _ | rfl) : XE X B (.Compare a [op] [b] pos) (tOp r ta tb) (d2 f da db) := ⟨pe_cmpR ho ha.pe hb.pe hm, se_op hd ha.se hb.se⟩
theorem x_ix {r : R2} {f : D → D → (RS → Prop) → Prop} (ho : IxR X r) (hd : OpD X.K r f) (ha : XE X B a ta da) (hb : XE X B b tb db) (hs : PlainIx b := by exact fun _ _ => rfl) : XE X B (.Subscript a b pos) (tOp r ta tb) (d2 f da db) := ⟨pe_ix ho ha.pe hb.pe hs, se_op hd ha.se hb.se⟩
theorem xa_nil : XA X B [] tNil dNil := ⟨pa_nil, sa_nil⟩
theorem xa_cons {es : List Expr} {tr : TA} {dr : DA} (ha : XE X B a ta da) (hr : XA X B es tr dr) (hs : starEach (a :: es) X.env = (false, eval a X.env) :: starEach es X.env := by rfl) : XA X B (a :: es) (tCons ta tr) (dCons da dr) := ⟨pa_cons ha.pe hr.pa hs, sa_cons ha.se hr.sa⟩
theorem x_cb {id : String} {es : List Expr} {x : Str} {p : Pos} {tl : TA} {dl : DA} {r : List V → Hp → VK → Prop} {f : List D → (RS → Prop) → Prop} (hc : CallR X (.builtin id) r) (hd : CallD X.K r f) (hm : X.mg x = none) (hl : XA X B (a :: es) tl dl)
    (hg : Gl X x := by rfl) (hv : bootBuiltins x = some (.builtin id) := by decide +kernel) (hn : x ≠ "__name__" := by decide) (hdb : (x == ("__debug__" : Str)) = false := by decide)
    (he : starEach (a :: es) X.env = (false, eval a X.env) :: starEach es X.env := by rfl) (hpl : (backTo pos (starEach es X.env)).any (·.1) = false := by rfl) : XE X B (.Call (.Name x p) (a :: es) [] pos) (tCB r tl) (dCB f dl) := ⟨pe_callB hc hg hm hv hl.pa hn hdb he hpl, se_cb hd hl.sa⟩
theorem x_ct {T : String} {es : List Expr} {x : Str} {p : Pos} {tl : TA} {dl : DA} {r : List V → Hp → VK → Prop} {f : List D → (RS → Prop) → Prop} (hc : CallR X (.type T) r) (hd : CallD X.K r f) (hm : X.mg x = none) (hl : XA X B (a :: es) tl dl)
    (hg : Gl X x := by rfl) (hv : bootBuiltins x = some (.type T) := by decide +kernel) (hn : x ≠ "__name__" := by decide) (hdb : (x == ("__debug__" : Str)) = false := by decide)
    (he : starEach (a :: es) X.env = (false, eval a X.env) :: starEach es X.env := by rfl) (hpl : (backTo pos (starEach es X.env)).any (·.1) = false := by rfl) : XE X B (.Call (.Name x p) (a :: es) [] pos) (tCB r tl) (dCB f dl) := ⟨pe_callTy hc hg hm hv hl.pa hn hdb he hpl, se_cb hd hl.sa⟩
end
end DL

set_option Elab.async false
set_option linter.all false
set_option maxRecDepth 100000
set_option maxHeartbeats 2000000
namespace DL
open PySem PySem.Spec PyProof.Rows L2
open Evl (Ex ex_l ex_t)
theorem sz_le {n : Nat} (h : n ≤ 1000000) : n ≤ sizeLine := Nat.le_trans h (by decide)

/-! ### new things -/
section
variable {K : PySem.W.Frag} {B : Bs} {F H : Hp} {σ : L2.St} {γ : Env} {p : Addr} {vs : List V} {ds : List D}
theorem Rep.newL (R : Rep K B F H σ γ) (hp : H p = none) (h : RpAll (B.kz K) F vs ds) : Rep K B F (upd H p (.lst vs)) σ γ ∧ RsOk K B F (upd H p (.lst vs)) σ γ (.ref p) (.new (.lst ds)) := by
  obtain ⟨f1, f2, f3, f4⟩ := R.fresh hp
  exact ⟨R.alloc _ hp, p, rfl, f1, ⟨vs, upd_same, h⟩, f3, .inr f2, f4⟩
theorem Rep.newT (R : Rep K B F H σ γ) (hp : H p = none) (h : RpAll (B.kz K) F vs ds) : Rep K B (upd F p (.tup vs)) (upd H p (.tup vs)) σ γ ∧ Ex F (upd F p (.tup vs)) ∧ Rp (B.kz K) (upd F p (.tup vs)) (.ref p) (.tup ds) := by
  obtain ⟨f1, f2, f3, f4⟩ := R.fresh hp
  obtain ⟨R2, e⟩ := (R.alloc (.tup vs) hp).freeze (a := p) (o := .tup vs) upd_same f1 (.inr f2) fun i q c' hg => ⟨f4 i q c' hg, fun x _ z => by cases z⟩
  exact ⟨R2, e, .tup (Evl.st_of upd_same) (h.mono e)⟩
end

/-! ### operations on numbers, texts, truths -/
theorem vk {K : PySem.W.Frag} {B : Bs} {F H : Hp} {σ : L2.St} {γ : Env} {v : V} {d : D} {Q : VK} {q : RS → Prop} (R : Rep K B F H σ γ) (k : ∀ v F' H' s, Rep K B F' H' σ γ → Ex F F' → RsOk K B F' H' σ γ v s → q s → Q v H')
    (r : Rp (B.kz K) F v d) (hq : q (.val d)) : Q v H := k v F H (.val d) R (Evl.Ex.refl F) r hq
def fI0 (g : Int → Int → D) : D → D → (RS → Prop) → Prop
  | .int i, .int j, q => q (.val (g i j))
  | _, _, _ => False
def fI (C : Int → Int → Prop) (g : Int → Int → D) : D → D → (RS → Prop) → Prop
  | .int i, .int j, q => C i j ∧ q (.val (g i j))
  | _, _, _ => False
def fU (g : Int → D) : D → (RS → Prop) → Prop
  | .int i, q => q (.val (g i))
  | _, _ => False
section
variable {K : PySem.W.Frag} {B : Bs}
theorem od_I0 {gv : Int → Int → V} {g : Int → Int → D} (h : ∀ i j z F, Rp ⟨K, z⟩ F (gv i j) (g i j)) : OpD K (rI0 gv) (fI0 g) := fun B F H σ γ x y d e Q q R rx ry hf k => by
  unfold fI0 at hf
  split at hf
  · exact ⟨_, _, rx.int, ry.int, vk R k (h _ _ _ F) hf⟩
  · exact hf.elim
theorem od_I {C : Int → Int → Prop} {gv : Int → Int → V} {g : Int → Int → D} (h : ∀ i j z F, Rp ⟨K, z⟩ F (gv i j) (g i j)) : OpD K (rI C gv) (fI C g) := fun B F H σ γ x y d e Q q R rx ry hf k => by
  unfold fI at hf
  split at hf
  · exact ⟨_, _, rx.int, ry.int, hf.1, vk R k (h _ _ _ F) hf.2⟩
  · exact hf.elim
theorem ud_U {gv : Int → V} {g : Int → D} (h : ∀ i z F, Rp ⟨K, z⟩ F (gv i) (g i)) : UnD K (rU gv) (fU g) := fun B F H σ γ x d Q q R rx hf k => by
  unfold fU at hf
  split at hf
  · exact ⟨_, rx.int, vk R k (h _ _ F) hf⟩
  · exact hf.elim
theorem od_add : OpD K (rI0 fun i j => .int (i + j)) (fI0 fun i j => .int (i + j)) := od_I0 fun _ _ _ _ => .int _
theorem od_sub : OpD K (rI0 fun i j => .int (i - j)) (fI0 fun i j => .int (i - j)) := od_I0 fun _ _ _ _ => .int _
theorem od_mul : OpD K (rI CMul fun i j => .int (i * j)) (fI CMul fun i j => .int (i * j)) := od_I fun _ _ _ _ => .int _
theorem od_fdiv : OpD K (rI CDiv fun i j => .int (i / j)) (fI CDiv fun i j => .int (i / j)) := od_I fun _ _ _ _ => .int _
theorem od_mod : OpD K (rI (fun _ j => 0 < j) fun i j => .int (i % j)) (fI (fun _ j => 0 < j) fun i j => .int (i % j)) := od_I fun _ _ _ _ => .int _
theorem od_mulW : OpD K (rI CMulW fun i j => .int (i * j)) (fI CMulW fun i j => .int (i * j)) := od_I fun _ _ _ _ => .int _
theorem od_fdivW : OpD K (rI CDivW fun i j => .int (i / j)) (fI CDivW fun i j => .int (i / j)) := od_I fun _ _ _ _ => .int _
theorem od_pow : OpD K (rI CPow fun i j => .int (i ^ j.toNat)) (fI CPow fun i j => .int (i ^ j.toNat)) := od_I fun _ _ _ _ => .int _
theorem od_shl : OpD K (rI CPow fun i j => .int (i * 2 ^ j.toNat)) (fI CPow fun i j => .int (i * 2 ^ j.toNat)) := od_I fun _ _ _ _ => .int _
theorem od_shr : OpD K (rI (fun _ j => 0 ≤ j) fun i j => .int (i / 2 ^ j.toNat)) (fI (fun _ j => 0 ≤ j) fun i j => .int (i / 2 ^ j.toNat)) := od_I fun _ _ _ _ => .int _
theorem od_bit {g : Int → Int → Int} : OpD K (rI0 fun i j => .int (g i j)) (fI0 fun i j => .int (g i j)) := od_I0 fun _ _ _ _ => .int _
theorem od_lt : OpD K (rI0 fun i j => .bl (decide (i < j))) (fI0 fun i j => .bl (decide (i < j))) := od_I0 fun _ _ _ _ => .bl _
theorem od_le : OpD K (rI0 fun i j => .bl (decide (i ≤ j))) (fI0 fun i j => .bl (decide (i ≤ j))) := od_I0 fun _ _ _ _ => .bl _
theorem od_gt : OpD K (rI0 fun i j => .bl (decide (j < i))) (fI0 fun i j => .bl (decide (j < i))) := od_I0 fun _ _ _ _ => .bl _
theorem od_ge : OpD K (rI0 fun i j => .bl (decide (j ≤ i))) (fI0 fun i j => .bl (decide (j ≤ i))) := od_I0 fun _ _ _ _ => .bl _
theorem ud_neg : UnD K (rU fun i => .int (-i)) (fU fun i => .int (-i)) := ud_U fun _ _ _ => .int _
/-- == of flat things of the kinds that are met -/
def fEq : D → D → (RS → Prop) → Prop
  | .int i, .int j, q => q (.val (.bl (decide (i = j))))
  | .str i, .str j, q => q (.val (.bl (decide (i = j))))
  | .bl i, .bl j, q => q (.val (.bl (decide (i = j))))
  | .non, .non, q => q (.val (.bl true))
  | .int _, .non, q => q (.val (.bl false))
  | .non, .int _, q => q (.val (.bl false))
  | .str _, .non, q => q (.val (.bl false))
  | .non, .str _, q => q (.val (.bl false))
  | .int _, .str _, q => q (.val (.bl false))
  | .str _, .int _, q => q (.val (.bl false))
  | _, _, _ => False
def fNe : D → D → (RS → Prop) → Prop
  | .int i, .int j, q => q (.val (.bl (!decide (i = j))))
  | .str i, .str j, q => q (.val (.bl (!decide (i = j))))
  | .bl i, .bl j, q => q (.val (.bl (!decide (i = j))))
  | .non, .non, q => q (.val (.bl false))
  | .int _, .non, q => q (.val (.bl true))
  | .non, .int _, q => q (.val (.bl true))
  | .str _, .non, q => q (.val (.bl true))
  | .non, .str _, q => q (.val (.bl true))
  | .int _, .str _, q => q (.val (.bl true))
  | .str _, .int _, q => q (.val (.bl true))
  | _, _, _ => False
theorem dec_inj {α : Type} [DecidableEq α] (f : α → V) (h : ∀ a b, f a = f b → a = b) (a b : α) : decide (f a = f b) = decide (a = b) := by
  by_cases e : a = b
  · subst e; simp
  · rw [decide_eq_false e, decide_eq_false fun z => e (h _ _ z)]
theorem od_eq : OpD K rEq fEq := fun B F H σ γ x y d e Q q R rx ry hf k => by
  unfold fEq at hf
  split at hf
  all_goals first
    | exact hf.elim
    | (rw [rx.int, ry.int]; exact ⟨rfl, by rw [dec_inj V.int (fun _ _ e => V.int.inj e)]; exact vk R k (.bl _) hf⟩)
    | (rw [rx.str, ry.str]; exact ⟨rfl, by rw [dec_inj V.str (fun _ _ e => V.str.inj e)]; exact vk R k (.bl _) hf⟩)
    | (rw [rx.bl, ry.bl]; exact ⟨rfl, by rw [dec_inj V.bl (fun _ _ e => V.bl.inj e)]; exact vk R k (.bl _) hf⟩)
    | (rw [rx.non, ry.non]; exact ⟨rfl, vk R k (.bl _) hf⟩)
    | (rw [rx.int, ry.non]; exact ⟨rfl, vk R k (.bl _) hf⟩)
    | (rw [rx.non, ry.int]; exact ⟨rfl, vk R k (.bl _) hf⟩)
    | (rw [rx.str, ry.non]; exact ⟨rfl, vk R k (.bl _) hf⟩)
    | (rw [rx.non, ry.str]; exact ⟨rfl, vk R k (.bl _) hf⟩)
    | (rw [rx.int, ry.str]; exact ⟨rfl, vk R k (.bl _) hf⟩)
    | (rw [rx.str, ry.int]; exact ⟨rfl, vk R k (.bl _) hf⟩)
theorem od_ne : OpD K rNe fNe := fun B F H σ γ x y d e Q q R rx ry hf k => by
  unfold fNe at hf
  split at hf
  all_goals first
    | exact hf.elim
    | (rw [rx.int, ry.int]; exact ⟨rfl, by rw [dec_inj V.int (fun _ _ e => V.int.inj e)]; exact vk R k (.bl _) hf⟩)
    | (rw [rx.str, ry.str]; exact ⟨rfl, by rw [dec_inj V.str (fun _ _ e => V.str.inj e)]; exact vk R k (.bl _) hf⟩)
    | (rw [rx.bl, ry.bl]; exact ⟨rfl, by rw [dec_inj V.bl (fun _ _ e => V.bl.inj e)]; exact vk R k (.bl _) hf⟩)
    | (rw [rx.non, ry.non]; exact ⟨rfl, vk R k (.bl _) hf⟩)
    | (rw [rx.int, ry.non]; exact ⟨rfl, vk R k (.bl _) hf⟩)
    | (rw [rx.non, ry.int]; exact ⟨rfl, vk R k (.bl _) hf⟩)
    | (rw [rx.str, ry.non]; exact ⟨rfl, vk R k (.bl _) hf⟩)
    | (rw [rx.non, ry.str]; exact ⟨rfl, vk R k (.bl _) hf⟩)
    | (rw [rx.int, ry.str]; exact ⟨rfl, vk R k (.bl _) hf⟩)
    | (rw [rx.str, ry.int]; exact ⟨rfl, vk R k (.bl _) hf⟩)
def fIsN : D → D → (RS → Prop) → Prop
  | .non, .non, q => q (.val (.bl true))
  | _, .non, q => q (.val (.bl false))
  | _, _, _ => False
def fNotN : D → D → (RS → Prop) → Prop
  | .non, .non, q => q (.val (.bl false))
  | _, .non, q => q (.val (.bl true))
  | _, _, _ => False
theorem Rs.ne_non {K : KZ} {F H : Hp} {v : V} {d : D} (h : Rs K F H v d) (n : d ≠ .non) : v ≠ .non := fun e => by
  subst e
  rcases h with h | ⟨a, z, _⟩
  · cases h; exact n rfl
  · cases z
theorem od_isN : OpD K (fun x y H Q => y = .non ∧ Q (.bl (decide (x = .non))) H) fIsN := fun B F H σ γ x y d e Q q R rx ry hf k => by
  unfold fIsN at hf
  split at hf
  · rw [rx.non]; exact ⟨ry.non, vk R k (.bl _) hf⟩
  · rename_i n
    refine ⟨ry.non, ?_⟩
    rw [decide_eq_false (rx.ne_non fun z => n z)]
    exact vk R k (.bl _) hf
  · exact hf.elim
theorem od_notN : OpD K (fun x y H Q => y = .non ∧ Q (.bl (!decide (x = .non))) H) fNotN := fun B F H σ γ x y d e Q q R rx ry hf k => by
  unfold fNotN at hf
  split at hf
  · rw [rx.non]; exact ⟨ry.non, vk R k (.bl _) hf⟩
  · rename_i n
    refine ⟨ry.non, ?_⟩
    rw [decide_eq_false (rx.ne_non fun z => n z)]
    exact vk R k (.bl _) hf
  · exact hf.elim
def fAddS : D → D → (RS → Prop) → Prop
  | .str i, .str j, q => i.length + j.length ≤ 1000000 ∧ q (.val (.str (i ++ j)))
  | _, _, _ => False
theorem od_addS : OpD K (fun x y H Q => ∃ i j, x = .str i ∧ y = .str j ∧ i.length + j.length ≤ sizeLine ∧ Q (.str (i ++ j)) H) fAddS := fun B F H σ γ x y d e Q q R rx ry hf k => by
  unfold fAddS at hf
  split at hf
  · exact ⟨_, _, rx.str, ry.str, sz_le hf.1, vk R k (.str _) hf.2⟩
  · exact hf.elim
def fLtS : D → D → (RS → Prop) → Prop
  | .str i, .str j, q => q (.val (.bl (decide (i.cps.toList < j.cps.toList))))
  | _, _, _ => False
theorem od_ltS : OpD K (fun x y H Q => ∃ i j, x = .str i ∧ y = .str j ∧ Q (.bl (decide (i.cps.toList < j.cps.toList))) H) fLtS := fun B F H σ γ x y d e Q q R rx ry hf k => by
  unfold fLtS at hf
  split at hf
  · exact ⟨_, _, rx.str, ry.str, vk R k (.bl _) hf⟩
  · exact hf.elim
end

/-! ### lists and tuples -/
section
variable {K : PySem.W.Frag} {B : Bs} {F H : Hp}
theorem rp_ints {K : KZ} : ∀ {vs : List V} {ns : List Int}, RpAll K F vs (ns.map D.int) → vs = ns.map V.int
  | _, [], .nil => rfl
  | _, n :: ns, .cons h t => by
    cases h
    rw [List.map_cons, rp_ints t]
theorem rp_bls {K : KZ} : ∀ {vs : List V} {ns : List Bool}, RpAll K F vs (ns.map D.bl) → vs = ns.map V.bl
  | _, [], .nil => rfl
  | _, n :: ns, .cons h t => by
    cases h
    rw [List.map_cons, rp_bls t]
theorem rp_strs {K : KZ} : ∀ {vs : List V} {ns : List Str}, RpAll K F vs (ns.map D.str) → vs = ns.map V.str
  | _, [], .nil => rfl
  | _, n :: ns, .cons h t => by
    cases h
    rw [List.map_cons, rp_strs t]
theorem ints_rp {K : KZ} : ∀ ns : List Int, RpAll K F (ns.map V.int) (ns.map D.int)
  | [] => .nil
  | n :: ns => .cons (.int n) (ints_rp ns)
theorem strs_rp {K : KZ} : ∀ ns : List Str, RpAll K F (ns.map V.str) (ns.map D.str)
  | [] => .nil
  | n :: ns => .cons (.str n) (strs_rp ns)
theorem bls_rp {K : KZ} : ∀ ns : List Bool, RpAll K F (ns.map V.bl) (ns.map D.bl)
  | [] => .nil
  | n :: ns => .cons (.bl n) (bls_rp ns)
theorem Rs.scr {K : KZ} {ns : List Int} {v : V} (e : Ex F H) (h : Rs K F H v (.scr ns)) : ∃ a, v = .ref a ∧ SqL K H a (ns.map V.int) := by
  rcases h with h | ⟨a, rfl, ⟨_, _, e, _⟩ | ⟨_, _, _, _, e, _⟩ | ⟨_, _, e, _⟩⟩
  · cases h with
    | scr h1 => exact ⟨_, rfl, ex_l e h1⟩
  all_goals cases e
theorem Rs.seq {K : KZ} {ds : List D} {v : V} {d : D} (e : Ex F H) (h : Rs K F H v d) (hd : d = .lst ds ∨ d = .tup ds ∨ (∃ ns, d = .scr ns ∧ ds = ns.map D.int)) : ∃ a vs, v = .ref a ∧ (SqL K H a vs ∨ SqT K H a vs) ∧ RpAll K F vs ds := by
  rcases hd with rfl | rfl | ⟨ns, rfl, rfl⟩
  · obtain ⟨a, vs, h1, h2, h3⟩ := h.lst e; exact ⟨a, vs, h1, .inl (Evl.sq_of h2), h3⟩
  · obtain ⟨a, vs, h1, h2, h3⟩ := h.tup e; exact ⟨a, vs, h1, .inr h2, h3⟩
  · obtain ⟨a, h1, h2⟩ := h.scr e; exact ⟨a, _, h1, .inl h2, ints_rp ns⟩
def fCat : D → D → (RS → Prop) → Prop
  | .lst xs, .lst ys, q => xs.length + ys.length ≤ 1000000 ∧ q (.new (.lst (xs ++ ys)))
  | _, _, _ => False
theorem od_cat : OpD K rCat fCat := fun B F H σ γ x y d e Q q R rx ry hf k => by
  unfold fCat at hf
  split at hf
  · obtain ⟨a, vs, rfl, h1, r1⟩ := rx.lst R.fh
    obtain ⟨b, ws, rfl, h2, r2⟩ := ry.lst R.fh
    refine ⟨a, b, vs, ws, rfl, rfl, h1, h2, sz_le (by rw [r1.length, r2.length]; exact hf.1), fun p hp => ?_⟩
    obtain ⟨R', ok⟩ := R.newL hp (RpAll.of (P_app r1.p r2.p))
    exact k _ F _ _ R' (Evl.Ex.refl F) ok hf.2
  · exact hf.elim
def fRep : D → D → (RS → Prop) → Prop
  | .lst xs, .int n, q => -1000000 ≤ n ∧ n ≤ 1000000 ∧ xs.length * n.toNat ≤ 1000000 ∧ q (.new (.lst (List.replicate n.toNat xs).flatten))
  | _, _, _ => False
theorem od_rep : OpD K rRep fRep := fun B F H σ γ x y d e Q q R rx ry hf k => by
  unfold fRep at hf
  split at hf
  · obtain ⟨a, vs, rfl, h1, r1⟩ := rx.lst R.fh
    obtain ⟨n1, n2, n3, hq⟩ := hf
    refine ⟨a, _, vs, rfl, ry.int, h1, by omega, by omega, sz_le (by rw [r1.length]; exact n3), fun p hp => ?_⟩
    obtain ⟨R', ok⟩ := R.newL hp (RpAll.of (P_rep r1.p _))
    exact k _ F _ _ R' (Evl.Ex.refl F) ok hq
  · exact hf.elim
theorem atI_p {G : V → D → Prop} {vs : List V} {ds : List D} {i : Int} {d : D} (h : Paired G vs ds) (e : atI ds i = some d) : ∃ v, atI vs i = some v ∧ G v d := by
  unfold atI at e ⊢
  rw [P_len h]
  cases hn : ixN ds.length i with
  | none => rw [hn] at e; cases e
  | some j =>
    rw [hn] at e
    exact P_get h e
def fIxL : D → D → (RS → Prop) → Prop
  | .lst xs, .int i, q => ∃ d, atI xs i = some d ∧ q (.val d)
  | .scr ns, .int i, q => ∃ n, atI ns i = some n ∧ q (.val (.int n))
  | _, _, _ => False
theorem atI_map {α β : Type} {f : α → β} {xs : List α} {i : Int} {x : α} (h : atI xs i = some x) : atI (xs.map f) i = some (f x) := by
  unfold atI at h ⊢
  rw [List.length_map]
  cases hn : ixN xs.length i with
  | none => rw [hn] at h; cases h
  | some j =>
    rw [hn] at h
    show (xs.map f)[j]? = _
    rw [List.getElem?_map, show xs[j]? = some x from h]; rfl
theorem od_ixL : OpD K (rIxL K) fIxL := fun B F H σ γ x y d e Q q R rx ry hf k => by
  unfold fIxL at hf
  split at hf
  · obtain ⟨a, vs, rfl, h1, r1⟩ := rx.lst R.fh
    obtain ⟨d, hd, hq⟩ := hf
    obtain ⟨v, hv, rv⟩ := atI_p r1.p hd
    exact ⟨a, vs, _, v, rfl, ry.int, Evl.sq_of h1, hv, vk R k rv hq⟩
  · obtain ⟨a, rfl, h1⟩ := rx.scr R.fh
    obtain ⟨n, hn, hq⟩ := hf
    exact ⟨a, _, _, .int n, rfl, ry.int, h1, atI_map hn, vk R k (.int n) hq⟩
  · exact hf.elim
def fIxT : D → D → (RS → Prop) → Prop
  | .tup xs, .int i, q => ∃ d, atI xs i = some d ∧ q (.val d)
  | _, _, _ => False
theorem od_ixT : OpD K (rIxT K) fIxT := fun B F H σ γ x y d e Q q R rx ry hf k => by
  unfold fIxT at hf
  split at hf
  · obtain ⟨a, vs, rfl, h1, r1⟩ := rx.tup R.fh
    obtain ⟨d, hd, hq⟩ := hf
    obtain ⟨v, hv, rv⟩ := atI_p r1.p hd
    exact ⟨a, vs, _, v, rfl, ry.int, h1, hv, vk R k rv hq⟩
  · exact hf.elim
def fIxS : D → D → (RS → Prop) → Prop
  | .str z, .int i, q => z.length ≤ 1000000 ∧ ∃ c, atI z.cps.toList i = some c ∧ q (.val (.str ⟨#[c]⟩))
  | _, _, _ => False
theorem od_ixS : OpD K rIxS fIxS := fun B F H σ γ x y d e Q q R rx ry hf k => by
  unfold fIxS at hf
  split at hf
  · obtain ⟨hz, c, hc, hq⟩ := hf
    exact ⟨_, _, c, rx.str, ry.int, sz_le hz, hc, vk R k (.str _) hq⟩
  · exact hf.elim

/-! ### built-in calls -/
def fLen : List D → (RS → Prop) → Prop
  | [.lst xs], q => q (.val (.int xs.length))
  | [.tup xs], q => q (.val (.int xs.length))
  | [.scr xs], q => q (.val (.int xs.length))
  | _, _ => False
theorem one_rs {P : V → D → Prop} {xs : List V} {d : D} (h : Paired P xs [d]) : ∃ x, xs = [x] ∧ P x d := by
  cases h with
  | cons r t => cases t; exact ⟨_, rfl, r⟩
theorem two_rs {P : V → D → Prop} {xs : List V} {d e : D} (h : Paired P xs [d, e]) : ∃ x y, xs = [x, y] ∧ P x d ∧ P y e := by
  cases h with
  | cons r t =>
    obtain ⟨y, rfl, ry⟩ := one_rs t
    exact ⟨_, _, rfl, r, ry⟩
theorem cd_len : CallD K (fun xs H Q => ∃ p ys, xs = [.ref p] ∧ (SqL K H p ys ∨ SqT K H p ys) ∧ Q (.int ys.length) H) fLen := fun B F H σ γ xs ds Q q R rx hf k => by
  unfold fLen at hf
  split at hf
  · obtain ⟨x, rfl, r⟩ := one_rs rx
    obtain ⟨a, vs, rfl, h1, r1⟩ := r.seq R.fh (.inl rfl)
    exact ⟨a, vs, rfl, h1, by rw [r1.length]; exact vk R k (.int _) hf⟩
  · obtain ⟨x, rfl, r⟩ := one_rs rx
    obtain ⟨a, vs, rfl, h1, r1⟩ := r.seq R.fh (.inr (.inl rfl))
    exact ⟨a, vs, rfl, h1, by rw [r1.length]; exact vk R k (.int _) hf⟩
  · obtain ⟨x, rfl, r⟩ := one_rs rx
    obtain ⟨a, vs, rfl, h1, r1⟩ := r.seq R.fh (.inr (.inr ⟨_, rfl, rfl⟩))
    refine ⟨a, vs, rfl, h1, ?_⟩
    have e := r1.length
    rw [List.length_map] at e
    rw [e]; exact vk R k (.int _) hf
  · exact hf.elim
def fLenS : List D → (RS → Prop) → Prop
  | [.str x], q => x.length ≤ 1000000 ∧ q (.val (.int x.length))
  | _, _ => False
theorem cd_lenS : CallD K (fun xs H Q => ∃ z, xs = [.str z] ∧ z.length ≤ sizeLine ∧ Q (.int z.length) H) fLenS := fun B F H σ γ xs ds Q q R rx hf k => by
  unfold fLenS at hf
  split at hf
  · obtain ⟨x, rfl, r⟩ := one_rs rx
    rw [r.str]
    exact ⟨_, rfl, sz_le hf.1, vk R k (.int _) hf.2⟩
  · exact hf.elim
def fInt : List D → (RS → Prop) → Prop
  | [.int i], q => q (.val (.int i))
  | [.bl b], q => q (.val (.int (if b then 1 else 0)))
  | _, _ => False
theorem cd_int : CallD K (fun xs H Q => (∃ i, xs = [.int i] ∧ Q (.int i) H) ∨ ∃ k, xs = [.bl k] ∧ Q (.int (if k then 1 else 0)) H) fInt := fun B F H σ γ xs ds Q q R rx hf k => by
  unfold fInt at hf
  split at hf
  · obtain ⟨x, rfl, r⟩ := one_rs rx
    rw [r.int]
    exact .inl ⟨_, rfl, vk R k (.int _) hf⟩
  · obtain ⟨x, rfl, r⟩ := one_rs rx
    rw [r.bl]
    exact .inr ⟨_, rfl, vk R k (.int _) hf⟩
  · exact hf.elim
def fAbs : List D → (RS → Prop) → Prop
  | [.int i], q => q (.val (.int (if i < 0 then -i else i)))
  | _, _ => False
theorem cd_abs : CallD K (fun xs H Q => ∃ i, xs = [.int i] ∧ Q (.int (if i < 0 then -i else i)) H) fAbs := fun B F H σ γ xs ds Q q R rx hf k => by
  unfold fAbs at hf
  split at hf
  · obtain ⟨x, rfl, r⟩ := one_rs rx
    rw [r.int]
    exact ⟨_, rfl, vk R k (.int _) hf⟩
  · exact hf.elim
def fI2 (g : Int → Int → Int) : List D → (RS → Prop) → Prop
  | [.int i, .int j], q => q (.val (.int (g i j)))
  | _, _ => False
theorem cd_I2 {g : Int → Int → Int} : CallD K (fun xs H Q => ∃ i j, xs = [.int i, .int j] ∧ Q (.int (g i j)) H) (fI2 g) := fun B F H σ γ xs ds Q q R rx hf k => by
  unfold fI2 at hf
  split at hf
  · obtain ⟨x, y, rfl, r, r'⟩ := two_rs rx
    rw [r.int, r'.int]
    exact ⟨_, _, rfl, vk R k (.int _) hf⟩
  · exact hf.elim
def fSum : List D → (RS → Prop) → Prop
  | [.lst ds], q => ∃ ns : List Int, ds = ns.map D.int ∧ q (.val (.int ns.sum))
  | _, _ => False
theorem cd_sum : CallD K (rSum K) fSum := fun B F H σ γ xs ds Q q R rx hf k => by
  unfold fSum at hf
  split at hf
  · obtain ⟨x, rfl, r⟩ := one_rs rx
    obtain ⟨ns, rfl, hq⟩ := hf
    obtain ⟨a, vs, rfl, h1, r1⟩ := r.lst R.fh
    rw [rp_ints r1] at h1
    exact ⟨a, ns, rfl, Evl.sq_of h1, vk R k (.int _) hq⟩
  · exact hf.elim
def fMin : List D → (RS → Prop) → Prop
  | [.lst ds], q => ∃ ns : List Int, ds = ns.map D.int ∧ 0 < ns.length ∧ ∀ m, m ∈ ns → (∀ y, y ∈ ns → m ≤ y) → q (.val (.int m))
  | _, _ => False
theorem cd_min : CallD K (rMin K) fMin := fun B F H σ γ xs ds Q q R rx hf k => by
  unfold fMin at hf
  split at hf
  · obtain ⟨x, rfl, r⟩ := one_rs rx
    obtain ⟨ns, rfl, hl, hq⟩ := hf
    obtain ⟨a, vs, rfl, h1, r1⟩ := r.lst R.fh
    rw [rp_ints r1] at h1
    exact ⟨a, ns, rfl, Evl.sq_of h1, hl, fun m h2 h3 => vk R k (.int _) (hq m h2 h3)⟩
  · exact hf.elim
def fMax : List D → (RS → Prop) → Prop
  | [.lst ds], q => ∃ ns : List Int, ds = ns.map D.int ∧ 0 < ns.length ∧ ∀ m, m ∈ ns → (∀ y, y ∈ ns → y ≤ m) → q (.val (.int m))
  | _, _ => False
theorem cd_max : CallD K (rMax K) fMax := fun B F H σ γ xs ds Q q R rx hf k => by
  unfold fMax at hf
  split at hf
  · obtain ⟨x, rfl, r⟩ := one_rs rx
    obtain ⟨ns, rfl, hl, hq⟩ := hf
    obtain ⟨a, vs, rfl, h1, r1⟩ := r.lst R.fh
    rw [rp_ints r1] at h1
    exact ⟨a, ns, rfl, Evl.sq_of h1, hl, fun m h2 h3 => vk R k (.int _) (hq m h2 h3)⟩
  · exact hf.elim
def fAll : List D → (RS → Prop) → Prop
  | [.lst ds], q => ∃ bs : List Bool, ds = bs.map D.bl ∧ q (.val (.bl (bs.all id)))
  | _, _ => False
theorem cd_all : CallD K (rAll K) fAll := fun B F H σ γ xs ds Q q R rx hf k => by
  unfold fAll at hf
  split at hf
  · obtain ⟨x, rfl, r⟩ := one_rs rx
    obtain ⟨ns, rfl, hq⟩ := hf
    obtain ⟨a, vs, rfl, h1, r1⟩ := r.lst R.fh
    rw [rp_bls r1] at h1
    exact ⟨a, ns, rfl, Evl.sq_of h1, vk R k (.bl _) hq⟩
  · exact hf.elim
def fAny : List D → (RS → Prop) → Prop
  | [.lst ds], q => ∃ bs : List Bool, ds = bs.map D.bl ∧ q (.val (.bl (bs.any id)))
  | _, _ => False
theorem cd_any : CallD K (rAny K) fAny := fun B F H σ γ xs ds Q q R rx hf k => by
  unfold fAny at hf
  split at hf
  · obtain ⟨x, rfl, r⟩ := one_rs rx
    obtain ⟨ns, rfl, hq⟩ := hf
    obtain ⟨a, vs, rfl, h1, r1⟩ := r.lst R.fh
    rw [rp_bls r1] at h1
    exact ⟨a, ns, rfl, Evl.sq_of h1, vk R k (.bl _) hq⟩
  · exact hf.elim
def fList : List D → (RS → Prop) → Prop
  | [.lst xs], q => q (.new (.lst xs))
  | [.tup xs], q => q (.new (.lst xs))
  | [.scr ns], q => q (.new (.lst (ns.map D.int)))
  | _, _ => False
theorem cd_list : CallD K (fun xs H Q => ∃ p ys, xs = [.ref p] ∧ (SqL K H p ys ∨ SqT K H p ys) ∧ ∀ l, H l = none → Q (.ref l) (upd H l (.lst ys))) fList := fun B F H σ γ xs ds Q q R rx hf k => by
  have key : ∀ {d : D} {ys : List D}, Paired (Rs (B.kz K) F H) xs [d] → (d = .lst ys ∨ d = .tup ys ∨ (∃ ns, d = .scr ns ∧ ys = ns.map D.int)) → q (.new (.lst ys)) → ∃ p ys, xs = [.ref p] ∧ (SqL K H p ys ∨ SqT K H p ys) ∧ ∀ l, H l = none → Q (.ref l) (upd H l (.lst ys)) := fun rx hd hq => by
    obtain ⟨x, rfl, r⟩ := one_rs rx
    obtain ⟨a, vs, rfl, h1, r1⟩ := r.seq R.fh hd
    refine ⟨a, vs, rfl, h1, fun l hl => ?_⟩
    obtain ⟨R', ok⟩ := R.newL hl r1
    exact k _ F _ _ R' (Evl.Ex.refl F) ok hq
  unfold fList at hf
  split at hf
  · exact key rx (.inl rfl) hf
  · exact key rx (.inr (.inl rfl)) hf
  · exact key rx (.inr (.inr ⟨_, rfl, rfl⟩)) hf
  · exact hf.elim
def fTuple : List D → (RS → Prop) → Prop
  | [.lst xs], q => q (.val (.tup xs))
  | [.tup xs], q => q (.val (.tup xs))
  | _, _ => False
/-- a tuple that is handed on is itself frozen -/
theorem Rs.tupF {K : KZ} {F H : Hp} {v : V} {ds : List D} (h : Rs K F H v (.tup ds)) : Rp K F v (.tup ds) := by
  rcases h with h | ⟨a, rfl, ⟨_, _, e, _⟩ | ⟨_, _, _, _, e, _⟩ | ⟨_, _, e, _⟩⟩
  · exact h
  all_goals cases e
theorem cd_tuple : CallD K (fun xs H Q => ∃ p ys, xs = [.ref p] ∧ ((SqL K H p ys ∧ ∀ l, H l = none → Q (.ref l) (upd H l (.tup ys))) ∨ (SqT K H p ys ∧ Q (.ref p) H))) fTuple := fun B F H σ γ xs ds Q q R rx hf k => by
  unfold fTuple at hf
  split at hf
  · obtain ⟨x, rfl, r⟩ := one_rs rx
    obtain ⟨a, vs, rfl, h1, r1⟩ := r.lst R.fh
    refine ⟨a, vs, rfl, .inl ⟨Evl.sq_of h1, fun l hl => ?_⟩⟩
    obtain ⟨R', ex, rp⟩ := R.newT hl r1
    exact k _ _ _ (.val _) R' ex rp hf
  · obtain ⟨x, rfl, r⟩ := one_rs rx
    have rf := r.tupF
    obtain ⟨a, vs, rfl, h1, r1⟩ := r.tup R.fh
    exact ⟨a, vs, rfl, .inr ⟨h1, vk R k rf hf⟩⟩
  · exact hf.elim
/-! isinstance -/
def D.cls : D → String
  | .non => "NoneType" | .bl _ => "bool" | .int _ => "int" | .str _ => "str" | .lst _ => "list" | .tup _ => "tuple" | .dct _ => "dict" | .scr _ => "list" | .ref _ => "" | .ty _ => "" | .obj _ _ => "" | .fr _ => "" | .kls _ => "" | .ldc _ => "dict"
theorem kb_ii : kitB "int" "int" = some true := by decide +kernel
theorem kb_ib : kitB "int" "bool" = some false := by decide +kernel
theorem kb_il : kitB "int" "list" = some false := by decide +kernel
theorem kb_it : kitB "int" "tuple" = some false := by decide +kernel
theorem kb_is : kitB "int" "str" = some false := by decide +kernel
theorem kb_bi : kitB "bool" "int" = some true := by decide +kernel
theorem kb_bb : kitB "bool" "bool" = some true := by decide +kernel
theorem kb_li : kitB "list" "int" = some false := by decide +kernel
theorem kb_ll : kitB "list" "list" = some true := by decide +kernel
theorem kb_lt : kitB "list" "tuple" = some false := by decide +kernel
theorem kb_ti : kitB "tuple" "int" = some false := by decide +kernel
theorem kb_tt : kitB "tuple" "tuple" = some true := by decide +kernel
theorem kb_tl : kitB "tuple" "list" = some false := by decide +kernel
theorem kb_si : kitB "str" "int" = some false := by decide +kernel
theorem kb_sb : kitB "str" "bool" = some false := by decide +kernel
theorem kb_ss : kitB "str" "str" = some true := by decide +kernel
theorem kb_ni : kitB "NoneType" "int" = some false := by decide +kernel
theorem kb_nl : kitB "NoneType" "list" = some false := by decide +kernel
theorem kb_nt : kitB "NoneType" "tuple" = some false := by decide +kernel
def fIsi : List D → (RS → Prop) → Prop
  | [.int _, .ty n], q => ∃ r, kitB "int" n = some r ∧ q (.val (.bl r))
  | [.bl _, .ty n], q => ∃ r, kitB "bool" n = some r ∧ q (.val (.bl r))
  | [.str _, .ty n], q => ∃ r, kitB "str" n = some r ∧ q (.val (.bl r))
  | [.non, .ty n], q => ∃ r, kitB "NoneType" n = some r ∧ q (.val (.bl r))
  | [.lst _, .ty n], q => ∃ r, kitB "list" n = some r ∧ q (.val (.bl r))
  | [.tup _, .ty n], q => ∃ r, kitB "tuple" n = some r ∧ q (.val (.bl r))
  | [.dct _, .ty n], q => ∃ r, kitB "dict" n = some r ∧ q (.val (.bl r))
  | _, _ => False
theorem Rs.ty {K : KZ} {n : String} {v : V} (h : Rs K F H v (.ty n)) : v = .ty n := by
  rcases h with h | ⟨a, rfl, ⟨_, _, e, _⟩ | ⟨_, _, _, _, e, _⟩ | ⟨_, _, e, _⟩⟩
  · cases h; rfl
  all_goals cases e
theorem tyx_tup {a : Addr} {vs : List V} (h : SqT K H a vs) : TyX K H (.ref a) (.type "tuple") := by
  rcases h with (h | ⟨o, h⟩) | ⟨o, its, n, h1, h2, _⟩
  · exact .base (.tup h)
  · exact .fTuple h
  · exact .kTuple h1 h2
theorem Rs.dct {K : KZ} {kd : List (Key × D)} {v : V} (e : Ex F H) (h : Rs K F H v (.dct kd)) : ∃ a kv, v = .ref a ∧ Rd H a (.dK kv) ∧ RpKs K F kv kd := by
  rcases h with h | ⟨a, rfl, ⟨vs, _, e, h1, h2⟩ | ⟨_, _, _, _, e, _⟩ | ⟨kv, kd', e1, h1, h2⟩⟩
  · cases h with
    | dct h1 h2 => exact ⟨_, _, rfl, h1.imp (e _ _) fun ⟨o, h⟩ => ⟨o, e _ _ h⟩, h2⟩
  · cases e
  · cases e
  · cases e1; exact ⟨a, kv, rfl, .inl h1, h2⟩
theorem cd_isi : CallD K (rIsi K) fIsi := fun B F H σ γ xs ds Q q R rx hf k => by
  have go : ∀ {x : V} {n a : String} {r : Bool}, TyX K H x (.type a) → kitB a n = some r → q (.val (.bl r)) → rIsi K [x, .ty n] H Q := fun t hi hq =>
    ⟨_, _, _, _, _, rfl, .ty _, t, kit_ty hi, vk R k (.bl _) hq⟩
  unfold fIsi at hf
  split at hf
  all_goals first
    | exact hf.elim
    | (obtain ⟨x, y, rfl, r, r'⟩ := two_rs rx; obtain ⟨b, hi, hq⟩ := hf; rw [r'.ty])
  · rw [r.int]; exact go (.base (.int _)) hi hq
  · rw [r.bl]; exact go (.base (.bl _)) hi hq
  · rw [r.str]; exact go (.base (.str _)) hi hq
  · rw [r.non]; exact go (.base .non) hi hq
  · obtain ⟨a, vs, rfl, h1, r1⟩ := r.lst R.fh; exact go (.base (.lst h1)) hi hq
  · obtain ⟨a, vs, rfl, h1, r1⟩ := r.tup R.fh; exact go (tyx_tup h1) hi hq
  · obtain ⟨a, vs, rfl, h1, r1⟩ := r.dct R.fh; exact go (h1.elim (fun z => .base (.dK z)) fun ⟨_, z⟩ => .fDict z) hi hq
end
end DL

set_option Elab.async false
set_option linter.all false
set_option maxRecDepth 100000
set_option maxHeartbeats 2000000
namespace DL
open PySem PySem.Spec PyProof.Rows L2
open Evl (Ex ex_l ex_t)

/-! ### == at any depth -/
mutual
def D.py : D → PyData
  | .non => .none | .bl b => .bool b | .int i => .int i | .str x => .str x | .ref _ => .none | .ty _ => .none | .kls _ => .none
  | .lst xs => .list (pyAll xs) | .tup xs => .tuple (pyAll xs) | .obj _ _ => .none | .dct _ => .none | .ldc _ => .none | .fr _ => .none | .scr ns => .list (ns.map PyData.int)
def pyAll : List D → List PyData
  | [] => []
  | x :: xs => x.py :: pyAll xs
end
mutual
def D.pure : D → Bool
  | .non => true | .bl _ => true | .int _ => true | .str _ => true | .ref _ => false | .ty _ => false | .kls _ => false
  | .lst xs => pureAll xs | .tup xs => pureAll xs | .obj _ _ => false | .dct _ => false | .ldc _ => false | .fr _ => false | .scr _ => true
def pureAll : List D → Bool
  | [] => true
  | x :: xs => x.pure && pureAll xs
end
theorem pyAll_map {α : Type} (f : α → D) (g : α → PyData) (h : ∀ x, (f x).py = g x) : ∀ xs : List α, pyAll (xs.map f) = xs.map g
  | [] => rfl
  | x :: xs => by rw [List.map_cons, List.map_cons, pyAll, h, pyAll_map f g h xs]
theorem pureAll_map {α : Type} (f : α → D) (h : ∀ x, (f x).pure = true) : ∀ xs : List α, pureAll (xs.map f) = true
  | [] => rfl
  | x :: xs => by rw [List.map_cons, pureAll, h, pureAll_map f h xs]; rfl
def dOk (d : D) : Bool := d.pure && SeqAt.shaped d.py
def deq (d e : D) : Bool := PyData.eqv d.py e.py
section
variable {K : PySem.W.Frag} {B : Bs} {F H : Hp}
theorem dp_ints : ∀ ns : List Int, DpAll K H (ns.map V.int) (ns.map PyData.int)
  | [] => .nil
  | n :: ns => .cons (.int n) (dp_ints ns)
mutual
theorem Rp.dp {K : KZ} (e : Ex F H) : ∀ {v : V} {d : D}, Rp K F v d → d.pure = true → Dp K H v d.py
  | _, _, .non, _ => .non
  | _, _, .bl b, _ => .bl b
  | _, _, .int i, _ => .int i
  | _, _, .str x, _ => .str x
  | _, _, .lst h a, p => .lst (Evl.sq_of (e _ _ h)) (RpAll.dp e a p)
  | _, _, .tup h a, p => .tup (ex_t e h) (RpAll.dp e a p)
  | _, _, .scr h, _ => .lst (ex_l e h) (dp_ints _)
  | _, _, .ref _, p => absurd p (by simp [D.pure])
  | _, _, .ty _, p => absurd p (by simp [D.pure])
  | _, _, .kls _, p => absurd p (by simp [D.pure])
  | _, _, .obj _ _ _, p => absurd p (by simp [D.pure])
  | _, _, .dct _ _, p => absurd p (by simp [D.pure])
  | _, _, .ldc _ _, p => absurd p (by simp [D.pure])
  | _, _, .fr _ _, p => absurd p (by simp [D.pure])
theorem RpAll.dp {K : KZ} (e : Ex F H) : ∀ {v : List V} {d : List D}, RpAll K F v d → pureAll d = true → DpAll K H v (pyAll d)
  | _, _, .nil, _ => .nil
  | _, _, .cons h t, p => .cons (Rp.dp e h (Bool.and_eq_true_iff.mp p).1) (RpAll.dp e t (Bool.and_eq_true_iff.mp p).2)
end
theorem Rs.dp {K : KZ} {v : V} {d : D} (e : Ex F H) (h : Rs K F H v d) (p : d.pure = true) : Dp K H v d.py := by
  rcases h with h | ⟨a, rfl, ⟨vs, ds, rfl, h1, h2⟩ | ⟨_, _, _, _, rfl, _⟩ | ⟨_, _, rfl, _⟩⟩
  · exact h.dp e p
  · exact .lst (Evl.sq_of h1) (h2.dp e p)
  · cases p
  · cases p
def fEqD (d e : D) (q : RS → Prop) : Prop := dOk d = true ∧ dOk e = true ∧ q (.val (.bl (deq d e)))
def fNeD (d e : D) (q : RS → Prop) : Prop := dOk d = true ∧ dOk e = true ∧ q (.val (.bl (!deq d e)))
theorem od_eqD : OpD K (rEqD K) fEqD := fun B F H σ γ x y d e Q q R rx ry hf k => by
  obtain ⟨h1, h2, h3⟩ := hf
  obtain ⟨p1, s1⟩ := Bool.and_eq_true_iff.mp h1
  obtain ⟨p2, s2⟩ := Bool.and_eq_true_iff.mp h2
  exact ⟨_, _, rx.dp R.fh p1, ry.dp R.fh p2, s1, s2, vk R k (.bl _) h3⟩
theorem od_neD : OpD K (rNeD K) fNeD := fun B F H σ γ x y d e Q q R rx ry hf k => by
  obtain ⟨h1, h2, h3⟩ := hf
  obtain ⟨p1, s1⟩ := Bool.and_eq_true_iff.mp h1
  obtain ⟨p2, s2⟩ := Bool.and_eq_true_iff.mp h2
  exact ⟨_, _, rx.dp R.fh p1, ry.dp R.fh p2, s1, s2, vk R k (.bl _) h3⟩
end

/-! ### slices -/
def cut {α : Type} (xs : List α) (lo hi : Option Int) : List α := (xs.drop (HT.sIx xs.length 0 lo)).take (HT.sIx xs.length xs.length hi - HT.sIx xs.length 0 lo)
theorem cut_p {G : V → D → Prop} {vs : List V} {ds : List D} {lo hi : Option Int} (h : Paired G vs ds) : Paired G (cutV vs lo hi) (cut ds lo hi) := by
  unfold cutV cut
  rw [P_len h]
  exact P_take _ (P_drop _ h)
theorem cut_map {α β : Type} (f : α → β) (xs : List α) (lo hi : Option Int) : cut (xs.map f) lo hi = (cut xs lo hi).map f := by
  unfold cut
  rw [List.length_map, List.map_take, List.map_drop]
abbrev DO := Env → (Option Int → Env → Prop) → Prop
def SO (K : PySem.W.Frag) (B : Bs) (to : TO) (dd : DO) : Prop := ∀ (F H : Hp) (σ : L2.St) (γ : Env) (Q : Option Int → Hp → Prop) (q : Option Int → Env → Prop), Rep K B F H σ γ → dd γ q →
  (∀ b F' H' γ', Rep K B F' H' σ γ' → Ex F F' → q b γ' → Q b H') → to σ H Q
structure XO (X : Cx) (B : Bs) (e : Option Expr) (to : TO) (dd : DO) : Prop where
  po : PO X e to
  so : SO X.K B to dd
def dNo (γ : Env) (q : Option Int → Env → Prop) : Prop := q none γ
def dPart (de : DE) (γ : Env) (q : Option Int → Env → Prop) : Prop := de γ fun s γ1 => match s.data with
  | .int i => q (some i) γ1
  | _ => False
theorem xo_none {X : Cx} {B : Bs} : XO X B none tNoPart dNo := ⟨po_none, fun F H σ γ Q q R hq k => k none F H γ R (Evl.Ex.refl F) hq⟩
theorem xo_some {X : Cx} {B : Bs} {e : Expr} {te : TE} {de : DE} (h : XE X B e te de) : XO X B (some e) (tPart te) (dPart de) := ⟨po_some h.pe, fun F H σ γ Q q R hq k => by
  refine h.se F H σ γ _ _ R hq fun v F1 H1 γ1 s R1 e1 o1 h1 => ?_
  split at h1
  · rename_i i es
    have r := o1.rs R1
    rw [es] at r
    exact ⟨i, r.int, k _ F1 H1 γ1 R1 e1 h1⟩
  · exact h1.elim⟩
def dSl (f : D → Option Int → Option Int → (RS → Prop) → Prop) (de : DE) (dl dh : DO) (γ : Env) (q : RS → Env → Prop) : Prop := de γ fun s γ1 => dl γ1 fun lo γ2 => dh γ2 fun hi γ3 => s.ok γ3 ∧ f s.data lo hi fun r => q r γ3
def SlD (K : PySem.W.Frag) (r : V → Option Int → Option Int → Hp → VK → Prop) (f : D → Option Int → Option Int → (RS → Prop) → Prop) : Prop := ∀ (B : Bs) (F H : Hp) (σ : L2.St) (γ : Env) (x : V) (d : D) (lo hi : Option Int) (Q : VK) (q : RS → Prop), Rep K B F H σ γ → Rs (B.kz K) F H x d → f d lo hi q →
  (∀ v F' H' s, Rep K B F' H' σ γ → Ex F F' → RsOk K B F' H' σ γ v s → q s → Q v H') → r x lo hi H Q
theorem x_sl {X : Cx} {B : Bs} {e : Expr} {lo hi : Option Expr} {p2 pos : Pos} {te : TE} {de : DE} {tl th : TO} {dl dh : DO} {r : V → Option Int → Option Int → Hp → VK → Prop} {f : D → Option Int → Option Int → (RS → Prop) → Prop} (hr : SlR X r) (hf : SlD X.K r f) (he : XE X B e te de) (hl : XO X B lo tl dl) (hh : XO X B hi th dh) :
    XE X B (.Subscript e (.Slice lo hi none p2) pos) (tSl r te tl th) (dSl f de dl dh) := ⟨pe_slice hr he.pe hl.po hh.po, fun F H σ γ Q q R hq k => by
  refine he.se F H σ γ _ _ R hq fun x F1 H1 γ1 s R1 e1 o1 h1 => ?_
  obtain ⟨F2, R2, e2, o2⟩ := o1.fz R1
  refine hl.so F2 H1 σ γ1 _ _ R2 h1 fun a F3 H3 γ3 R3 e3 h3 => ?_
  refine hh.so F3 H3 σ γ3 _ _ R3 h3 fun b F4 H4 γ4 R4 e4 ⟨h4, h5⟩ => ?_
  have ox := (o2.later (e3.trans e4) R4 (fz_ok s γ4 h4) (fz_idem s)).rs R4
  rw [RS.fz_data] at ox
  exact hf B F4 H4 σ γ4 x _ a b Q _ R4 ox h5 fun v F5 H5 u R5 e5 o5 h6 => k v F5 H5 γ4 u R5 ((((e1.trans e2).trans e3).trans e4).trans e5) o5 h6⟩
def fSlL : D → Option Int → Option Int → (RS → Prop) → Prop
  | .lst xs, lo, hi, q => q (.new (.lst (cut xs lo hi)))
  | .scr ns, lo, hi, q => q (.new (.lst ((cut ns lo hi).map D.int)))
  | _, _, _, _ => False
theorem sd_list {K : PySem.W.Frag} : SlD K (rSlL K) fSlL := fun B F H σ γ x d lo hi Q q R rx hf k => by
  unfold fSlL at hf
  split at hf
  · obtain ⟨a, vs, rfl, h1, r1⟩ := rx.lst R.fh
    refine ⟨a, vs, rfl, Evl.sq_of h1, fun p hp => ?_⟩
    obtain ⟨R', ok⟩ := R.newL hp (RpAll.of (cut_p r1.p))
    exact k _ F _ _ R' (Evl.Ex.refl F) ok hf
  · obtain ⟨a, rfl, h1⟩ := rx.scr R.fh
    refine ⟨a, _, rfl, h1, fun p hp => ?_⟩
    obtain ⟨R', ok⟩ := R.newL hp (RpAll.of (cut_p (ints_rp (K := B.kz K) (F := F) _).p))
    rw [cut_map] at ok
    exact k _ F _ _ R' (Evl.Ex.refl F) ok hf
  · exact hf.elim
def fSlT : D → Option Int → Option Int → (RS → Prop) → Prop
  | .tup xs, lo, hi, q => q (.val (.tup (cut xs lo hi)))
  | _, _, _, _ => False
def fRev : D → (RS → Prop) → Prop
  | .lst xs, q => q (.new (.lst xs.reverse))
  | _, _ => False
theorem x_revL {X : Cx} {B : Bs} {e : Expr} {te : TE} {de : DE} {k : Nat} {p1 p2 p3 pos : Pos} (he : XE X B e te de) : XE X B (.Subscript e (.Slice none none (some (.UnaryOp .USub (.Constant (.int 1) k p1) p2)) p3) pos) (tRevL X.K te)
    (d1 fRev de) := ⟨pe_revL he.pe, fun F H σ γ Q q R hq k => by
  refine he.se F H σ γ _ _ R hq fun x F1 H1 γ1 s R1 e1 o1 h1 => ?_
  unfold fRev at h1
  split at h1
  · rename_i xs es
    obtain ⟨F2, R2, e2, o2⟩ := o1.fz R1
    have r := o2.rs R2
    rw [RS.fz_data, es] at r
    obtain ⟨a, vs, rfl, h2, r1⟩ := r.lst R2.fh
    refine ⟨a, vs, rfl, Evl.sq_of h2, fun p hp => ?_⟩
    obtain ⟨R', ok⟩ := R2.newL hp (RpAll.of (P_rev r1.p))
    exact k _ F2 _ γ1 _ R' (e1.trans e2) ok h1
  · exact h1.elim⟩

/-! ### displays -/
def allV : List RS → Prop
  | [] => True
  | .val _ :: r => allV r
  | _ :: _ => False
theorem allV_rp {K : PySem.W.Frag} {B : Bs} {F H : Hp} {σ : L2.St} {γ : Env} : ∀ {vs : List V} {rs : List RS}, Paired (RsOk K B F H σ γ) vs rs → allV rs → RpAll (B.kz K) F vs (rs.map RS.data)
  | _, _, .nil, _ => .nil
  | _, .val d :: _, .cons h t, a => .cons h (allV_rp t a)
def dLst (da : DA) (γ : Env) (q : RS → Env → Prop) : Prop := da γ fun rs γ1 => allV rs ∧ rs.length ≤ 1000000 ∧ q (.new (.lst (rs.map RS.data))) γ1
def dTup (da : DA) (γ : Env) (q : RS → Env → Prop) : Prop := da γ fun rs γ1 => allV rs ∧ rs.length ≤ 1000000 ∧ q (.val (.tup (rs.map RS.data))) γ1
section
variable {X : Cx} {B : Bs} {es : List Expr} {ta : TA} {da : DA} {pos : Pos}
theorem x_lst (h : XA X B es ta da) : XE X B (.List es pos) (tLst ta) (dLst da) := ⟨pe_lst h.pa, fun F H σ γ Q q R hq k => by
  refine h.sa F H σ γ _ _ R hq fun vs F1 H1 γ1 rs R1 e1 o1 ⟨h1, h2, h3⟩ => ?_
  have ra := allV_rp o1 h1
  refine ⟨sz_le (by rw [P_len o1]; exact h2), fun p hp => ?_⟩
  obtain ⟨R', ok⟩ := R1.newL hp ra
  exact k _ F1 _ γ1 _ R' e1 ok h3⟩
theorem x_tup {x1} (h : XA X B es ta da) : XE X B (.Tuple es x1 pos) (tTup ta) (dTup da) := ⟨pe_tup h.pa, fun F H σ γ Q q R hq k => by
  refine h.sa F H σ γ _ _ R hq fun vs F1 H1 γ1 rs R1 e1 o1 ⟨h1, h2, h3⟩ => ?_
  have ra := allV_rp o1 h1
  refine ⟨sz_le (by rw [P_len o1]; exact h2), fun p hp => ?_⟩
  obtain ⟨R', ex, rp⟩ := R1.newT hp ra
  exact k _ _ _ γ1 (.val _) R' (e1.trans ex) rp h3⟩
end

/-! ### tests -/
def dB (de : DE) (γ : Env) (q : Bool → Env → Prop) : Prop := de γ fun s γ1 => match s.data with
  | .bl b => q b γ1
  | _ => False
def dAnd (t u : DT) (γ : Env) (q : Bool → Env → Prop) : Prop := t γ fun b γ1 => (b = true → u γ1 q) ∧ (b = false → q false γ1)
def dOr (t u : DT) (γ : Env) (q : Bool → Env → Prop) : Prop := t γ fun b γ1 => (b = true → q true γ1) ∧ (b = false → u γ1 q)
def dNot (t : DT) (γ : Env) (q : Bool → Env → Prop) : Prop := t γ fun b γ1 => q (!b) γ1
def dAndV (da db : DE) (γ : Env) (q : RS → Env → Prop) : Prop := da γ fun s γ1 => match s.data with
  | .bl b => (b = true → db γ1 q) ∧ (b = false → q (.val (.bl false)) γ1)
  | _ => False
def dOrV (da db : DE) (γ : Env) (q : RS → Env → Prop) : Prop := da γ fun s γ1 => match s.data with
  | .bl b => (b = true → q (.val (.bl true)) γ1) ∧ (b = false → db γ1 q)
  | _ => False
def dNotV (da : DE) (γ : Env) (q : RS → Env → Prop) : Prop := da γ fun s γ1 => match s.data with
  | .bl b => q (.val (.bl (!b))) γ1
  | _ => False
def dIfE (t : DT) (da db : DE) (γ : Env) (q : RS → Env → Prop) : Prop := t γ fun b γ1 => (b = true → da γ1 q) ∧ (b = false → db γ1 q)
def dTru (de : DE) (γ : Env) (q : Bool → Env → Prop) : Prop := de γ fun s γ1 => match s.data with
  | .lst xs => q (!xs.isEmpty) γ1
  | .tup xs => q (!xs.isEmpty) γ1
  | .int i => q (i != 0) γ1
  | .bl b => q b γ1
  | .non => q false γ1
  | .str x => x.length ≤ 1000000 ∧ q ((x.length : Int) != 0) γ1
  | _ => False
section
variable {K : PySem.W.Frag} {B : Bs} {te : TE} {de : DE} {t u : TT} {dt du : DT}
theorem st_B (h : SE K B te de) : ST K B (tTest te) (dB de) := fun F H σ γ Q q R hq k => by
  refine h F H σ γ _ _ R hq fun v F1 H1 γ1 s R1 e1 o1 h1 => ?_
  split at h1
  · rename_i b es
    have r := o1.rs R1
    rw [es] at r
    exact ⟨b, r.bl, k _ F1 H1 γ1 R1 e1 h1⟩
  · exact h1.elim
theorem st_and (h1 : ST K B t dt) (h2 : ST K B u du) : ST K B (tAnd t u) (dAnd dt du) := fun F H σ γ Q q R hq k => by
  refine h1 F H σ γ _ _ R hq fun b F1 H1 γ1 R1 e1 ⟨q1, q2⟩ => ?_
  cases b with
  | true =>
    show u σ H1 Q
    exact h2 F1 H1 σ γ1 _ _ R1 (q1 rfl) fun c F2 H2 γ2 R2 e2 q3 => k c F2 H2 γ2 R2 (e1.trans e2) q3
  | false => exact k false F1 H1 γ1 R1 e1 (q2 rfl)
theorem st_or (h1 : ST K B t dt) (h2 : ST K B u du) : ST K B (tOr t u) (dOr dt du) := fun F H σ γ Q q R hq k => by
  refine h1 F H σ γ _ _ R hq fun b F1 H1 γ1 R1 e1 ⟨q1, q2⟩ => ?_
  cases b with
  | false =>
    show u σ H1 Q
    exact h2 F1 H1 σ γ1 _ _ R1 (q2 rfl) fun c F2 H2 γ2 R2 e2 q3 => k c F2 H2 γ2 R2 (e1.trans e2) q3
  | true => exact k true F1 H1 γ1 R1 e1 (q1 rfl)
theorem st_not (h1 : ST K B t dt) : ST K B (tNot t) (dNot dt) := fun F H σ γ Q q R hq k =>
  h1 F H σ γ _ _ R hq fun b F1 H1 γ1 R1 e1 q1 => k _ F1 H1 γ1 R1 e1 q1
theorem st_tru (h : SE K B te de) : ST K B (fun σ H Q => te σ H fun x H' => ∃ k, TruV K x H' k ∧ Q k H') (dTru de) := fun F H σ γ Q q R hq k => by
  refine h F H σ γ _ _ R hq fun v F1 H1 γ1 s R1 e1 o1 h1 => ?_
  have r := o1.rs R1
  split at h1
  · rename_i xs es
    rw [es] at r
    obtain ⟨a, vs, rfl, h2, r1⟩ := r.lst R1.fh
    refine ⟨_, .inl ⟨vs, Evl.sq_of h2, rfl⟩, ?_⟩
    have e : vs.isEmpty = xs.isEmpty := by
      have := r1.length
      cases vs <;> cases xs <;> first | rfl | (simp at this)
    rw [e]
    exact k _ F1 H1 γ1 R1 e1 h1
  · rename_i xs es
    rw [es] at r
    obtain ⟨a, vs, rfl, h2, r1⟩ := r.tup R1.fh
    refine ⟨_, .inr (.inl ⟨vs, h2, rfl⟩), ?_⟩
    have e : vs.isEmpty = xs.isEmpty := by
      have := r1.length
      cases vs <;> cases xs <;> first | rfl | (simp at this)
    rw [e]
    exact k _ F1 H1 γ1 R1 e1 h1
  · rename_i i es
    rw [es] at r
    rw [r.int]
    exact ⟨_, rfl, k _ F1 H1 γ1 R1 e1 h1⟩
  · rename_i i es
    rw [es] at r
    rw [r.bl]
    exact ⟨_, rfl, k _ F1 H1 γ1 R1 e1 h1⟩
  · rename_i es
    rw [es] at r
    rw [r.non]
    exact ⟨_, rfl, k _ F1 H1 γ1 R1 e1 h1⟩
  · rename_i i es
    rw [es] at r
    rw [r.str]
    exact ⟨_, ⟨sz_le h1.1, rfl⟩, k _ F1 H1 γ1 R1 e1 h1.2⟩
  · exact h1.elim
theorem se_and {ta tb : TE} {da db : DE} (h1 : SE K B ta da) (h2 : SE K B tb db) : SE K B (tAndV ta tb) (dAndV da db) := fun F H σ γ Q q R hq k => by
  refine h1 F H σ γ _ _ R hq fun v F1 H1 γ1 s R1 e1 o1 q1 => ?_
  split at q1
  · rename_i b es
    have r := o1.rs R1
    rw [es] at r
    refine ⟨b, r.bl, ?_⟩
    cases b with
    | true =>
      show tb σ H1 Q
      exact h2 F1 H1 σ γ1 _ _ R1 (q1.1 rfl) fun v F2 H2 γ2 s R2 e2 o2 q3 => k v F2 H2 γ2 s R2 (e1.trans e2) o2 q3
    | false => exact k _ F1 H1 γ1 (.val (.bl false)) R1 e1 (.bl _) (q1.2 rfl)
  · exact q1.elim
theorem se_or {ta tb : TE} {da db : DE} (h1 : SE K B ta da) (h2 : SE K B tb db) : SE K B (tOrV ta tb) (dOrV da db) := fun F H σ γ Q q R hq k => by
  refine h1 F H σ γ _ _ R hq fun v F1 H1 γ1 s R1 e1 o1 q1 => ?_
  split at q1
  · rename_i b es
    have r := o1.rs R1
    rw [es] at r
    refine ⟨b, r.bl, ?_⟩
    cases b with
    | false =>
      show tb σ H1 Q
      exact h2 F1 H1 σ γ1 _ _ R1 (q1.2 rfl) fun v F2 H2 γ2 s R2 e2 o2 q3 => k v F2 H2 γ2 s R2 (e1.trans e2) o2 q3
    | true => exact k _ F1 H1 γ1 (.val (.bl true)) R1 e1 (.bl _) (q1.1 rfl)
  · exact q1.elim
theorem se_not {ta : TE} {da : DE} (h1 : SE K B ta da) : SE K B (tNotV ta) (dNotV da) := fun F H σ γ Q q R hq k => by
  refine h1 F H σ γ _ _ R hq fun v F1 H1 γ1 s R1 e1 o1 q1 => ?_
  split at q1
  · rename_i b es
    have r := o1.rs R1
    rw [es] at r
    exact ⟨b, r.bl, k _ F1 H1 γ1 (.val (.bl (!b))) R1 e1 (.bl _) q1⟩
  · exact q1.elim
theorem se_if {ta tb : TE} {da db : DE} (h : ST K B t dt) (h1 : SE K B ta da) (h2 : SE K B tb db) : SE K B (tIf t ta tb) (dIfE dt da db) := fun F H σ γ Q q R hq k => by
  refine h F H σ γ _ _ R hq fun b F1 H1 γ1 R1 e1 q1 => ?_
  cases b with
  | true =>
    show ta σ H1 Q
    exact h1 F1 H1 σ γ1 _ _ R1 (q1.1 rfl) fun v F2 H2 γ2 s R2 e2 o2 q3 => k v F2 H2 γ2 s R2 (e1.trans e2) o2 q3
  | false =>
    show tb σ H1 Q
    exact h2 F1 H1 σ γ1 _ _ R1 (q1.2 rfl) fun v F2 H2 γ2 s R2 e2 o2 q3 => k v F2 H2 γ2 s R2 (e1.trans e2) o2 q3
/-- a op b op' c -/
def dChain (f g : D → D → (RS → Prop) → Prop) (da db dc : DE) (γ : Env) (q : RS → Env → Prop) : Prop := da γ fun s γ1 => db γ1 fun t γ2 => s.ok γ2 ∧ f s.data t.data fun r => match r with
  | .val (.bl b) => (b = true → dc γ2 fun u γ3 => t.ok γ3 ∧ g t.data u.data fun r' => q r' γ3) ∧ (b = false → q (.val (.bl false)) γ2)
  | _ => False
theorem se_chain {ta tb tc : TE} {da db dc : DE} {r r' : R2} {f g : D → D → (RS → Prop) → Prop} (hf : OpD K r f) (hg : OpD K r' g) (ha : SE K B ta da) (hb : SE K B tb db) (hc : SE K B tc dc) : SE K B (tChain r r' ta tb tc) (dChain f g da db dc) := fun F H σ γ Q q R hq k => by
  refine ha F H σ γ _ _ R hq fun x F1 H1 γ1 s R1 e1 o1 h1 => ?_
  obtain ⟨F2, R2, e2, o2⟩ := o1.fz R1
  refine hb F2 H1 σ γ1 _ _ R2 h1 fun y F3 H3 γ3 t R3 e3 o3 ⟨h3, h4⟩ => ?_
  obtain ⟨F4, R4, e4, o4⟩ := o3.fz R3
  have ox := o2.later (e3.trans e4) R4 (fz_ok s γ3 h3) (fz_idem s)
  have rx := ox.rs R4
  have ry := o4.rs R4
  rw [RS.fz_data] at rx ry
  refine hf B F4 H3 σ γ3 x y _ _ _ _ R4 rx ry h4 fun v F5 H5 u R5 e5 o5 h5 => ?_
  split at h5
  · rename_i b
    have ev : v = .bl b := (o5.rs R5).bl
    refine ⟨b, ev, ?_⟩
    cases b with
    | true =>
      show tc σ H5 _
      refine hc F5 H5 σ γ3 _ _ R5 (h5.1 rfl) fun z F6 H6 γ6 u R6 e6 o6 ⟨h6, h7⟩ => ?_
      obtain ⟨F7, R7, e7, o7⟩ := o6.fz R6
      have oy := (o4.later ((e5.trans e6).trans e7) R7 (fz_ok t γ6 h6) (fz_idem t)).rs R7
      have oz := o7.rs R7
      rw [RS.fz_data] at oy oz
      exact hg B F7 H6 σ γ6 y z _ _ Q _ R7 oy oz h7 fun v F8 H8 u R8 e8 o8 h8 => k v F8 H8 γ6 u R8 (((((((e1.trans e2).trans e3).trans e4).trans e5).trans e6).trans e7).trans e8) o8 h8
    | false => exact k _ F5 H5 γ3 (.val (.bl false)) R5 ((((e1.trans e2).trans e3).trans e4).trans e5) (.bl _) (h5.2 rfl)
  · exact h5.elim
end
section
variable {X : Cx} {B : Bs} {pos : Pos} {a b c : Expr} {ta tb tc : TE} {da db dc : DE} {t u : TT} {dt du : DT} {rest : List Expr}
theorem t_cmp {op : CmpOp} {r : R2} {f : D → D → (RS → Prop) → Prop} (ho : OpR X (compareOp op) r) (hd : OpD X.K r f) (ha : XE X B a ta da) (hb : XE X B b tb db) (hm : behindInMarks op b = false := by first | exact nomark _ | rfl) : XT X B (.Compare a [op] [b] pos) (tTest (tOp r ta tb)) (dB (d2 f da db)) :=
  ⟨pt_cmpR ho ha.pe hb.pe hm, st_B (se_op hd ha.se hb.se)⟩
theorem t_val {e : Expr} {te : TE} {de : DE} (h : XE X B e te de) (he : ∀ whole, isTrue e X.env whole = (do let v ← whole; standAt e.pos; holding [v] (truthy v)) := by intro _; rfl) : XT X B e (tB te) (dB de) := ⟨pt_val h.pe he, st_B h.se⟩
theorem t_tru {e : Expr} {te : TE} {de : DE} (h : XE X B e te de) (he : ∀ whole, isTrue e X.env whole = (do let v ← whole; standAt e.pos; holding [v] (truthy v)) := by intro _; rfl) : XT X B e (fun σ H Q => te σ H fun x H' => ∃ k, TruV X.K x H' k ∧ Q k H') (dTru de) := ⟨pt_truth h.pe he, st_tru h.se⟩
theorem w_and1 (h : XT X B a t dt) : XW X B (.BoolOp .And [a] pos) t dt := ⟨pw_and1 h.pt, h.st⟩
theorem w_or1 (h : XT X B a t dt) : XW X B (.BoolOp .Or [a] pos) t dt := ⟨pw_or1 h.pt, h.st⟩
theorem w_and (h : XT X B a t dt) (h2 : XW X B (.BoolOp .And (b :: rest) pos) u du) : XW X B (.BoolOp .And (a :: b :: rest) pos) (tAnd t u) (dAnd dt du) := ⟨pw_and h.pt h2.pw, st_and h.st h2.st⟩
theorem w_or (h : XT X B a t dt) (h2 : XW X B (.BoolOp .Or (b :: rest) pos) u du) : XW X B (.BoolOp .Or (a :: b :: rest) pos) (tOr t u) (dOr dt du) := ⟨pw_or h.pt h2.pw, st_or h.st h2.st⟩
theorem t_w {e : Expr} (h : XW X B e t dt) : XT X B e t dt := ⟨h.pw.pt, h.st⟩
theorem t_not (h : XT X B a t dt) : XT X B (.UnaryOp .Not a pos) (tNot t) (dNot dt) := ⟨pt_not h.pt, st_not h.st⟩
theorem t_chain {op op' : CmpOp} {r r' : R2} {f g : D → D → (RS → Prop) → Prop} (ho : OpR X (compareOp op) r) (ho' : OpR X (compareOp op') r') (hd : OpD X.K r f) (hd' : OpD X.K r' g) (ha : XE X B a ta da) (hb : XE X B b tb db) (hc : XE X B c tc dc) (hm : lastMarks [op, op'] [b, c] = false := by with_unfolding_all rfl) :
    XT X B (.Compare a [op, op'] [b, c] pos) (tTest (tChain r r' ta tb tc)) (dB (dChain f g da db dc)) := ⟨pt_chain ho ho' ha.pe hb.pe hc.pe hm, st_B (se_chain hd hd' ha.se hb.se hc.se)⟩
theorem x_chain {op op' : CmpOp} {r r' : R2} {f g : D → D → (RS → Prop) → Prop} (ho : OpR X (compareOp op) r) (ho' : OpR X (compareOp op') r') (hd : OpD X.K r f) (hd' : OpD X.K r' g) (ha : XE X B a ta da) (hb : XE X B b tb db) (hc : XE X B c tc dc) (hm : lastMarks [op, op'] [b, c] = false := by with_unfolding_all rfl) :
    XE X B (.Compare a [op, op'] [b, c] pos) (tChain r r' ta tb tc) (dChain f g da db dc) := ⟨pe_chain ho ho' ha.pe hb.pe hc.pe hm, se_chain hd hd' ha.se hb.se hc.se⟩
theorem x_one {op} (h : XE X B a ta da) : XE X B (.BoolOp op [a] pos) ta da := ⟨pe_one h.pe, h.se⟩
theorem x_and (h : XE X B a ta da) (h2 : XE X B (.BoolOp .And (b :: rest) pos) tb db) : XE X B (.BoolOp .And (a :: b :: rest) pos) (tAndV ta tb) (dAndV da db) := ⟨pe_and h.pe h2.pe, se_and h.se h2.se⟩
theorem x_or (h : XE X B a ta da) (h2 : XE X B (.BoolOp .Or (b :: rest) pos) tb db) : XE X B (.BoolOp .Or (a :: b :: rest) pos) (tOrV ta tb) (dOrV da db) := ⟨pe_or h.pe h2.pe, se_or h.se h2.se⟩
theorem x_not (h : XE X B a ta da) : XE X B (.UnaryOp .Not a pos) (tNotV ta) (dNotV da) := ⟨pe_not h.pe, se_not h.se⟩
theorem x_if (h : XT X B c t dt) (h1 : XE X B a ta da) (h2 : XE X B b tb db) : XE X B (.IfExp c a b pos) (tIf t ta tb) (dIfE dt da db) := ⟨pe_ifExp h.pt h1.pe h2.pe, se_if h.st h1.se h2.se⟩
end
end DL

set_option Elab.async false
set_option linter.all false
set_option maxRecDepth 100000
set_option maxHeartbeats 2000000
namespace DL
open PySem PySem.Spec PyProof.Rows L2
open Evl (Ex ex_l ex_t)

structure DEnds where
  nx : Env → Prop
  rt : RS → Env → Prop
  bk : Env → Prop := fun _ => False
  ct : Env → Prop := fun _ => False
abbrev DS := DEnds → Env → Prop
structure EndsOk (K : PySem.W.Frag) (B : Bs) (F0 : Hp) (E : Ends) (d : DEnds) : Prop where
  nx : ∀ F H σ γ, Rep K B F H σ γ → Ex F0 F → d.nx γ → E.nx σ H
  rt : ∀ F H σ γ v s, Rep K B F H σ γ → Ex F0 F → RsOk K B F H σ γ v s → d.rt s γ → E.rt v H
  bk : ∀ F H σ γ, Rep K B F H σ γ → Ex F0 F → d.bk γ → E.bk σ H
  ct : ∀ F H σ γ, Rep K B F H σ γ → Ex F0 F → d.ct γ → E.ct σ H
def SS (K : PySem.W.Frag) (B : Bs) (ts : TS) (ds : DS) : Prop := ∀ (F H : Hp) (σ : L2.St) (γ : Env) (E : Ends) (d : DEnds), Rep K B F H σ γ → ds d γ → EndsOk K B F E d → ts E σ H
structure XS (X : Cx) (B : Bs) (st : Stmt) (ts : TS) (ds : DS) : Prop where
  ps : PS X st ts
  ss : SS X.K B ts ds
structure XSs (X : Cx) (B : Bs) (st : List Stmt) (ts : TS) (ds : DS) : Prop where
  ps : PSs X st ts
  ss : SS X.K B ts ds
section
variable {K : PySem.W.Frag} {B : Bs} {F F' H : Hp} {σ : L2.St} {γ : Env} {E : Ends} {d : DEnds}
theorem EndsOk.mono (h : EndsOk K B F E d) (e : Ex F F') : EndsOk K B F' E d :=
  ⟨fun F2 H2 σ2 γ2 R x => h.nx F2 H2 σ2 γ2 R (e.trans x), fun F2 H2 σ2 γ2 v s R x => h.rt F2 H2 σ2 γ2 v s R (e.trans x), fun F2 H2 σ2 γ2 R x => h.bk F2 H2 σ2 γ2 R (e.trans x), fun F2 H2 σ2 γ2 R x => h.ct F2 H2 σ2 γ2 R (e.trans x)⟩
theorem get_set {i j : Nat} {v : V} {s : Option V} (h : (σ.set i (some v))[j]? = some s) : (j = i ∧ s = some v) ∨ (j ≠ i ∧ σ[j]? = some s) := by
  by_cases e : i = j
  · subst e
    by_cases hl : i < σ.length
    · rw [List.getElem?_set_self hl] at h; exact .inl ⟨rfl, (Option.some.inj h).symm⟩
    · rw [List.getElem?_eq_none (by rw [List.length_set]; omega)] at h; cases h
  · rw [List.getElem?_set_ne e] at h; exact .inr ⟨fun z => e z.symm, h⟩
theorem Rep.setVal (R : Rep K B F H σ γ) (i : Nat) {v : V} {x : D} (r : Rp (B.kz K) F v x) : Rep K B F H (σ.set i (some v)) (put γ i (.val x)) := by
  have key : ∀ {j : Nat} {p : Option Nat} {c : OC} {a : Addr}, (put γ i (.val x))[j]? = some (.own p c) → (σ.set i (some v))[j]? = some (some (.ref a)) → γ[j]? = some (.own p c) ∧ σ[j]? = some (some (.ref a)) := fun h h2 => by
    rcases get_put h with ⟨_, e⟩ | ⟨n, e⟩
    · cases e
    · rcases get_set h2 with ⟨z, _⟩ | ⟨_, e2⟩
      · exact absurd z n
      · exact ⟨e, e2⟩
  refine ⟨R.fh, by rw [put_len, List.length_set]; exact R.len, fun j s u hs hg => ?_, fun i j a p c q c' h1 h2 h3 h4 => R.nd i j a p c q c' (key h1 h3).1 (key h2 h4).1 (key h1 h3).2 (key h2 h4).2, R.b1, R.b2, R.b3,
    fun j a p c h1 h2 => R.b4 j a p c (key h1 h2).1 (key h1 h2).2, fun j a p c h1 h2 => R.b5 j a p c (key h1 h2).1 (key h1 h2).2, R.bN, R.bd⟩
  rcases get_put hg with ⟨rfl, rfl⟩ | ⟨n, e⟩
  · rcases get_set hs with ⟨_, rfl⟩ | ⟨z, _⟩
    · exact ⟨v, rfl, r⟩
    · exact absurd rfl z
  · rcases get_set hs with ⟨z, _⟩ | ⟨_, e2⟩
    · exact absurd z n
    · exact R.sl j s u e2 e
theorem Rep.setNew (R : Rep K B F H σ γ) (i : Nat) {a : Addr} {c : OC} (N : RNew K B F H σ γ a c) : Rep K B F H (σ.set i (some (.ref a))) (put γ i (.own none c)) := by
  have key : ∀ {j : Nat} {p : Option Nat} {c' : OC} {b : Addr}, (put γ i (.own none c))[j]? = some (.own p c') → (σ.set i (some (.ref a)))[j]? = some (some (.ref b)) → (j = i ∧ p = none ∧ b = a) ∨ (j ≠ i ∧ γ[j]? = some (.own p c') ∧ σ[j]? = some (some (.ref b))) := fun h h2 => by
    rcases get_put h with ⟨z, e⟩ | ⟨n, e⟩
    · rcases get_set h2 with ⟨_, e2⟩ | ⟨z2, _⟩
      · injection e with e1 _
        injection e2 with e2
        injection e2 with e2
        exact .inl ⟨z, e1, e2⟩
      · exact absurd z z2
    · rcases get_set h2 with ⟨z, _⟩ | ⟨_, e2⟩
      · exact absurd z n
      · exact .inr ⟨n, e, e2⟩
  refine ⟨R.fh, by rw [put_len, List.length_set]; exact R.len, fun j s u hs hg => ?_, fun i' j' b p c1 q c2 h1 h2 h3 h4 => ?_, R.b1, R.b2, R.b3, fun j b p c1 h1 h2 => ?_, fun j b p c1 h1 h2 => ?_, R.bN, R.bd⟩
  · rcases get_put hg with ⟨rfl, rfl⟩ | ⟨n, e⟩
    · rcases get_set hs with ⟨_, rfl⟩ | ⟨z, _⟩
      · exact ⟨a, rfl, N.fa, N.ok⟩
      · exact absurd rfl z
    · rcases get_set hs with ⟨z, _⟩ | ⟨_, e2⟩
      · exact absurd z n
      · exact R.sl j s u e2 e
  · rcases key h1 h3 with ⟨z1, _, z2⟩ | ⟨n1, y1, y2⟩
    · rcases key h2 h4 with ⟨z3, _, _⟩ | ⟨_, y3, y4⟩
      · rw [z1, z3]
      · rw [z2] at y4
        exact absurd y4 (N.na j' q c2 y3)
    · rcases key h2 h4 with ⟨_, _, z4⟩ | ⟨_, y3, y4⟩
      · rw [z4] at y2
        exact absurd y2 (N.na i' p c1 y1)
      · exact R.nd i' j' b p c1 q c2 y1 y3 y2 y4
  · rcases key h1 h2 with ⟨_, rfl, rfl⟩ | ⟨_, y1, y2⟩
    · exact ⟨fun k z => (by cases z), fun _ => N.bn⟩
    · exact R.b4 j b p c1 y1 y2
  · rcases key h1 h2 with ⟨_, _, rfl⟩ | ⟨_, y1, y2⟩
    · exact N.bm
    · exact R.b5 j b p c1 y1 y2
end

/-! ### blocks and small statements -/
def dNext (d : DEnds) (γ : Env) : Prop := d.nx γ
def dSeq (s t : DS) (d : DEnds) (γ : Env) : Prop := s { d with nx := t d } γ
def dDrop (de : DE) (d : DEnds) (γ : Env) : Prop := de γ fun _ γ1 => d.nx γ1
def dRet (de : DE) (d : DEnds) (γ : Env) : Prop := de γ d.rt
def dRetN (d : DEnds) (γ : Env) : Prop := d.rt (.val .non) γ
def dBreak (d : DEnds) (γ : Env) : Prop := d.bk γ
def dCont (d : DEnds) (γ : Env) : Prop := d.ct γ
def dIf (t : DT) (a b : DS) (d : DEnds) (γ : Env) : Prop := t γ fun c γ1 => (c = true → a d γ1) ∧ (c = false → b d γ1)
def dAsg (i : Nat) (de : DE) (d : DEnds) (γ : Env) : Prop := de γ fun s γ1 => match s with
  | .val x => d.nx (put γ1 i (.val x))
  | .new c => d.nx (put γ1 i (.own none c))
  | .own _ _ => False
/-- targets -/
abbrev DG := D → Env → (Env → Prop) → Prop
abbrev DGs := List D → Env → (Env → Prop) → Prop
/-- outside of ix the slots stay -/
def Off (ix : List Nat) (σ σ' : L2.St) : Prop := σ'.length = σ.length ∧ ∀ j, j ∉ ix → σ'[j]? = σ[j]?
def SG (K : PySem.W.Frag) (B : Bs) (g : TG) (dg : DG) (ix : List Nat) : Prop := ∀ (F H : Hp) (σ : L2.St) (γ : Env) (v : V) (x : D) (Q : L2.St → Hp → Prop) (q : Env → Prop), Rep K B F H σ γ → Rp (B.kz K) F v x → dg x γ q →
  (∀ σ' γ', Rep K B F H σ' γ' → Off ix σ σ' → q γ' → Q σ' H) → g v σ H Q
def SGs (K : PySem.W.Frag) (B : Bs) (g : TGs) (dg : DGs) (ix : List Nat) : Prop := ∀ (F H : Hp) (σ : L2.St) (γ : Env) (vs : List V) (xs : List D) (Q : L2.St → Hp → Prop) (q : Env → Prop), Rep K B F H σ γ → RpAll (B.kz K) F vs xs → dg xs γ q →
  (∀ σ' γ', Rep K B F H σ' γ' → Off ix σ σ' → q γ' → Q σ' H) → g vs σ H Q
structure XG (X : Cx) (B : Bs) (tg : Expr) (g : TG) (dg : DG) (ix : List Nat) : Prop where
  pg : PG X tg g
  sg : SG X.K B g dg ix
structure XGs (X : Cx) (B : Bs) (tg : List Expr) (g : TGs) (dg : DGs) (ix : List Nat) : Prop where
  pg : PGs X tg g
  sg : SGs X.K B g dg ix
def gN (i : Nat) (x : D) (γ : Env) (q : Env → Prop) : Prop := q (put γ i (.val x))
def gsNil (xs : List D) (γ : Env) (q : Env → Prop) : Prop := xs = [] ∧ q γ
def gsCons (g : DG) (r : DGs) (xs : List D) (γ : Env) (q : Env → Prop) : Prop := match xs with
  | x :: ys => g x γ fun γ1 => r ys γ1 q
  | [] => False
def gT (n : Nat) (gs : DGs) (x : D) (γ : Env) (q : Env → Prop) : Prop := match x with
  | .tup xs => xs.length = n ∧ gs xs γ q
  | _ => False
def dAsgG (de : DE) (g : DG) (d : DEnds) (γ : Env) : Prop := de γ fun s γ1 => match s with
  | .own _ _ => False
  | s => g s.data γ1 d.nx
section
variable {X : Cx} {B : Bs} {st : Stmt} {rest : List Stmt} {t u : TS} {ds du : DS} {e : Expr} {te : TE} {de : DE} {pos : Pos}
theorem ss_nil : XSs X B [] tNext dNext := ⟨pss_nil, fun F H σ γ E d R h k => k.nx F H σ γ R (Evl.Ex.refl F) h⟩
theorem ss_cons (h1 : XS X B st t ds) (h2 : XSs X B rest u du) : XSs X B (st :: rest) (tSeq t u) (dSeq ds du) := ⟨pss_cons h1.ps h2.ps, fun F H σ γ E d R h k =>
  h1.ss F H σ γ { E with nx := u E } { d with nx := du d } R h ⟨fun F1 H1 σ1 γ1 R1 e1 q => h2.ss F1 H1 σ1 γ1 E d R1 q (k.mono e1), k.rt, k.bk, k.ct⟩⟩
theorem ss_one (h1 : XS X B st t ds) : XSs X B [st] t ds := ⟨pss_one h1.ps, h1.ss⟩
theorem s_break : XS X B (.Break pos) tBreak dBreak := ⟨ps_break, fun F H σ γ E d R h k => k.bk F H σ γ R (Evl.Ex.refl F) h⟩
theorem s_cont : XS X B (.Continue pos) tCont dCont := ⟨ps_continue, fun F H σ γ E d R h k => k.ct F H σ γ R (Evl.Ex.refl F) h⟩
theorem s_pass : XS X B (.Pass pos) tNext dNext := ⟨ps_pass, fun F H σ γ E d R h k => k.nx F H σ γ R (Evl.Ex.refl F) h⟩
theorem s_expr (he : XE X B e te de) (hs : swapsWith e none pos.line X.env = pure false := by rfl) : XS X B (.Expr e pos) (tDrop te) (dDrop de) := ⟨ps_expr he.pe hs, fun F H σ γ E d R h k =>
  he.se F H σ γ _ _ R h fun v F1 H1 γ1 s R1 e1 _ q => k.nx F1 H1 σ γ1 R1 e1 q⟩
theorem s_ret (he : XE X B e te de) : XS X B (.Return (some e) pos) (tRet te) (dRet de) := ⟨ps_ret he.pe, fun F H σ γ E d R h k =>
  he.se F H σ γ _ _ R h fun v F1 H1 γ1 s R1 e1 o1 q => k.rt F1 H1 σ γ1 v s R1 e1 o1 q⟩
theorem s_retN : XS X B (.Return none pos) tRetN dRetN := ⟨ps_retN, fun F H σ γ E d R h k => k.rt F H σ γ _ (.val .non) R (Evl.Ex.refl F) .non h⟩
theorem s_if {c : Expr} {a b : List Stmt} {tc : TT} {dc : DT} (hc : XT X B c tc dc) (ha : XSs X B a t ds) (hb : XSs X B b u du) : XS X B (.If c a b pos) (tIfS tc t u) (dIf dc ds du) := ⟨ps_if hc.pt ha.ps hb.ps, fun F H σ γ E d R h k => by
  refine hc.st F H σ γ _ _ R h fun b F1 H1 γ1 R1 e1 q => ?_
  cases b with
  | true => exact ha.ss F1 H1 σ γ1 E d R1 (q.1 rfl) (k.mono e1)
  | false => exact hb.ss F1 H1 σ γ1 E d R1 (q.2 rfl) (k.mono e1)⟩
theorem sa_name {K : PySem.W.Frag} {B : Bs} {i : Nat} (h : SE K B te de) : SS K B (tAsg te (gName i)) (dAsg i de) := fun F H σ γ E d R hq k => by
  refine h F H σ γ _ _ R hq fun v F1 H1 γ1 s R1 e1 o1 q => ?_
  cases s with
  | val x => exact k.nx F1 H1 _ _ (R1.setVal i o1) e1 q
  | new c =>
    obtain ⟨a, rfl, N⟩ := o1
    exact k.nx F1 H1 _ _ (R1.setNew i N) e1 q
  | own j c => exact q.elim
theorem s_set (i : Nat) {x : Str} {pos' : Pos} (hN : X.N.Nodup) (he : XE X B e te de) (hi : X.N[i]? = some x := by rfl) (hx : Loc X.env.scope x := by first | exact Or.inl rfl | exact Or.inr rfl) (hs : swapsWith e (some (.Name x pos')) pos.line X.env = pure false := by rfl)
    (hf : X.fn x = true ∨ X.env.scope.names.lookup x = some .local := by first | exact .inl rfl | exact .inr rfl) : XS X B (.Assign [.Name x pos'] e pos) (tAsg te (gName i)) (dAsg i de) := ⟨ps_set hN hi hx he.pe hs hf, sa_name he.se⟩
theorem g_name (i : Nat) {x : Str} (hN : X.N.Nodup) (hi : X.N[i]? = some x := by rfl) (hx : Loc X.env.scope x := by first | exact Or.inl rfl | exact Or.inr rfl) (hf : X.fn x = true ∨ X.env.scope.names.lookup x = some .local := by first | exact .inl rfl | exact .inr rfl) : XG X B (.Name x pos) (gName i) (gN i) [i] :=
  ⟨pg_name hN hi hx hf, fun F H σ γ v x Q q R r h k => k _ _ (R.setVal i r) ⟨by rw [List.length_set], fun j hj => List.getElem?_set_ne fun e => hj (by rw [e]; exact List.mem_singleton.mpr rfl)⟩ h⟩
theorem gs_nil : XGs X B [] gNil gsNil [] := ⟨pgs_nil, fun F H σ γ vs xs Q q R r h k => by
  obtain ⟨rfl, h⟩ := h
  cases r
  exact ⟨rfl, k σ γ R ⟨rfl, fun _ _ => rfl⟩ h⟩⟩
theorem gs_cons {es : List Expr} {g : TG} {gs : TGs} {dg : DG} {dgs : DGs} {i1 i2 : List Nat} (h1 : XG X B e g dg i1) (h2 : XGs X B es gs dgs i2) (hs : (assignEach (e :: es) X.env).map (·.2) = assign e X.env :: (assignEach es X.env).map (·.2) := by rfl) : XGs X B (e :: es) (gCons g gs) (gsCons dg dgs) (i1 ++ i2) := ⟨pgs_cons h1.pg h2.pg hs, fun F H σ γ vs xs Q q R r h k => by
  cases r with
  | nil => exact h.elim
  | cons r t => exact ⟨_, _, rfl, h1.sg F H σ γ _ _ _ _ R r h fun σ' γ' R' o' h' => h2.sg F H σ' γ' _ _ Q q R' t h' fun σ2 γ2 R2 o2 h2 => k σ2 γ2 R2 ⟨o2.1.trans o'.1, fun j hj => (o2.2 j fun z => hj (List.mem_append_right _ z)).trans (o'.2 j fun z => hj (List.mem_append_left _ z))⟩ h2⟩⟩
theorem g_tup {es : List Expr} {k n : Nat} {gs : TGs} {dgs : DGs} {ix : List Nat} (hc : X.calm = true) (h : XGs X B es gs dgs ix) (hn : (assignEach es X.env).length = n := by rfl) (hst : (assignEach es X.env).findIdx? (·.1) = none := by rfl) : XG X B (.Tuple es k pos) (gTup X.K n gs) (gT n dgs) ix := ⟨pg_tup hc h.pg hn hst, fun F H σ γ v x Q q R r hq k => by
  cases r with
  | tup h1 h2 => exact ⟨_, _, rfl, ex_t R.fh h1, by rw [h2.length]; exact hq.1, h.sg F H σ γ _ _ Q q R h2 hq.2 k⟩
  | _ => exact hq.elim⟩
theorem s_asgG {tg : Expr} {g : TG} {dg : DG} {ix : List Nat} (he : XE X B e te de) (hg : XG X B tg g dg ix) (hs : swapsWithSole [tg] e pos.line X.env = pure false := by rfl) (hw : swappedStores [tg] e X.env = pure none := by rfl)
    (h1 : (assignEach [tg] X.env).map (·.2) = [assign tg X.env] := by rfl) : XS X B (.Assign [tg] e pos) (tAsg te g) (dAsgG de dg) := ⟨ps_asg he.pe hg.pg hs hw h1, fun F H σ γ E d R hq k => by
  refine he.se F H σ γ _ _ R hq fun v F1 H1 γ1 s R1 e1 o1 q => ?_
  obtain ⟨F2, R2, e2, o2⟩ := o1.fz R1
  cases s with
  | own j c => exact q.elim
  | val x => exact hg.sg F2 H1 σ γ1 v x _ d.nx R2 o2 q fun σ' γ' R' _ h' => k.nx F2 H1 σ' γ' R' (e1.trans e2) h'
  | new c => exact hg.sg F2 H1 σ γ1 v _ _ d.nx R2 o2 q fun σ' γ' R' _ h' => k.nx F2 H1 σ' γ' R' (e1.trans e2) h'⟩
/-- x op= e on numbers -/
def dAug (i : Nat) (f : Int → Int → Int) (de : DE) (d : DEnds) (γ : Env) : Prop := match look γ i with
  | .val (.int a) => de γ fun s γ1 => match s.data with
    | .int b => d.nx (put γ1 i (.val (.int (f a b))))
    | _ => False
  | _ => False
theorem s_aug (i : Nat) {x : Str} {op : Operator} {f : Int → Int → Int} {pos' : Pos} (hN : X.N.Nodup) (he : XE X B e te de) (ho : PIp X op (ipI f)) (hi : X.N[i]? = some x := by rfl) (hx : Loc X.env.scope x := by first | exact Or.inl rfl | exact Or.inr rfl)
    (hf : X.fn x = true ∨ X.env.scope.names.lookup x = some .local := by first | exact .inl rfl | exact .inr rfl) : XS X B (.AugAssign (.Name x pos') op e pos) (tAug i te (ipI f)) (dAug i f de) := ⟨ps_aug hN hi hx he.pe ho hf, fun F H σ γ E d R hq k => by
  unfold dAug at hq
  split at hq
  · rename_i a hl
    obtain ⟨v, hs, r⟩ := R.val hl
    cases r
    refine ⟨_, hs, he.se F H σ γ _ _ R hq fun v F1 H1 γ1 s R1 e1 o1 q => ?_⟩
    split at q
    · rename_i b es
      have r := o1.rs R1
      rw [es] at r
      exact ⟨_, _, rfl, r.int, k.nx F1 H1 _ _ (R1.setVal i (.int _)) e1 q⟩
    · exact q.elim
  · exact hq.elim⟩
end

/-! ### things that change -/
section
variable {K : PySem.W.Frag} {B : Bs} {F H : Hp} {σ : L2.St} {γ : Env}
/-- the list in slot j is written anew -/
theorem Rep.write (R : Rep K B F H σ γ) {j : Nat} {p : Option Nat} {ds ds' : List D} {a : Addr} {vs vs' : List V} (hl : look γ j = .own p (.lst ds)) (hs : σ[j]? = some (some (.ref a))) (ha : H a = some (.lst vs)) (r : RpAll (B.kz K) F vs' ds') :
    Rep K B F (upd H a (.lst vs')) σ (put γ j (.own p (.lst ds'))) := by
  obtain ⟨a', hs', hg, fa, ok⟩ := R.own hl
  obtain rfl : a = a' := by rw [hs] at hs'; cases hs'; rfl
  have ne_own : ∀ {b x : Addr}, H b = some (.own x) → b ≠ a := fun h e => by
    subst e
    rw [ha] at h; cases h
  have key : ∀ {i : Nat} {q : Option Nat} {c : OC}, (put γ j (.own p (.lst ds')))[i]? = some (.own q c) → ∃ c0, γ[i]? = some (.own q c0) ∧ ((i = j ∧ c = .lst ds') ∨ (i ≠ j ∧ c0 = c)) := fun h => by
    rcases get_put h with ⟨rfl, e⟩ | ⟨n, e⟩
    · injection e with e1 e2
      subst e1; subst e2
      exact ⟨_, hg, .inl ⟨rfl, rfl⟩⟩
    · exact ⟨_, e, .inr ⟨n, rfl⟩⟩
  refine ⟨fun b o e => ?_, by rw [put_len]; exact R.len, fun i s t h1 h2 => ?_, fun i i' b q c q' c' h1 h2 h3 h4 => ?_, fun b o e => ?_, R.b2, R.b3, fun i b q c h1 h2 => ?_, fun i b q c h1 h2 => ?_, fun b o e => ?_, fun b o e => ?_⟩
  · have n : b ≠ a := fun z => by subst z; rw [fa] at e; cases e
    rw [upd_ne n]; exact R.fh b o e
  · rcases get_put h2 with ⟨rfl, rfl⟩ | ⟨n, e⟩
    · rw [hs] at h1; cases h1
      exact ⟨a, rfl, fa, vs', upd_same, r⟩
    · have q := R.sl i s t h1 e
      cases t with
      | no => trivial
      | val d => exact q
      | own q' c =>
        obtain ⟨b, e', f, ok'⟩ := q
        subst e'
        have nb : b ≠ a := fun z => by subst z; exact n (R.nd i j b q' c p (.lst ds) e hg h1 hs)
        exact ⟨b, rfl, f, ok'.heap (upd_ne nb) fun dx hd => upd_ne (ne_own hd)⟩
  · obtain ⟨_, y1, _⟩ := key h1
    obtain ⟨_, y2, _⟩ := key h2
    exact R.nd i i' b q _ q' _ y1 y2 h3 h4
  · obtain ⟨x1, o', x2⟩ := R.b1 b o e
    by_cases hb : b = a
    · subst hb
      rw [upd_same]
      refine ⟨fun n => ?_, _, rfl⟩
      rcases R.b5 j b p _ hg hs with z | z
      · exact absurd z n
      · rw [e] at z; cases z
    · rw [upd_ne hb]; exact ⟨x1, o', x2⟩
  · obtain ⟨_, y1, _⟩ := key h1
    exact R.b4 i b q _ y1 h2
  · obtain ⟨_, y1, _⟩ := key h1
    exact R.b5 i b q _ y1 h2
  · obtain ⟨o', x2⟩ := R.bN b o e
    by_cases hb : b = a
    · subst hb; exact ⟨_, upd_same⟩
    · rw [upd_ne hb]; exact ⟨o', x2⟩
  · obtain ⟨o', x2, kn⟩ := R.bd b o e
    by_cases hb : b = a
    · subst hb
      rw [ha] at x2
      cases x2
      exact ⟨_, upd_same, kn.trans ⟨_, rfl⟩⟩
    · rw [upd_ne hb]; exact ⟨o', x2, kn⟩
/-- what a method does to the list in slot j: by its content and the arguments, the new content and the answer -/
def MutD (K : PySem.W.Frag) (r : V → List V → Hp → VK → Prop) (f : List D → List D → (List D → D → Prop) → Prop) : Prop := ∀ (z : Addr → Prop) (F H : Hp) (a : Addr) (vs : List V) (ds : List D) (xs : List V) (as : List D) (Q : VK) (q : List D → D → Prop), Ex F H → H a = some (.lst vs) → RpAll ⟨K, z⟩ F vs ds → RpAll ⟨K, z⟩ F xs as → f ds as q →
  (∀ v d vs' ds', RpAll ⟨K, z⟩ F vs' ds' → Rp ⟨K, z⟩ F v d → q ds' d → Q v (upd H a (.lst vs'))) → r (.ref a) xs H Q
def isL : Sx → Prop
  | .own _ (.lst _) => True
  | _ => False
def dMut (j : Nat) (f : List D → List D → (List D → D → Prop) → Prop) (da : DA) (γ : Env) (q : RS → Env → Prop) : Prop := isL (look γ j) ∧ da γ fun rs γ1 => allV rs ∧ match look γ1 j with
  | .own p (.lst ds) => f ds (rs.map RS.data) fun ds' d => q (.val d) (put γ1 j (.own p (.lst ds')))
  | _ => False
theorem se_mut {ta : TA} {da : DA} {r : V → List V → Hp → VK → Prop} {f : List D → List D → (List D → D → Prop) → Prop} {j : Nat} (hm : MutD K r f) (h : SA K B ta da) : SE K B (tBM K "list" r (tVar j) ta) (dMut j f da) := fun F H σ γ Q q R ⟨h0, hq⟩ k => by
  obtain ⟨p, ds, hl⟩ : ∃ p ds, look γ j = .own p (.lst ds) := by
    revert h0
    cases look γ j with
    | no => exact fun z => z.elim
    | val d => exact fun z => z.elim
    | own p c => cases c with
      | lst ds => exact fun _ => ⟨p, ds, rfl⟩
      | ins C fs => exact fun z => z.elim
      | dct kd => exact fun z => z.elim
  obtain ⟨a, hs, hg, fa, vs, ha, ra⟩ := R.own hl
  refine ⟨_, hs, Or.inl ⟨rfl, vs, Evl.sq_of ha⟩, h F H σ γ _ _ R hq fun xs F1 H1 γ1 rs R1 e1 o1 ⟨h1, h2⟩ => ?_⟩
  split at h2
  · rename_i p1 ds1 hl1
    obtain ⟨a1, hs1, hg1, fa1, vs1, ha1, ra1⟩ := R1.own hl1
    rw [hs] at hs1; cases hs1
    exact hm B.z F1 H1 a vs1 ds1 xs _ Q _ R1.fh ha1 ra1 (allV_rp o1 h1) h2 fun v d vs' ds' r1 r2 h3 => k v F1 _ _ (.val d) (R1.write hl1 hs ha1 r1) e1 r2 h3
  · exact h2.elim
theorem se_mut0 {r : V → List V → Hp → VK → Prop} {f : List D → List D → (List D → D → Prop) → Prop} {j : Nat} (hm : MutD K r f) : SE K B (tBM0 K "list" r (tVar j)) (dMut j f dNil) := fun F H σ γ Q q R ⟨h0, _, h2⟩ k => by
  split at h2
  · rename_i p ds hl
    obtain ⟨a, hs, hg, fa, vs, ha, ra⟩ := R.own hl
    exact ⟨_, hs, Or.inl ⟨rfl, vs, Evl.sq_of ha⟩, hm B.z F H a vs ds [] [] Q _ R.fh ha ra .nil h2 fun v d vs' ds' r1 r2 h3 => k v F _ _ (.val d) (R.write hl hs ha r1) (Evl.Ex.refl F) r2 h3⟩
  · exact h2.elim
def mApp (ds as : List D) (q : List D → D → Prop) : Prop := match as with
  | [x] => ds.length < 1000000 ∧ q (ds ++ [x]) .non
  | _ => False
theorem md_append : MutD K rAppend mApp := fun z F H a vs ds xs as Q q eFH ha ra rx hf k => by
  unfold mApp at hf
  split at hf
  · obtain ⟨x, rfl, r⟩ := one_rs rx.p
    exact ⟨a, vs, x, rfl, rfl, ha, Nat.lt_of_lt_of_le (by rw [ra.length]; exact hf.1) (by decide), k _ _ _ _ (RpAll.of (P_app ra.p (.cons r .nil))) .non hf.2⟩
  · exact hf.elim
def mPopAt (ds as : List D) (q : List D → D → Prop) : Prop := match as with
  | [.int i] => -1000000 ≤ i ∧ i ≤ 1000000 ∧ ∃ k d, seqIndex? i ds.length = some k ∧ ds[k]? = some d ∧ q (ds.eraseIdx k) d
  | _ => False
theorem md_popAt : MutD K rPopAt mPopAt := fun z F H a vs ds xs as Q q eFH ha ra rx hf k => by
  unfold mPopAt at hf
  split at hf
  · obtain ⟨x, rfl, r⟩ := one_rs rx.p
    cases r
    obtain ⟨i1, i2, j, d, h1, h2, h3⟩ := hf
    obtain ⟨v, hv, rv⟩ := P_get ra.p h2
    exact ⟨a, vs, _, j, v, rfl, rfl, ha, by omega, by omega, by rw [ra.length]; exact h1, hv, k _ _ _ _ (RpAll.of (P_erase j ra.p)) rv h3⟩
  · exact hf.elim
def mPop (ds as : List D) (q : List D → D → Prop) : Prop := match as with
  | [] => ∃ d, ds[ds.length - 1]? = some d ∧ q ds.dropLast d
  | _ => False
theorem md_pop : MutD K rPop mPop := fun z F H a vs ds xs as Q q eFH ha ra rx hf k => by
  unfold mPop at hf
  split at hf
  · cases rx
    obtain ⟨d, h2, h3⟩ := hf
    obtain ⟨v, hv, rv⟩ := P_get ra.p h2
    exact ⟨a, vs, v, rfl, rfl, ha, by rw [ra.length]; exact hv, k _ _ _ _ (RpAll.of (P_dropLast ra.p)) rv h3⟩
  · exact hf.elim
end
section
variable {X : Cx} {B : Bs} {e : Expr} {es : List Expr} {ta : TA} {da : DA} {cpos apos pos : Pos} {x : Str}
theorem x_mut {j : Nat} {r : V → List V → Hp → VK → Prop} {f : List D → List D → (List D → D → Prop) → Prop} {c : Expr} (pe : PA X es ta → PE X c (tBM X.K "list" r (tVar j) ta)) (hd : MutD X.K r f) (h : XA X B es ta da) : XE X B c (tBM X.K "list" r (tVar j) ta) (dMut j f da) := ⟨pe h.pa, se_mut hd h.sa⟩
theorem x_mut0 {j : Nat} {r : V → List V → Hp → VK → Prop} {f : List D → List D → (List D → D → Prop) → Prop} {c : Expr} (pe : PE X c (tBM0 X.K "list" r (tVar j))) (hd : MutD X.K r f) : XE X B c (tBM0 X.K "list" r (tVar j)) (dMut j f dNil) := ⟨pe, se_mut0 hd⟩
/-- xs[i] = e -/
def RS.kept : RS → Prop
  | .own _ _ => False
  | _ => True
def dSetI (j : Nat) (de di : DE) (d : DEnds) (γ : Env) : Prop := de γ fun s γ1 => s.kept ∧ isL (look γ1 j) ∧ di γ1 fun t γ2 => match look γ2 j, t.data with
  | .own p (.lst ds), .int i => ∃ k, ixN ds.length i = some k ∧ d.nx (put γ2 j (.own p (.lst (ds.set k s.data))))
  | _, _ => False
theorem ss_setI {K : PySem.W.Frag} {B : Bs} {te ti : TE} {de di : DE} {j : Nat} (he : SE K B te de) (hi : SE K B ti di) : SS K B (tAsg te (gSub (tVar j) ti rSetL)) (dSetI j de di) := fun F H σ γ E d R hq k => by
  refine he F H σ γ _ _ R hq fun v F1 H1 γ1 s R1 e1 o1 ⟨hk, h0, q⟩ => ?_
  obtain ⟨F2, R2, e2, o2⟩ := o1.fz R1
  have rv : Rp (B.kz K) F2 v s.data := by
    cases s with
    | val x => exact o2
    | new c => exact o2
    | own j c => exact hk.elim
  obtain ⟨p, ds, hl⟩ : ∃ p ds, look γ1 j = .own p (.lst ds) := by
    revert h0
    cases look γ1 j with
    | no => exact fun z => z.elim
    | val d => exact fun z => z.elim
    | own p c => cases c with
      | lst ds => exact fun _ => ⟨p, ds, rfl⟩
      | ins C fs => exact fun z => z.elim
      | dct kd => exact fun z => z.elim
  obtain ⟨a, hs, hg, fa, vs, ha, ra⟩ := R2.own hl
  refine ⟨_, hs, hi F2 H1 σ γ1 _ _ R2 q fun v3 F3 H3 γ3 t R3 e3 o3 q3 => ?_⟩
  split at q3
  · rename_i p1 ds1 i hl1 es
    obtain ⟨a1, hs1, hg1, fa1, vs1, ha1, ra1⟩ := R3.own hl1
    rw [hs] at hs1; cases hs1
    obtain ⟨m, hm, q4⟩ := q3
    have rt := o3.rs R3
    rw [es] at rt
    exact ⟨a, vs1, i, m, rfl, rt.int, ha1, by rw [ra1.length]; exact hm, k.nx F3 _ _ _ (R3.write hl1 hs ha1 (RpAll.of (P_set (Rp.mono e3 rv) m ra1.p))) ((e1.trans e2).trans e3) q4⟩
  · exact q3.elim
theorem s_setI (j : Nat) {ei : Expr} {te ti : TE} {de di : DE} {p3 : Pos} {o : Str} (he : XE X B e te de) (hi : XE X B ei ti di)
    (hN : X.N[j]? = some o := by rfl) (hv : Vis X.env.scope o := by first | exact Or.inl rfl | exact Or.inr (Or.inl rfl) | exact Or.inr (Or.inr rfl)) (hd : (o == ("__debug__" : Str)) = false := by decide) (hcd : (o == ("__classdict__" : Str)) = false := by decide)
    (ha : ∀ v, assign (.Subscript (.Name o apos) ei p3) X.env v = (do
      let ov ← holding [v] (eval (.Name o apos) X.env)
      let iv ← holding [v, ov] (eval ei X.env)
      standAt p3
      holding [v, ov, iv] (setItem ov iv v)
      release [v, ov, iv] []) := by intro _; rfl)
    (hs : swapsWithSole [.Subscript (.Name o apos) ei p3] e pos.line X.env = pure false := by rfl) (hw : swappedStores [.Subscript (.Name o apos) ei p3] e X.env = pure none := by rfl)
    (h1 : (assignEach [.Subscript (.Name o apos) ei p3] X.env).map (·.2) = [assign (.Subscript (.Name o apos) ei p3) X.env] := by rfl) :
    XS X B (.Assign [.Subscript (.Name o apos) ei p3] e pos) (tAsg te (gSub (tVar j) ti rSetL)) (dSetI j de di) :=
  ⟨ps_asg he.pe (pg_sub (pe_var hN hv hd hcd) hi.pe set_list ha) hs hw h1, ss_setI he.se hi.se⟩
end
end DL

set_option Elab.async false
set_option linter.all false
set_option maxRecDepth 100000
set_option maxHeartbeats 2000000
namespace DL
open PySem PySem.Spec PyProof.Rows L2
open Evl (Ex ex_l ex_t)

/-! ### while -/
def dWhile (dt : DT) (db : DS) (d : DEnds) (γ : Env) : Prop := ∃ I : Nat → Env → Prop, (∃ m, I m γ) ∧ ∀ m γ2, I m γ2 → dt γ2 fun b γ3 =>
  (b = true → db { nx := fun γ4 => ∃ m', m' < m ∧ I m' γ4, ct := fun γ4 => ∃ m', m' < m ∧ I m' γ4, bk := d.nx, rt := d.rt } γ3) ∧ (b = false → d.nx γ3)
theorem s_while {X : Cx} {B : Bs} {c : Expr} {body : List Stmt} {pos : Pos} {tc : TT} {dc : DT} {tb : TS} {db : DS} (hp : PassesOwn (model X.prog X.w) X.A X.env X.xe) (hc : XT X B c tc dc) (hb : XSs X B body tb db) : XS X B (.While c body [] pos) (tWhile tc tb) (dWhile dc db) := ⟨ps_while hp hc.pt hb.ps, fun F H σ γ E d R ⟨I, ⟨m0, i0⟩, hI⟩ k => by
  refine ⟨fun m σ' H' => ∃ F' γ', Rep X.K B F' H' σ' γ' ∧ Ex F F' ∧ I m γ', ⟨m0, F, γ, R, Evl.Ex.refl F, i0⟩, fun m σ' H' ⟨F1, γ1, R1, e1, i1⟩ => ?_⟩
  refine hc.st F1 H' σ' γ1 _ _ R1 (hI m γ1 i1) fun b F2 H2 γ2 R2 e2 q => ?_
  cases b with
  | true =>
    refine ⟨fun σ3 H3 => ∃ m', m' < m ∧ ∃ F' γ', Rep X.K B F' H3 σ3 γ' ∧ Ex F F' ∧ I m' γ', fun σ3 H3 h => h, ?_⟩
    refine hb.ss F2 H2 σ' γ2 _ _ R2 (q.1 rfl) ⟨fun F3 H3 σ3 γ3 R3 e3 ⟨m', hm, i3⟩ => ⟨m', hm, F3, γ3, R3, (e1.trans e2).trans e3, i3⟩, (k.mono (e1.trans e2)).rt, fun F3 H3 σ3 γ3 R3 e3 h => k.nx F3 H3 σ3 γ3 R3 ((e1.trans e2).trans e3) h,
      fun F3 H3 σ3 γ3 R3 e3 ⟨m', hm, i3⟩ => ⟨m', hm, F3, γ3, R3, (e1.trans e2).trans e3, i3⟩⟩
  | false => exact k.nx F2 H2 σ' γ2 R2 (e1.trans e2) (q.2 rfl)⟩

/-! ### what is walked -/
abbrev DI := Env → (Nat → (Nat → D → Prop) → Env → Prop) → Prop
theorem Rp.zz {K : PySem.W.Frag} {B : Bs} {z : Addr → Prop} {F : Hp} {v : V} {d : D} (hz : B.z = z) (h : Rp ⟨K, z⟩ F v d) : Rp (B.kz K) F v d := by
  unfold Bs.kz
  rw [hz]
  exact h
structure JOk (K : PySem.W.Frag) (z : Addr → Prop) (F0 : Hp) (J : It) (n : Nat) (y : Nat → D → Prop) : Prop where
  go : ∀ (B : Bs) (F H : Hp) (σ : L2.St) (γ : Env) (i : Nat), Rep K B F H σ γ → Ex F0 F → i < n → J.go i H
  yl : ∀ (B : Bs) (F H : Hp) (σ : L2.St) (γ : Env) (i : Nat) (x : V) (H' : Hp), Rep K B F H σ γ → Ex F0 F → i < n → J.yld i H x H' → B.z = z → ∃ F' d, Rep K B F' H' σ γ ∧ Ex F F' ∧ Rp (B.kz K) F' x d ∧ y i d
  st : ∀ (B : Bs) (F H : Hp) (σ : L2.St) (γ : Env) (i : Nat), Rep K B F H σ γ → Ex F0 F → n ≤ i → J.stop i H
def SI (K : PySem.W.Frag) (B : Bs) (wi : TI) (di : DI) : Prop := ∀ (F H : Hp) (σ : L2.St) (γ : Env) (R : It → Hp → Prop) (r : Nat → (Nat → D → Prop) → Env → Prop), Rep K B F H σ γ → di γ r →
  (∀ J F' H' γ' n y, Rep K B F' H' σ γ' → Ex F F' → JOk K B.z F' J n y → r n y γ' → R J H') → wi σ H R
structure XI (X : Cx) (B : Bs) (tg iter : Expr) (wi : TI) (di : DI) : Prop where
  pi : PI X tg iter wi
  si : SI X.K B wi di
/-- for: I, what holds between the turns -/
def dFor (di : DI) (dg : DG) (db : DS) (d : DEnds) (γ : Env) : Prop := di γ fun n y γ1 => ∃ I : Nat → Env → Prop, I 0 γ1 ∧
  (∀ i γ2, i < n → I i γ2 → ∀ x, y i x → dg x γ2 fun γ3 => db { nx := I (i + 1), ct := I (i + 1), bk := d.nx, rt := d.rt } γ3) ∧ ∀ γ2, I n γ2 → d.nx γ2
theorem s_for {X : Cx} {B : Bs} {tg iter : Expr} {body : List Stmt} {pos : Pos} {wi : TI} {di : DI} {g : TG} {dg : DG} {tb : TS} {db : DS} {ix : List Nat} (hp : PassesOwn (model X.prog X.w) X.A X.env X.xe) (hc : X.calm = true) (hi : XI X B tg iter wi di) (hg : XG X B tg g dg ix) (hb : XSs X B body tb db)
    (hs : ∀ x, foldedSetIterable iter X.env x = pure x := by intro _; rfl) : XS X B (.For tg iter body [] pos) (tFor wi g tb) (dFor di dg db) := ⟨ps_for hp hc hi.pi hg.pg hb.ps hs, fun F H σ γ E d R h k => by
  refine hi.si F H σ γ _ _ R h fun J F1 H1 γ1 n y R1 e1 jo ⟨I, i0, it, ie⟩ => ?_
  refine ⟨fun i m σ' H' => m = n - i ∧ i ≤ n ∧ ∃ F' γ', Rep X.K B F' H' σ' γ' ∧ Ex F1 F' ∧ I i γ', ⟨n, by omega, by omega, F1, γ1, R1, Evl.Ex.refl F1, i0⟩, fun i m σ' H' ⟨hm, hn, F2, γ2, R2, e2, i2⟩ => ?_⟩
  by_cases hlt : i < n
  · refine .inr ⟨jo.go B F2 H' σ' γ2 i R2 e2 hlt, fun σ3 H3 => ∃ F' γ', Rep X.K B F' H3 σ3 γ' ∧ Ex F1 F' ∧ I (i + 1) γ', fun σ3 H3 q => ⟨n - (i + 1), by omega, rfl, by omega, q⟩, fun x H3 hy => ?_⟩
    obtain ⟨F3, dd, R3, e3, rx, yx⟩ := jo.yl B F2 H' σ' γ2 i x H3 R2 e2 hlt hy rfl
    refine hg.sg F3 H3 σ' γ2 x dd _ _ R3 rx (it i γ2 hlt i2 dd yx) fun σ4 γ4 R4 _ h4 => ?_
    exact hb.ss F3 H3 σ4 γ4 _ _ R4 h4 ⟨fun F5 H5 σ5 γ5 R5 e5 i5 => ⟨F5, γ5, R5, (e2.trans e3).trans e5, i5⟩, (k.mono ((e1.trans e2).trans e3)).rt, fun F5 H5 σ5 γ5 R5 e5 q => k.nx F5 H5 σ5 γ5 R5 (((e1.trans e2).trans e3).trans e5) q,
      fun F5 H5 σ5 γ5 R5 e5 i5 => ⟨F5, γ5, R5, (e2.trans e3).trans e5, i5⟩⟩
  · obtain rfl : i = n := by omega
    exact .inl ⟨jo.st B F2 H' σ' γ2 i R2 e2 (Nat.le_refl _), k.nx F2 H' σ' γ2 R2 (e1.trans e2) (ie γ2 i2)⟩⟩

/-! ### lists, tuples, ranges, zip, enumerate, reversed -/
section
variable {K : PySem.W.Frag} {B : Bs}
theorem sq_inj_lst {F H : Hp} {a : Addr} {vs : List V} (e : Ex F H) (h : F a = some (.lst vs)) : SqL K H a vs := Evl.sq_of (e _ _ h)
def dIL (de : DE) (γ : Env) (r : Nat → (Nat → D → Prop) → Env → Prop) : Prop := de γ fun s γ1 => s.kept ∧ match s.data with
  | .lst ds => r ds.length (fun i d => ds[i]? = some d) γ1
  | .scr ns => r ns.length (fun i d => ∃ n, ns[i]? = some n ∧ d = .int n) γ1
  | _ => False
theorem RsOk.kp {B : Bs} {F H : Hp} {σ : L2.St} {γ : Env} {v : V} {s : RS} (h : RsOk K B F H σ γ v s.fz) (hk : s.kept) : Rp (B.kz K) F v s.data := by
  cases s with
  | val d => exact h
  | new c => exact h
  | own j c => exact hk.elim
theorem jo_list {F0 : Hp} {a : Addr} {vs : List V} {ds : List D} (h : SqL K F0 a vs) {z : Addr → Prop} (r : RpAll ⟨K, z⟩ F0 vs ds) : JOk K z F0 (Itl K a) ds.length (fun i d => ds[i]? = some d) where
  go := fun B F H σ γ i R e hi => by
    obtain ⟨x, hx⟩ : ∃ x, vs[i]? = some x := ⟨vs[i]'(by rw [r.length]; exact hi), List.getElem?_eq_getElem _⟩
    exact ⟨vs, x, ex_l (e.trans R.fh) h, hx⟩
  yl := fun B F H σ γ i x H' R e hi ⟨hH, hy⟩ hz => by
    subst hH
    have hv := hy vs (ex_l (e.trans R.fh) h)
    obtain ⟨d, hd, rd⟩ := P_getL r.p hv
    exact ⟨F, d, R, Evl.Ex.refl F, (rd.mono e).zz hz, hd⟩
  st := fun B F H σ γ i R e hi => ⟨vs, ex_l (e.trans R.fh) h, by rw [r.length]; exact hi⟩
theorem si_list {te : TE} {de : DE} (he : SE K B te de) : SI K B (iList K te) (dIL de) := fun F H σ γ W r R hq k => by
  refine he F H σ γ _ _ R hq fun x F1 H1 γ1 s R1 e1 o1 ⟨hk, h1⟩ => ?_
  obtain ⟨F2, R2, e2, o2⟩ := o1.fz R1
  have rp := o2.kp hk
  split at h1
  · rename_i ds es
    rw [es] at rp
    cases rp with
    | lst ha ra => exact ⟨_, rfl, ⟨_, Evl.sq_of (R2.fh _ _ ha)⟩, k _ F2 H1 γ1 _ _ R2 (e1.trans e2) (jo_list (Evl.sq_of ha) ra) h1⟩
  · rename_i ns es
    rw [es] at rp
    cases rp with
    | scr ha =>
      refine ⟨_, rfl, ⟨_, ex_l R2.fh ha⟩, k _ F2 H1 γ1 _ _ R2 (e1.trans e2) ?_ h1⟩
      have j := jo_list (z := B.z) ha (ints_rp ns)
      rw [List.length_map] at j
      refine ⟨j.go, fun B F H σ γ i x H' R e hi hy hz => ?_, j.st⟩
      obtain ⟨F', d, q1, q2, q3, q4⟩ := j.yl B F H σ γ i x H' R e hi hy hz
      rw [List.getElem?_map] at q4
      cases hn : ns[i]? with
      | none => rw [hn] at q4; cases q4
      | some n => rw [hn] at q4; exact ⟨F', d, q1, q2, q3, n, rfl, (Option.some.inj q4).symm⟩
  · exact h1.elim
def dIT (de : DE) (γ : Env) (r : Nat → (Nat → D → Prop) → Env → Prop) : Prop := de γ fun s γ1 => s.kept ∧ match s.data with
  | .tup ds => r ds.length (fun i d => ds[i]? = some d) γ1
  | _ => False
theorem jo_tup {F0 : Hp} {a : Addr} {vs : List V} {ds : List D} (h : SqT K F0 a vs) {z : Addr → Prop} (r : RpAll ⟨K, z⟩ F0 vs ds) : JOk K z F0 (Itt K a) ds.length (fun i d => ds[i]? = some d) where
  go := fun B F H σ γ i R e hi => by
    obtain ⟨x, hx⟩ : ∃ x, vs[i]? = some x := ⟨vs[i]'(by rw [r.length]; exact hi), List.getElem?_eq_getElem _⟩
    exact ⟨vs, x, ex_t (e.trans R.fh) h, hx⟩
  yl := fun B F H σ γ i x H' R e hi ⟨hH, hy⟩ hz => by
    subst hH
    have hv := hy vs (ex_t (e.trans R.fh) h)
    obtain ⟨d, hd, rd⟩ := P_getL r.p hv
    exact ⟨F, d, R, Evl.Ex.refl F, (rd.mono e).zz hz, hd⟩
  st := fun B F H σ γ i R e hi => ⟨vs, ex_t (e.trans R.fh) h, by rw [r.length]; exact hi⟩
theorem si_tup {te : TE} {de : DE} (he : SE K B te de) : SI K B (iTup K te) (dIT de) := fun F H σ γ W r R hq k => by
  refine he F H σ γ _ _ R hq fun x F1 H1 γ1 s R1 e1 o1 ⟨hk, h1⟩ => ?_
  obtain ⟨F2, R2, e2, o2⟩ := o1.fz R1
  have rp := o2.kp hk
  split at h1
  · rename_i ds es
    rw [es] at rp
    cases rp with
    | tup ha ra => exact ⟨_, rfl, ⟨_, ex_t R2.fh ha⟩, k _ F2 H1 γ1 _ _ R2 (e1.trans e2) (jo_tup ha ra) h1⟩
  · exact h1.elim
theorem jo_range {F0 : Hp} {lo : Int} {n : Nat} {z : Addr → Prop} : JOk K z F0 (Itr lo n) n (fun i d => d = .int (lo + i)) where
  go := fun B F H σ γ i R e hi => hi
  yl := fun B F H σ γ i x H' R e hi ⟨hH, hy⟩ hz => by
    subst hH; subst hy
    exact ⟨F, _, R, Evl.Ex.refl F, .int _, rfl⟩
  st := fun B F H σ γ i R e hi => hi
theorem ints1 {B : Bs} {F H : Hp} {σ : L2.St} {γ : Env} (R : Rep K B F H σ γ) {vs : List V} {rs : List RS} {a : Int} (o : Paired (RsOk K B F H σ γ) vs rs) (h : rs.map RS.data = [.int a]) : vs = [.int a] := by
  have q := rs_all R o
  rw [h] at q
  obtain ⟨x, rfl, r⟩ := one_rs q
  rw [r.int]
def dIR1 (da : DA) (γ : Env) (r : Nat → (Nat → D → Prop) → Env → Prop) : Prop := da γ fun rs γ1 => match rs.map RS.data with
  | [.int n] => -1000000000000 ≤ n ∧ n ≤ 1000000000000 ∧ r n.toNat (fun i d => d = .int i) γ1
  | _ => False
theorem si_range1 {ta : TA} {da : DA} (h : SA K B ta da) : SI K B (iRng1 ta) (dIR1 da) := fun F H σ γ W r R hq k => by
  refine h F H σ γ _ _ R hq fun vs F1 H1 γ1 rs R1 e1 o1 h1 => ?_
  split at h1
  · rename_i n es
    obtain ⟨h0, h2, h3⟩ := h1
    refine ⟨n, ints1 R1 o1 es, by omega, by omega, k _ F1 H1 γ1 _ _ R1 e1 ⟨(jo_range (z := B.z)).go, fun B F H σ γ i x H' R e hi hy hz => ?_, (jo_range (z := B.z)).st⟩ h3⟩
    obtain ⟨F', d, q1, q2, q3, q4⟩ := (jo_range (z := _)).yl B F H σ γ i x H' R e hi hy hz
    exact ⟨F', d, q1, q2, q3, by rw [q4, Int.zero_add]⟩
  · exact h1.elim
theorem ints2 {B : Bs} {F H : Hp} {σ : L2.St} {γ : Env} (R : Rep K B F H σ γ) {vs : List V} {rs : List RS} {a b : Int} (o : Paired (RsOk K B F H σ γ) vs rs) (h : rs.map RS.data = [.int a, .int b]) : vs = [.int a, .int b] := by
  have q := rs_all R o
  rw [h] at q
  obtain ⟨x, y, rfl, r, r'⟩ := two_rs q
  rw [r.int, r'.int]
def dIR2 (da : DA) (γ : Env) (r : Nat → (Nat → D → Prop) → Env → Prop) : Prop := da γ fun rs γ1 => match rs.map RS.data with
  | [.int m, .int n] => -1000000000000 ≤ m ∧ m ≤ 1000000000000 ∧ -1000000000000 ≤ n ∧ n ≤ 1000000000000 ∧ r (n - m).toNat (fun i d => d = .int (m + i)) γ1
  | _ => False
theorem si_range2 {ta : TA} {da : DA} (h : SA K B ta da) : SI K B (iRng2 ta) (dIR2 da) := fun F H σ γ W r R hq k => by
  refine h F H σ γ _ _ R hq fun vs F1 H1 γ1 rs R1 e1 o1 h1 => ?_
  split at h1
  · rename_i m n es
    obtain ⟨h0, h2, h3, h4, h5⟩ := h1
    exact ⟨m, n, ints2 R1 o1 es, ⟨by omega, by omega, by omega, by omega⟩, k _ F1 H1 γ1 _ _ R1 e1 jo_range h5⟩
  · exact h1.elim
/-- range(lo, hi, c), c a written step of 1 to 1000 -/
def dIR3 (da : DA) (γ : Env) (r : Nat → (Nat → D → Prop) → Env → Prop) : Prop := da γ fun rs γ1 => match rs.map RS.data with
  | [.int m, .int n, .int c] => -1000000000000 ≤ m ∧ m ≤ 1000000000000 ∧ -1000000000000 ≤ n ∧ n ≤ 1000000000000 ∧ ∃ t, RgC m n c t ∧ r t (fun i d => d = .int (m + i * c)) γ1
  | _ => False
theorem ints3 {B : Bs} {F H : Hp} {σ : L2.St} {γ : Env} (R : Rep K B F H σ γ) {vs : List V} {rs : List RS} {a b c : Int} (o : Paired (RsOk K B F H σ γ) vs rs) (h : rs.map RS.data = [.int a, .int b, .int c]) : vs = [.int a, .int b, .int c] := by
  have q := rs_all R o
  rw [h] at q
  cases q with
  | cons r t =>
    obtain ⟨x, y, rfl, r', r''⟩ := two_rs t
    rw [r.int, r'.int, r''.int]
theorem jo_rangeC {F0 : Hp} {lo c : Int} {n : Nat} {z : Addr → Prop} : JOk K z F0 (Itc lo c n) n (fun i d => d = .int (lo + i * c)) where
  go := fun B F H σ γ i R e hi => hi
  yl := fun B F H σ γ i x H' R e hi ⟨hH, hy⟩ hz => by
    subst hH; subst hy
    exact ⟨F, _, R, Evl.Ex.refl F, .int _, rfl⟩
  st := fun B F H σ γ i R e hi => hi
theorem si_range3 {ta : TA} {da : DA} (h : SA K B ta da) : SI K B (iRng3 ta) (dIR3 da) := fun F H σ γ W r R hq k => by
  refine h F H σ γ _ _ R hq fun vs F1 H1 γ1 rs R1 e1 o1 h1 => ?_
  split at h1
  · rename_i m n c es
    obtain ⟨_, _, _, _, t, h4, h5⟩ := h1
    exact ⟨m, n, c, t, ints3 R1 o1 es, h4, k _ F1 H1 γ1 _ _ R1 e1 jo_rangeC h5⟩
  · exact h1.elim
theorem lst_of {B : Bs} {F H : Hp} {σ : L2.St} {γ : Env} {v : V} {r : RS} (o : RsOk K B F H σ γ v r) (hv : allV [r]) {ds : List D} (h : r.data = .lst ds) : ∃ a vs, v = .ref a ∧ F a = some (.lst vs) ∧ RpAll (B.kz K) F vs ds := by
  cases r with
  | val d =>
    have o' : Rp (B.kz K) F v d := o
    have h' : d = .lst ds := h
    rw [h'] at o'
    cases o' with
    | lst ha ra => exact ⟨_, _, rfl, ha, ra⟩
  | own j c => exact hv.elim
  | new c => exact hv.elim
def dIZ (da : DA) (γ : Env) (r : Nat → (Nat → D → Prop) → Env → Prop) : Prop := da γ fun rs γ1 => allV rs ∧ match rs.map RS.data with
  | [.lst xs, .lst ys] => r (min xs.length ys.length) (fun i d => ∃ x y, xs[i]? = some x ∧ ys[i]? = some y ∧ d = .tup [x, y]) γ1
  | _ => False
theorem si_zip {ta : TA} {da : DA} (h : SA K B ta da) : SI K B (iZip K ta) (dIZ da) := fun F H σ γ W r R hq k => by
  refine h F H σ γ _ _ R hq fun vs F1 H1 γ1 rs R1 e1 o1 ⟨hv, h1⟩ => ?_
  split at h1
  · rename_i xs ys es
    have ra := allV_rp o1 hv
    rw [es] at ra
    cases ra with
    | cons r1 t => cases t with
      | cons r2 t => cases t with
        | nil =>
          cases r1 with
          | @lst a va _ ha ra => cases r2 with
            | @lst b vb _ hb rb =>
              refine ⟨_, _, _, _, rfl, Evl.sq_of (R1.fh _ _ ha), Evl.sq_of (R1.fh _ _ hb), k _ F1 H1 γ1 _ _ R1 e1 ⟨fun B F H σ γ i R e hi => ?_, fun B F H σ γ i x H' R e hi ⟨T, x1, x2, hx, hT, hH, f1, f2⟩ hz => ?_, fun B F H σ γ i R e hi => ?_⟩ h1⟩
              · have l1 : i < va.length := by rw [ra.length]; omega
                have l2 : i < vb.length := by rw [rb.length]; omega
                exact ⟨_, _, _, _, sq_inj_lst (e.trans R.fh) ha, sq_inj_lst (e.trans R.fh) hb, List.getElem?_eq_getElem l1, List.getElem?_eq_getElem l2⟩
              · subst hx; subst hH
                obtain ⟨d1, q1, s1⟩ := P_getL ra.p (f1 va (sq_inj_lst (e.trans R.fh) ha))
                obtain ⟨d2, q2, s2⟩ := P_getL rb.p (f2 vb (sq_inj_lst (e.trans R.fh) hb))
                obtain ⟨R', ex, rp⟩ := R.newT hT (.cons ((s1.mono e).zz hz) (.cons ((s2.mono e).zz hz) .nil))
                exact ⟨_, _, R', ex, rp, d1, d2, q1, q2, rfl⟩
              · refine ⟨_, _, sq_inj_lst (e.trans R.fh) ha, sq_inj_lst (e.trans R.fh) hb, ?_⟩
                rw [ra.length, rb.length]
                omega
  · exact h1.elim
def dIE (da : DA) (γ : Env) (r : Nat → (Nat → D → Prop) → Env → Prop) : Prop := da γ fun rs γ1 => allV rs ∧ match rs.map RS.data with
  | [.lst xs] => r xs.length (fun i d => ∃ x, xs[i]? = some x ∧ d = .tup [.int i, x]) γ1
  | _ => False
theorem si_enum {ta : TA} {da : DA} (h : SA K B ta da) : SI K B (iEnum K ta) (dIE da) := fun F H σ γ W r R hq k => by
  refine h F H σ γ _ _ R hq fun vs F1 H1 γ1 rs R1 e1 o1 ⟨hv, h1⟩ => ?_
  split at h1
  · rename_i xs es
    have ra := allV_rp o1 hv
    rw [es] at ra
    cases ra with
    | cons r1 t => cases t with
      | nil =>
        cases r1 with
        | @lst a va _ ha ra =>
          refine ⟨_, _, rfl, Evl.sq_of (R1.fh _ _ ha), k _ F1 H1 γ1 _ _ R1 e1 ⟨fun B F H σ γ i R e hi => ?_, fun B F H σ γ i x H' R e hi ⟨T, x1, hx, hT, hH, f1⟩ hz => ?_, fun B F H σ γ i R e hi => ?_⟩ h1⟩
          · have l1 : i < va.length := by rw [ra.length]; omega
            exact ⟨_, _, sq_inj_lst (e.trans R.fh) ha, List.getElem?_eq_getElem l1⟩
          · subst hx; subst hH
            obtain ⟨d1, q1, s1⟩ := P_getL ra.p (f1 va (sq_inj_lst (e.trans R.fh) ha))
            obtain ⟨R', ex, rp⟩ := R.newT hT (.cons (.int (i : Nat)) (.cons ((s1.mono e).zz hz) .nil))
            exact ⟨_, _, R', ex, rp, d1, q1, rfl⟩
          · exact ⟨_, sq_inj_lst (e.trans R.fh) ha, by rw [ra.length]; omega⟩
  · exact h1.elim
def dIV (da : DA) (γ : Env) (r : Nat → (Nat → D → Prop) → Env → Prop) : Prop := da γ fun rs γ1 => allV rs ∧ match rs.map RS.data with
  | [.lst xs] => r xs.length (fun i d => xs[xs.length - 1 - i]? = some d) γ1
  | _ => False
theorem si_rev {ta : TA} {da : DA} (h : SA K B ta da) : SI K B (iRev K ta) (dIV da) := fun F H σ γ W r R hq k => by
  refine h F H σ γ _ _ R hq fun vs F1 H1 γ1 rs R1 e1 o1 ⟨hv, h1⟩ => ?_
  split at h1
  · rename_i xs es
    have ra := allV_rp o1 hv
    rw [es] at ra
    cases ra with
    | cons r1 t => cases t with
      | nil =>
        cases r1 with
        | @lst a va _ ha ra =>
          have le := ra.length
          refine ⟨_, _, rfl, Evl.sq_of (R1.fh _ _ ha), k _ F1 H1 γ1 xs.length _ R1 e1 ⟨fun B F H σ γ i R e hi => ?_, fun B F H σ γ i x H' R e hi ⟨hH, f1⟩ hz => ?_, fun B F H σ γ i R e hi => ?_⟩ h1⟩
          · have l1 : va.length - 1 - i < va.length := by omega
            exact ⟨by omega, _, _, sq_inj_lst (e.trans R.fh) ha, List.getElem?_eq_getElem l1⟩
          · subst hH
            obtain ⟨d1, q1, s1⟩ := P_getL ra.p (f1 va (sq_inj_lst (e.trans R.fh) ha))
            rw [le] at q1
            exact ⟨F, d1, R, Evl.Ex.refl F, (s1.mono e).zz hz, q1⟩
          · show va.length ≤ i
            omega
  · exact h1.elim
end
section
variable {X : Cx} {B : Bs} {tg : Expr} {a b c e : Expr} {te : TE} {de : DE} {ta : TA} {da : DA} {p pos : Pos}
theorem i_list (h : XE X B e te de) : XI X B tg e (iList X.K te) (dIL de) := ⟨pi_list h.pe, si_list h.se⟩
theorem i_tup (h : XE X B e te de) : XI X B tg e (iTup X.K te) (dIT de) := ⟨pi_tup h.pe, si_tup h.se⟩
theorem i_r1 (hm : X.mg "range" = none) (h : XA X B [a] ta da) (hg : Gl X "range" := by rfl) (hs : starEach [a] X.env = [(false, eval a X.env)] := by rfl) : XI X B tg (.Call (.Name "range" p) [a] [] pos) (iRng1 ta) (dIR1 da) := ⟨pi_range1 hg hm h.pa hs, si_range1 h.sa⟩
theorem i_r2 (hm : X.mg "range" = none) (h : XA X B [a, b] ta da) (hg : Gl X "range" := by rfl) (hs : starEach [a, b] X.env = [(false, eval a X.env), (false, eval b X.env)] := by rfl) (hs2 : starEach [b] X.env = [(false, eval b X.env)] := by rfl) : XI X B tg (.Call (.Name "range" p) [a, b] [] pos) (iRng2 ta) (dIR2 da) := ⟨pi_range2 hg hm h.pa hs hs2, si_range2 h.sa⟩
theorem i_r3 (hm : X.mg "range" = none) (h : XA X B [a, b, c] ta da) (hg : Gl X "range" := by rfl) (hs : starEach [a, b, c] X.env = (false, eval a X.env) :: starEach [b, c] X.env := by rfl) (hpl : (backTo pos (starEach [b, c] X.env)).any (·.1) = false := by rfl) : XI X B tg (.Call (.Name "range" p) [a, b, c] [] pos) (iRng3 ta) (dIR3 da) := ⟨pi_range3 hg hm h.pa hs hpl, si_range3 h.sa⟩
theorem i_zip {elts : List Expr} {kk : Nat} {tpos : Pos} (hm : X.mg "zip" = none) (h : XA X B [a, b] ta da) (hg : Gl X "zip" := by rfl) (hs : starEach [a, b] X.env = (false, eval a X.env) :: starEach [b] X.env := by rfl) (hpl : (backTo pos (starEach [b] X.env)).any (·.1) = false := by rfl) : XI X B (.Tuple elts kk tpos) (.Call (.Name "zip" p) [a, b] [] pos) (iZip X.K ta) (dIZ da) := ⟨pi_zip hg hm h.pa hs hpl, si_zip h.sa⟩
theorem i_enum {elts : List Expr} {kk : Nat} {tpos : Pos} (hm : X.mg "enumerate" = none) (h : XA X B [a] ta da) (hg : Gl X "enumerate" := by rfl) (hs : starEach [a] X.env = [(false, eval a X.env)] := by rfl) : XI X B (.Tuple elts kk tpos) (.Call (.Name "enumerate" p) [a] [] pos) (iEnum X.K ta) (dIE da) := ⟨pi_enum hg hm h.pa hs, si_enum h.sa⟩
theorem i_rev (hm : X.mg "reversed" = none) (h : XA X B [a] ta da) (hg : Gl X "reversed" := by rfl) (hs : starEach [a] X.env = [(false, eval a X.env)] := by rfl) : XI X B tg (.Call (.Name "reversed" p) [a] [] pos) (iRev X.K ta) (dIV da) := ⟨pi_reversed hg hm h.pa hs, si_rev h.sa⟩
end
end DL

set_option Elab.async false
set_option linter.all false
set_option maxRecDepth 100000
set_option maxHeartbeats 2000000
namespace DL
open PySem PySem.Spec PyProof.Rows L2
open Evl (Ex ex_l ex_t)

/-! ### another base -/
def ownsOf (σ : L2.St) (γ : Env) (H : Hp) : List Addr := (List.range σ.length).flatMap fun (i : Nat) => match (σ[i]? : Option (Option V)), (γ[i]? : Option Sx) with
  | some (some (V.ref a)), some (Sx.own _ _) => a :: (match H a with | some (.ins _ dx _) => [dx] | _ => [])
  | _, _ => []
theorem mem_owns {σ : L2.St} {γ : Env} {H : Hp} {b : Addr} : b ∈ ownsOf σ γ H ↔ ∃ (i : Nat) (a : Addr) (p : Option Nat) (c : OC), σ[i]? = some (some (.ref a)) ∧ γ[i]? = some (.own p c) ∧ (b = a ∨ ∃ C fs, H a = some (.ins C b fs)) := by
  unfold ownsOf
  rw [List.mem_flatMap]
  constructor
  · rintro ⟨i, hi, h⟩
    split at h
    · rename_i a p c hs hg
      rcases List.mem_cons.mp h with e | h
      · exact ⟨i, a, p, c, hs, hg, .inl e⟩
      · split at h
        · rename_i C dx fs hh
          have e : b = dx := List.mem_singleton.mp h
          subst e
          exact ⟨i, a, p, c, hs, hg, .inr ⟨C, fs, hh⟩⟩
        · cases h
    · cases h
  · rintro ⟨i, a, p, c, hs, hg, h⟩
    refine ⟨i, List.mem_range.mpr (List.getElem?_eq_some_iff.mp hs).1, ?_⟩
    rw [hs, hg]
    rcases h with rfl | ⟨C, fs, hh⟩
    · exact List.mem_cons_self
    · refine List.mem_cons_of_mem _ ?_
      rw [hh]
      exact List.mem_singleton.mpr rfl
def Bs.re (B : Bs) (F H : Hp) (σ : L2.St) (γ : Env) : Bs := { B with F := F, H := H, m := ownsOf σ γ H }
section
variable {K : PySem.W.Frag} {B : Bs} {F F' H H' : Hp} {σ σ' : L2.St} {γ γ' : Env}
theorem Rep.re (R : Rep K B F H σ γ) : Rep K (B.re F H σ γ) F H σ γ := by
  refine ⟨R.fh, R.len, fun i s t hs hg => ?_, R.nd, fun b o e => ⟨fun _ => e, o, e⟩, Evl.Ex.refl F, fun b o _ _ => rfl, R.b4, fun i a p c hg hs => .inl ((mem_owns (σ := σ) (γ := γ) (H := H)).mpr ⟨i, a, p, c, hs, hg, .inl rfl⟩), R.bN, fun a o e => ⟨o, e, .refl o⟩⟩
  have q := R.sl i s t hs hg
  cases t with
  | no => trivial
  | val d => exact q
  | own p c =>
    obtain ⟨a, e, f, ok⟩ := q
    subst e
    refine ⟨a, rfl, f, ?_⟩
    cases c with
    | lst ds => exact ok
    | dct kd => exact ok
    | ins C fs =>
      obtain ⟨dx, fv, h1, h2, h3, h4, h5, h6⟩ := ok
      exact ⟨dx, fv, h1, h2, h3, h4, .inl (mem_owns.mpr ⟨i, a, p, _, hs, hg, .inr ⟨_, fv, h1⟩⟩), h6⟩
/-- what is owned may change, or is new -/
theorem Rep.owns (R : Rep K B F H σ γ) {b : Addr} (h : b ∈ ownsOf σ γ H) : b ∈ B.m ∨ B.H b = none := by
  obtain ⟨i, a, p, c, hs, hg, h⟩ := mem_owns.mp h
  rcases h with rfl | ⟨C, fs, hh⟩
  · exact R.b5 i b p c hg hs
  · obtain ⟨_, ok⟩ := R.ownObj hg hs
    cases c with
    | lst ds => obtain ⟨vs, h1, _⟩ := ok; rw [hh] at h1; cases h1
    | dct ds => obtain ⟨vs, h1, _⟩ := ok; rw [hh] at h1; cases h1
    | ins C fs =>
      obtain ⟨dx, fv, h1, h2, h3, h4, h5, h6⟩ := ok
      rw [hh] at h1
      injection h1 with h1
      injection h1 with _ e _
      rw [e]; exact h5
/-- from a base taken at (F, H): m1 what may have changed since, all of it changeable here or new -/
theorem Rep.comp (R : Rep K B F H σ γ) {B1 : Bs} (hF : B1.F = F) (hH : B1.H = H) (hN : B1.N = B.N) (hz : B1.z = B.z) (hm : ∀ b ∈ B1.m, b ∈ B.m ∨ B.H b = none) (R' : Rep K B1 F' H' σ' γ')
    (h4 : ∀ (i : Nat) a p c, γ'[i]? = some (.own p c) → σ'[i]? = some (some (.ref a)) → (∀ k, p = some k → B.pa k = some a) ∧ (p = none → B.N a = none)) : Rep K B F' H' σ' γ' := by
  have out : ∀ b o, B.H b = some o → b ∉ B.m → b ∉ B1.m := fun b o e n z => by
    rcases hm b z with q | q
    · exact n q
    · rw [e] at q; cases q
  have new : ∀ b, B1.H b = none → B.H b = none := fun b e => by
    cases q : B.H b with
    | none => rfl
    | some o => obtain ⟨_, o', e'⟩ := R.b1 b o q; rw [hH, e'] at e; cases e
  have up : ∀ b, b ∈ B1.m ∨ B1.H b = none → b ∈ B.m ∨ B.H b = none := fun b h => h.elim (hm b) fun e => .inr (new b e)
  refine ⟨R'.fh, R'.len, fun i s t hs hg => ?_, R'.nd, fun b o e => ?_, ?_, fun b o e n => ?_, h4, fun i a p c hg hs => up a (R'.b5 i a p c hg hs), fun b o e => R'.bN b o (by rw [hN]; exact e), fun a o e => let ⟨o1, h1, k1⟩ := R.bd a o e; let ⟨o2, h2, k2⟩ := R'.bd a o1 (by rw [hH]; exact h1); ⟨o2, h2, k1.trans k2⟩⟩
  · have q := R'.sl i s t hs hg
    cases t with
    | no => trivial
    | val d => obtain ⟨v, e, r⟩ := q; exact ⟨v, e, Rp.zz hz.symm r⟩
    | own p c => obtain ⟨a, e, f, ok⟩ := q; exact ⟨a, e, f, ok.base hN.symm hz.symm fun dx _ h => up dx h⟩
  · obtain ⟨x1, o1, x2⟩ := R.b1 b o e
    refine ⟨fun n => ?_, ?_⟩
    · exact (R'.b1 b o (by rw [hH]; exact x1 n)).1 (out b o e n)
    · exact (R'.b1 b o1 (by rw [hH]; exact x2)).2
  · exact R.b2.trans (by have := R'.b2; rw [hF] at this; exact this)
  · have x1 := (R.b1 b o e).1 n
    have x2 := R'.b3 b o (by rw [hH]; exact x1) (out b o e n)
    rw [x2, hF]
    exact R.b3 b o e n
theorem Rep.back (R : Rep K B F H σ γ) (R' : Rep K (B.re F H σ γ) F' H' σ' γ') : Rep K B F' H' σ' γ' := R.comp (B1 := B.re F H σ γ) rfl rfl rfl rfl (fun b h => R.owns h) R' R'.b4
/-- a list that nobody here owns is written -/
theorem Rep.poke (R : Rep K B F H σ γ) {a : Addr} {o o' : HO} (ha : H a = some o) (ho : ∀ x, o ≠ .own x) (fa : F a = none) (bm : a ∈ B.m ∨ B.H a = none) (na : ∀ (i : Nat) p c, γ[i]? = some (.own p c) → σ[i]? ≠ some (some (.ref a))) (hi : Kin o o') : Rep K B F (upd H a o') σ γ := by
  refine ⟨fun b x e => ?_, R.len, fun i s t hs hg => ?_, R.nd, fun b x e => ?_, R.b2, R.b3, R.b4, R.b5, fun b x e => ?_, fun b x e => ?_⟩
  · have n : b ≠ a := fun z => by subst z; rw [fa] at e; cases e
    rw [upd_ne n]; exact R.fh b x e
  · have q := R.sl i s t hs hg
    cases t with
    | no => trivial
    | val d => exact q
    | own q' c =>
      obtain ⟨b, e', f, ok'⟩ := q
      subst e'
      have nb : b ≠ a := fun z => by subst z; exact na i q' c hg hs
      exact ⟨b, rfl, f, ok'.heap (upd_ne nb) fun dx hd => upd_ne fun z => by subst z; rw [ha] at hd; exact ho b (Option.some.inj hd)⟩
  · obtain ⟨x1, o1, x2⟩ := R.b1 b x e
    by_cases hb : b = a
    · subst hb
      rw [upd_same]
      refine ⟨fun n => ?_, _, rfl⟩
      rcases bm with z | z
      · exact absurd z n
      · rw [e] at z; cases z
    · rw [upd_ne hb]; exact ⟨x1, o1, x2⟩
  · obtain ⟨o1, x2⟩ := R.bN b x e
    by_cases hb : b = a
    · subst hb; exact ⟨_, upd_same⟩
    · rw [upd_ne hb]; exact ⟨o1, x2⟩
  · obtain ⟨o1, x2, kn⟩ := R.bd b x e
    by_cases hb : b = a
    · subst hb
      rw [ha] at x2
      cases x2
      exact ⟨_, upd_same, kn.trans hi⟩
    · rw [upd_ne hb]; exact ⟨o1, x2, kn⟩
end

/-! ### comprehensions -/
def wipeG (γ : Env) : List Nat → Env
  | [] => γ
  | v :: vs => put (wipeG γ vs) v .no
def keepV : Sx → Sx
  | .val d => .val d
  | _ => .no
def restore (γ1 γ : Env) : List Nat → Env
  | [] => γ
  | v :: vs => put (restore γ1 γ vs) v (keepV (look γ1 v))
theorem wipe_get (σ : L2.St) (j : Nat) : ∀ vs : List Nat, (wipe σ vs)[j]? = if j ∈ vs ∧ j < σ.length then some none else σ[j]?
  | [] => by simp [wipe]
  | v :: vs => by
    unfold wipe
    by_cases e : v = j
    · subst e
      by_cases hl : v < σ.length
      · rw [List.getElem?_set_self (by rw [wipe_length]; exact hl), if_pos ⟨List.mem_cons_self, hl⟩]
      · rw [List.getElem?_eq_none (by rw [List.length_set, wipe_length]; omega), if_neg fun z => hl z.2, List.getElem?_eq_none (by omega)]
    · rw [List.getElem?_set_ne e, wipe_get σ j vs]
      have : (j ∈ v :: vs) ↔ j ∈ vs := by
        constructor
        · intro h
          rcases List.mem_cons.mp h with z | z
          · exact absurd z.symm e
          · exact z
        · exact List.mem_cons_of_mem _
      simp only [this]
theorem wipe_off {σ σ' : L2.St} {ix vs : List Nat} (h : Off ix (wipe σ vs) σ') (hs : ∀ i ∈ ix, i ∈ vs) : wipe σ' vs = wipe σ vs := by
  refine List.ext_getElem? fun j => ?_
  have hl : σ'.length = σ.length := h.1.trans (wipe_length σ vs)
  rw [wipe_get, wipe_get, hl]
  by_cases hj : j ∈ vs
  · by_cases h2 : j < σ.length
    · rw [if_pos ⟨hj, h2⟩, if_pos ⟨hj, h2⟩]
    · rw [if_neg fun z => h2 z.2, if_neg fun z => h2 z.2, List.getElem?_eq_none (by omega), List.getElem?_eq_none (by omega)]
  · rw [if_neg fun z => hj z.1, if_neg fun z => hj z.1, h.2 j fun z => hj (hs j z), wipe_get, if_neg fun z => hj z.1]
section
variable {K : PySem.W.Frag} {B : Bs} {F F1 H : Hp} {σ : L2.St} {γ γ1 : Env}
theorem Rep.wipe (R : Rep K B F H σ γ) : ∀ vs : List Nat, Rep K B F H (L2.wipe σ vs) (wipeG γ vs)
  | [] => R
  | v :: vs => by
    have R1 := R.wipe vs
    have R2 : Rep K B F H (L2.wipe σ vs) (put (wipeG γ vs) v .no) := R1.told (fun _ _ => trivial) (fun _ _ z => by cases z)
    have key : ∀ {j : Nat} {p : Option Nat} {c : OC} {s : Option V}, (put (wipeG γ vs) v .no)[j]? = some (.own p c) → ((L2.wipe σ vs).set v none)[j]? = some s → (L2.wipe σ vs)[j]? = some s := fun h1 h2 => by
      rcases get_put h1 with ⟨_, e⟩ | ⟨n, _⟩
      · cases e
      · rw [List.getElem?_set_ne (fun z => n z.symm)] at h2; exact h2
    unfold L2.wipe wipeG
    refine ⟨R2.fh, by rw [List.length_set]; exact R2.len, fun j s t hs hg => ?_, fun i j a p c q c' h1 h2 h3 h4 => R2.nd i j a p c q c' h1 h2 (key h1 h3) (key h2 h4), R2.b1, R2.b2, R2.b3, fun j a p c h1 h2 => R2.b4 j a p c h1 (key h1 h2), fun j a p c h1 h2 => R2.b5 j a p c h1 (key h1 h2), R2.bN, R2.bd⟩
    by_cases e : v = j
    · subst e
      rcases get_put hg with ⟨_, e⟩ | ⟨n, _⟩
      · rw [e]; trivial
      · exact absurd rfl n
    · rw [List.getElem?_set_ne e] at hs
      exact R2.sl j s t hs hg
theorem restore_get {γ1 γ : Env} {j : Nat} {s : Sx} : ∀ {vs : List Nat}, (restore γ1 γ vs)[j]? = some s → (j ∈ vs ∧ s = keepV (look γ1 j)) ∨ (j ∉ vs ∧ γ[j]? = some s)
  | [], h => .inr ⟨(fun z => by cases z), h⟩
  | v :: vs, h => by
    unfold restore at h
    rcases get_put h with ⟨rfl, e⟩ | ⟨n, e⟩
    · exact .inl ⟨List.mem_cons_self, e⟩
    · rcases restore_get e with ⟨a, b⟩ | ⟨a, b⟩
      · exact .inl ⟨List.mem_cons_of_mem _ a, b⟩
      · exact .inr ⟨fun z => (List.mem_cons.mp z).elim n a, b⟩
theorem restore_len {γ1 γ : Env} : ∀ vs : List Nat, (restore γ1 γ vs).length = γ.length
  | [] => rfl
  | v :: vs => by unfold restore; rw [put_len, restore_len vs]
theorem Rep.rest {H0 : Hp} {B0 : Bs} (R0 : Rep K B0 F1 H0 σ γ1) {vs : List Nat} (R : Rep K B F H (L2.wipe σ vs) γ) (e : Ex F1 F) (hz : B.z = B0.z) : Rep K B F H σ (restore γ1 γ vs) := by
  have key : ∀ {j : Nat} {p : Option Nat} {c : OC} {s : Option V}, (restore γ1 γ vs)[j]? = some (.own p c) → σ[j]? = some s → γ[j]? = some (.own p c) ∧ (L2.wipe σ vs)[j]? = some s := fun {j p c s} h1 h2 => by
    rcases restore_get h1 with ⟨_, z⟩ | ⟨n, z⟩
    · unfold keepV at z
      split at z <;> cases z
    · exact ⟨z, by rw [wipe_get, if_neg fun q => n q.1]; exact h2⟩
  refine ⟨R.fh, by rw [restore_len, ← R.len, wipe_length], fun j s t hs hg => ?_, fun i j a p c q c' h1 h2 h3 h4 => R.nd i j a p c q c' (key h1 h3).1 (key h2 h4).1 (key h1 h3).2 (key h2 h4).2, R.b1, R.b2, R.b3, fun j a p c h1 h2 => R.b4 j a p c (key h1 h2).1 (key h1 h2).2, fun j a p c h1 h2 => R.b5 j a p c (key h1 h2).1 (key h1 h2).2, R.bN, R.bd⟩
  rcases restore_get hg with ⟨_, z⟩ | ⟨n, z⟩
  · unfold keepV at z
    split at z
    · rename_i d hl
      subst z
      obtain ⟨v, h1, r⟩ := R0.val hl
      rw [hs] at h1
      cases h1
      exact ⟨v, rfl, (r.mono e).zz hz⟩
    · subst z; trivial
  · exact R.sl j s t (by rw [wipe_get, if_neg fun q => n q.1]; exact hs) z
end
/-- [elt for target in iter if ..]: I by the turn, what is made so far and the names -/
def dLc (di : DI) (dg : DG) (dt : DT) (de : DE) (vs : List Nat) (γ : Env) (q : RS → Env → Prop) : Prop := di γ fun n y γ1 => n ≤ 1000000 ∧ ∃ I : Nat → List D → Env → Prop, I 0 [] (wipeG γ1 vs) ∧
  (∀ i acc γ2, i < n → I i acc γ2 → ∀ x, y i x → dg x γ2 fun γ3 => dt γ3 fun b γ4 => (b = true → de γ4 fun s γ5 => s.kept ∧ I (i + 1) (acc ++ [s.data]) (wipeG γ5 vs)) ∧ (b = false → I (i + 1) acc (wipeG γ4 vs))) ∧
  ∀ acc γ2, I n acc γ2 → q (.new (.lst acc)) (restore γ1 γ2 vs)
theorem se_lc {K : PySem.W.Frag} {B : Bs} {wi : TI} {di : DI} {g : TG} {dg : DG} {tt : TT} {dt : DT} {te : TE} {de : DE} {vs ix : List Nat} (hi : SI K B wi di) (hg : ∀ B, SG K B g dg ix) (ht : ∀ B, ST K B tt dt) (he : ∀ B, SE K B te de) (hs : ∀ i ∈ ix, i ∈ vs) : SE K B (tLc wi g tt te vs) (dLc di dg dt de vs) := fun F H σ γ Q q R hq k => by
  refine hi F H σ γ _ _ R hq fun J F1 H1 γ1 n y R1 e1 jo ⟨hn, I, i0, it, ie⟩ => ?_
  intro L hL
  obtain ⟨f1, f2, f3, f4⟩ := R1.fresh hL
  -- the state between two turns
  refine ⟨fun i m H' => m = n - i ∧ i ≤ n ∧ ∃ F' γ' acc va, Rep K B F' H' (wipe σ vs) γ' ∧ Ex F1 F' ∧ H' L = some (.lst va) ∧ F' L = none ∧ RpAll (B.kz K) F' va acc ∧ acc.length ≤ i ∧ (∀ (j : Nat) p c, γ'[j]? = some (.own p c) → (wipe σ vs)[j]? ≠ some (some (.ref L))) ∧ I i acc γ',
    ⟨n, by omega, by omega, F1, _, [], [], (R1.alloc _ hL).wipe vs, Evl.Ex.refl F1, upd_same, f1, .nil, Nat.le_refl _, fun j p c hg hs => ?_, i0⟩, fun i m H' ⟨hm, hin, F2, γ2, acc, va, R2, e2, hL2, fL2, ra, la, na, i2⟩ => ?_⟩
  · obtain ⟨fa, ok⟩ := ((R1.alloc (.lst []) hL).wipe vs).ownObj hg hs
    have R1w := R1.wipe vs
    obtain ⟨_, ok'⟩ := R1w.ownObj hg hs
    obtain ⟨o, ho, _⟩ := ok'.obj
    rw [hL] at ho; cases ho
  · by_cases hlt : i < n
    · refine .inr ⟨jo.go B F2 H' _ γ2 i R2 e2 hlt, fun H3 => ∃ F' γ' acc va, Rep K B F' H3 (wipe σ vs) γ' ∧ Ex F1 F' ∧ H3 L = some (.lst va) ∧ F' L = none ∧ RpAll (B.kz K) F' va acc ∧ acc.length ≤ i + 1 ∧ (∀ (j : Nat) p c, γ'[j]? = some (.own p c) → (wipe σ vs)[j]? ≠ some (some (.ref L))) ∧ I (i + 1) acc γ',
        fun H3 h => ⟨n - (i + 1), by omega, rfl, by omega, h⟩, fun x H3 hy => ?_⟩
      -- the iterator's turn keeps L: it is taken over a base at this state
      have R2r := R2.re
      have nL : L ∉ ownsOf (wipe σ vs) γ2 H' := fun z => by
        obtain ⟨j, a, p, c, h1, h2, h3⟩ := mem_owns.mp z
        rcases h3 with rfl | ⟨C, fs, h3⟩
        · exact na j p c h2 h1
        · obtain ⟨_, ok⟩ := R2.ownObj h2 h1
          cases c with
          | lst ds => obtain ⟨_, q1, _⟩ := ok; rw [h3] at q1; cases q1
          | dct ds => obtain ⟨_, q1, _⟩ := ok; rw [h3] at q1; cases q1
          | ins C' fs' =>
            obtain ⟨dx, fv, q1, q2, _⟩ := ok
            rw [h3] at q1
            injection q1 with q1
            injection q1 with _ q1 _
            rw [← q1, hL2] at q2; cases q2
      have keepL : ∀ {F' H' σ' γ'}, Rep K (B.re F2 H' (wipe σ vs) γ2) F' H' σ' γ' → True := fun _ => trivial
      obtain ⟨F3, dd, R3, e3, rx, yx⟩ := jo.yl _ F2 H' _ γ2 i x H3 R2r e2 hlt hy rfl
      refine hg _ F3 H3 _ γ2 x dd _ _ R3 rx (it i acc γ2 hlt i2 dd yx) fun σ4 γ4 R4 o4 h4 => ?_
      have w4 : wipe σ4 vs = wipe σ vs := wipe_off o4 hs
      refine ⟨w4, ht _ F3 H3 σ4 γ4 _ _ R4 h4 fun b F5 H5 γ5 R5 e5 h5 => ?_⟩
      have atL : ∀ {F' H'' σ' γ'}, Rep K (B.re F2 H' (wipe σ vs) γ2) F' H'' σ' γ' → H'' L = some (.lst va) ∧ F' L = none ∧ ∀ (j : Nat) p c, γ'[j]? = some (.own p c) → σ'[j]? ≠ some (some (.ref L)) := fun R' => by
        refine ⟨(R'.b1 L _ hL2).1 nL, (R'.b3 L _ hL2 nL).trans fL2, fun j p c h1 h2 => ?_⟩
        rcases R'.b5 j L p c h1 h2 with z | z
        · exact nL z
        · have z' : H' L = none := z
          rw [hL2] at z'; cases z'
      have fin : ∀ {F' H'' γ' acc' va'}, Rep K B F' H'' σ4 γ' → Ex F1 F' → H'' L = some (.lst va') → F' L = none → RpAll (B.kz K) F' va' acc' → acc'.length ≤ i + 1 → (∀ (j : Nat) p c, γ'[j]? = some (.own p c) → σ4[j]? ≠ some (some (.ref L))) → I (i + 1) acc' (wipeG γ' vs) →
          ∃ F' γ' acc va, Rep K B F' H'' (wipe σ vs) γ' ∧ Ex F1 F' ∧ H'' L = some (.lst va) ∧ F' L = none ∧ RpAll (B.kz K) F' va acc ∧ acc.length ≤ i + 1 ∧ (∀ (j : Nat) p c, γ'[j]? = some (.own p c) → (wipe σ vs)[j]? ≠ some (some (.ref L))) ∧ I (i + 1) acc γ' := fun {F' H'' γ' acc' va'} a1 a2 a3 a4 a5 a6 a7 a8 => by
        refine ⟨F', wipeG γ' vs, acc', va', by rw [← w4]; exact a1.wipe vs, a2, a3, a4, a5, a6, fun j p c h1 h2 => ?_, a8⟩
        rw [← w4, wipe_get] at h2
        have h1' : γ'[j]? = some (.own p c) := by
          have go : ∀ vs : List Nat, (wipeG γ' vs)[j]? = some (.own p c) → γ'[j]? = some (.own p c) := fun vs => by
            induction vs with
            | nil => exact fun h => h
            | cons v vs ih =>
              intro h
              unfold wipeG at h
              rcases get_put h with ⟨_, e⟩ | ⟨_, e⟩
              · cases e
              · exact ih e
          exact go vs h1
        split at h2
        · cases h2
        · exact a7 j p c h1' h2
      cases b with
      | true =>
        show te σ4 H5 _
        refine he _ F5 H5 σ4 γ5 _ _ R5 (h5.1 rfl) fun v F6 H6 γ6 s R6 e6 o6 ⟨hk, h7⟩ => ?_
        obtain ⟨F7, R7, e7, o7⟩ := o6.fz R6
        have rv := o7.kp hk
        obtain ⟨g1, g2, g3⟩ := atL R7
        have ex : Ex F2 F7 := ((e3.trans e5).trans e6).trans e7
        refine ⟨va, g1, Nat.lt_of_lt_of_le (show va.length < 1000001 by rw [ra.length]; omega) (by decide), ?_⟩
        have R8 : Rep K B F7 H6 σ4 γ6 := R2.back R7
        exact fin (R8.poke (o' := .lst (va ++ [v])) g1 (fun x z => by cases z) g2 (.inr f2) g3 ⟨_, rfl⟩) (e2.trans ex) upd_same g2 (RpAll.of (P_app (ra.mono ex).p (.cons rv .nil))) (by rw [List.length_append, List.length_singleton]; omega) g3 h7
      | false =>
        obtain ⟨g1, g2, g3⟩ := atL R5
        have ex : Ex F2 F5 := e3.trans e5
        exact fin (R2.back R5) (e2.trans ex) g1 g2 (ra.mono ex) (by omega) g3 (h5.2 rfl)
    · obtain rfl : i = n := by omega
      refine .inl ⟨jo.st B F2 H' _ γ2 i R2 e2 (Nat.le_refl _), ?_⟩
      have R3 : Rep K B F2 H' σ (restore γ1 γ2 vs) := Rep.rest R1 R2 e2 rfl
      refine k _ F2 H' _ (.new (.lst acc)) R3 (e1.trans e2) ⟨L, rfl, fL2, ⟨va, hL2, ra⟩, f3, .inr f2, fun j p c h1 h2 => ?_⟩ (ie acc γ2 i2)
      rcases restore_get h1 with ⟨_, z⟩ | ⟨nj, z⟩
      · unfold keepV at z
        split at z <;> cases z
      · exact na j p c z (by rw [wipe_get, if_neg fun q => nj q.1]; exact h2)
structure XTs (X : Cx) (B : Bs) (ifs : List Expr) (tt : TT) (dt : DT) : Prop where
  pt : PTs X ifs tt
  st : ST X.K B tt dt
def dYes (γ : Env) (q : Bool → Env → Prop) : Prop := q true γ
theorem ts_nil {X : Cx} {B : Bs} : XTs X B [] tYes dYes := ⟨pts_nil, fun F H σ γ Q q R hq k => k true F H γ R (Evl.Ex.refl F) hq⟩
theorem ts_one {X : Cx} {B : Bs} {c : Expr} {tt : TT} {dt : DT} (h : XT X B c tt dt) : XTs X B [c] tt dt := ⟨pts_one h.pt, h.st⟩
section
variable {X : Cx} {B : Bs} {elt tg iter : Expr} {ifs : List Expr} {scope : Scope} {pos : Pos} {wi : TI} {di : DI} {g : TG} {dg : DG} {tt : TT} {dt : DT} {te : TE} {de : DE} {ix : List Nat}
theorem x_lc (own : List (Str × Nat)) (hc : X.calm = true) (hN : X.N.Nodup) (hi : XI X B tg iter wi di) (ok : BlkOk X.N X.env.scope scope own)
    (hg : ∀ (B : Bs) (s : Shared) (H : Hp) (C : Addr) (cl : List (Str × Addr)) (fp : List Addr), XG (X.blk s H scope (compEnvC scope cl C X.env) fp) B tg g dg ix) (ht : ∀ (B : Bs) (s : Shared) (H : Hp) (C : Addr) (cl : List (Str × Addr)) (fp : List Addr), XTs (X.blk s H scope (compEnvC scope cl C X.env) fp) B ifs tt dt)
    (he : ∀ (B : Bs) (s : Shared) (H : Hp) (C : Addr) (cl : List (Str × Addr)) (fp : List Addr), XE (X.blk s H scope (compEnvC scope cl C X.env) fp) B elt te de) (hix : ∀ i ∈ ix, i ∈ own.map (·.2)) (hs : ∀ x, foldedSetIterable iter X.env x = pure x := by intro _; rfl) :
    XE X B (.ListComp elt [⟨tg, iter, ifs, 0⟩] scope pos) (tLc wi g tt te (own.map (·.2))) (dLc di dg dt de (own.map (·.2))) :=
  ⟨pe_lc hc hN hi.pi ok (fun s H C cl fp => (hg B s H C cl fp).pg) (fun s H C cl fp => (ht B s H C cl fp).pt) (fun s H C cl fp => (he B s H C cl fp).pe) hs,
    se_lc hi.si (fun B => (hg B X.s_0 X.H_0 0 [] []).sg) (fun B => (ht B X.s_0 X.H_0 0 [] []).st) (fun B => (he B X.s_0 X.H_0 0 [] []).se) hix⟩
end
end DL

set_option Elab.async false
set_option linter.all false
set_option maxRecDepth 100000
set_option maxHeartbeats 2000000
namespace DL
open PySem PySem.Spec PyProof.Rows L2
open Evl (Ex ex_l ex_t)
section
variable {X : Cx} {B : Bs} {elt tg iter : Expr} {ifs : List Expr} {scope : Scope} {pos spos : Pos} {wi : TI} {di : DI} {g : TG} {dg : DG} {tt : TT} {dt : DT} {te : TE} {de : DE} {ix : List Nat}
/-- name = [..] on one line -/
theorem s_setLc (i : Nat) (own : List (Str × Nat)) {y : Str} {py : Pos} (hc : X.calm = true) (hN : X.N.Nodup) (hi : XI X B tg iter wi di) (ok : BlkOk X.N X.env.scope scope own)
    (hg : ∀ (B : Bs) (s : Shared) (H : Hp) (C : Addr) (cl : List (Str × Addr)) (fp : List Addr), XG (X.blk s H scope (compEnvC scope cl C X.env) fp) B tg g dg ix) (ht : ∀ (B : Bs) (s : Shared) (H : Hp) (C : Addr) (cl : List (Str × Addr)) (fp : List Addr), XTs (X.blk s H scope (compEnvC scope cl C X.env) fp) B ifs tt dt)
    (he : ∀ (B : Bs) (s : Shared) (H : Hp) (C : Addr) (cl : List (Str × Addr)) (fp : List Addr), XE (X.blk s H scope (compEnvC scope cl C X.env) fp) B elt te de) (hix : ∀ i ∈ ix, i ∈ own.map (·.2)) (hsw : swapsWith (.ListComp elt [⟨tg, iter, ifs, 0⟩] scope pos) (some (.Name y py)) spos.line X.env = pure true)
    (hy : X.N[i]? = some y := by rfl) (hyl : X.env.scope.names.lookup y = some .local := by rfl) (hs : ∀ x, foldedSetIterable iter X.env x = pure x := by intro _; rfl) :
    XS X B (.Assign [.Name y py] (.ListComp elt [⟨tg, iter, ifs, 0⟩] scope pos) spos) (tAsg (tLc wi g tt te (own.map (·.2))) (gName i)) (dAsg i (dLc di dg dt de (own.map (·.2)))) :=
  ⟨ps_setLc hc hN hy hyl hsw hi.pi ok (fun s H C cl fp => (hg B s H C cl fp).pg) (fun s H C cl fp => (ht B s H C cl fp).pt) (fun s H C cl fp => (he B s H C cl fp).pe) hs,
    sa_name (se_lc hi.si (fun B => (hg B X.s_0 X.H_0 0 [] []).sg) (fun B => (ht B X.s_0 X.H_0 0 [] []).st) (fun B => (he B X.s_0 X.H_0 0 [] []).se) hix)⟩
end

/-! ### promises in data -/
abbrev FS := List Sx → (RS → List Sx → Prop) → Prop
abbrev ZN (H : Hp) := {z : Addr → Prop // ∀ a, z a → ∃ o, H a = some o}
theorem Rep.znp {K : PySem.W.Frag} {B : Bs} {F H : Hp} {σ : L2.St} {γ : Env} (R : Rep K B F H σ γ) : ∀ a, B.z a → ∃ o, H a = some o := fun a h => let ⟨o, e⟩ := B.zn a h; R.bN a o e
abbrev Rep.zn {K : PySem.W.Frag} {B : Bs} {F H : Hp} {σ : L2.St} {γ : Env} (R : Rep K B F H σ γ) : ZN H := ⟨B.z, R.znp⟩
def entry (F H : Hp) (m : List Addr) (z : ZN H) (vs : List V) : Bs := ⟨H, fun k => match (vs[k]? : Option V) with | some (.ref a) => some a | _ => none, F, H, m, z.1, z.2⟩
def spOf (K : PySem.W.Frag) (n : Nat) (fs : FS) : Sp := fun vs H Q _ => vs.length = n ∧ ∃ F m, ∃ z : ZN H, ∃ as p, Rep K (entry F H m z vs) F H (vs.map some) as ∧ fs as p ∧
  ∀ r as' v F' H', p r as' → Rep K (entry F H m z vs) F' H' (vs.map some) as' → RsOk K (entry F H m z vs) F' H' (vs.map some) as' v r → r.kept → Q v H'
/-- what the parameters' things are at the end -/
def Outs : List Sx → Env → List Sx → Prop
  | [], _, zs => zs = []
  | .own p _ :: as, s :: γ, zs => ∃ c' r, s = .own p c' ∧ zs = .own p c' :: r ∧ Outs as γ r
  | t :: as, _ :: γ, zs => ∃ r, zs = t :: r ∧ Outs as γ r
  | _ :: _, [], _ => False
/-- the same, with what follows -/
def OutP : List Sx → Env → (List Sx → Prop) → Prop
  | [], _, k => k []
  | .own p _ :: as, .own p' c' :: γ, k => p' = p ∧ OutP as γ fun r => k (.own p c' :: r)
  | .val d :: as, _ :: γ, k => OutP as γ fun r => k (.val d :: r)
  | .no :: as, _ :: γ, k => OutP as γ fun r => k (.no :: r)
  | _, _, _ => False
theorem outP : ∀ {as : List Sx} {γ : Env} {k : List Sx → Prop}, OutP as γ k → ∃ as', Outs as γ as' ∧ k as'
  | [], _, _, h => ⟨[], rfl, h⟩
  | .own p _ :: as, .own p' c' :: γ, k, h => by
    obtain ⟨rfl, h⟩ := h
    obtain ⟨r, h1, h2⟩ := outP h
    exact ⟨_, ⟨c', r, rfl, rfl, h1⟩, h2⟩
  | .val d :: as, s :: γ, k, h => by
    obtain ⟨r, h1, h2⟩ := outP (as := as) (γ := γ) (k := fun r => k (.val d :: r)) (by unfold OutP at h; exact h)
    exact ⟨_, ⟨r, rfl, h1⟩, h2⟩
  | .no :: as, s :: γ, k, h => by
    obtain ⟨r, h1, h2⟩ := outP (as := as) (γ := γ) (k := fun r => k (.no :: r)) (by unfold OutP at h; exact h)
    exact ⟨_, ⟨r, rfl, h1⟩, h2⟩
def startG (n : Nat) (as : List Sx) : Env := as ++ List.replicate (n - as.length) .no
def endsOf (as : List Sx) (p : RS → List Sx → Prop) : DEnds := { nx := fun γ => OutP as γ fun zs => p (.val .non) zs, rt := fun r γ => r.kept ∧ OutP as γ fun zs => p r zs }
theorem endsOf_nx {as : List Sx} {p : RS → List Sx → Prop} {γ : Env} : (endsOf as p).nx γ = OutP as γ fun zs => p (.val .non) zs := rfl
theorem endsOf_rt {as : List Sx} {p : RS → List Sx → Prop} {r : RS} {γ : Env} : (endsOf as p).rt r γ = (r.kept ∧ OutP as γ fun zs => p r zs) := rfl
theorem endsOf_bk {as : List Sx} {p : RS → List Sx → Prop} {γ : Env} : (endsOf as p).bk γ = False := rfl
theorem outs_get : ∀ {as : List Sx} {γ : Env} {zs : List Sx}, Outs as γ zs → zs.length = as.length ∧ ∀ (i : Nat) z, zs[i]? = some z → (∃ p c c', as[i]? = some (.own p c) ∧ γ[i]? = some (.own p c') ∧ z = .own p c') ∨ (as[i]? = some z ∧ ∀ p c, z ≠ .own p c)
  | [], γ, zs, h => by
    have h' : zs = [] := h
    subst h'
    exact ⟨rfl, fun i z e => by simp at e⟩
  | .own p c :: as, s :: γ, zs, h => by
    obtain ⟨c', r, rfl, rfl, h⟩ := h
    obtain ⟨l, g⟩ := outs_get h
    refine ⟨by rw [List.length_cons, List.length_cons, l], fun i z e => ?_⟩
    cases i with
    | zero => simp at e; subst e; exact .inl ⟨p, c, c', rfl, rfl, rfl⟩
    | succ i => simpa using g i z (by simpa using e)
  | .val d :: as, s :: γ, zs, h => by
    obtain ⟨r, rfl, h⟩ := h
    obtain ⟨l, g⟩ := outs_get h
    refine ⟨by rw [List.length_cons, List.length_cons, l], fun i z e => ?_⟩
    cases i with
    | zero => simp at e; subst e; exact .inr ⟨rfl, fun p c z => by cases z⟩
    | succ i => simpa using g i z (by simpa using e)
  | .no :: as, s :: γ, zs, h => by
    obtain ⟨r, rfl, h⟩ := h
    obtain ⟨l, g⟩ := outs_get h
    refine ⟨by rw [List.length_cons, List.length_cons, l], fun i z e => ?_⟩
    cases i with
    | zero => simp at e; subst e; exact .inr ⟨rfl, fun p c z => by cases z⟩
    | succ i => simpa using g i z (by simpa using e)
section
variable {K : PySem.W.Frag} {B : Bs} {F F' H H' : Hp} {m : List Addr} {z : ZN H} {vs : List V} {as zs : List Sx} {σ' : L2.St} {γ' : Env}
theorem start_get {N : List Str} {i : Nat} {s : Option V} {t : Sx} {n : Nat} (h1 : (start N vs)[i]? = some s) (h2 : (startG n as)[i]? = some t) (hl : vs.length = as.length) : ((vs.map some)[i]? = some s ∧ as[i]? = some t) ∨ t = .no := by
  unfold L2.start at h1
  unfold startG at h2
  by_cases hi : i < as.length
  · rw [List.getElem?_append_left (by rw [List.length_map]; omega)] at h1
    rw [List.getElem?_append_left hi] at h2
    exact .inl ⟨h1, h2⟩
  · rw [List.getElem?_append_right (by omega)] at h2
    exact .inr (List.eq_of_mem_replicate (List.mem_of_getElem? h2))
/-- at a def's start -/
theorem Rep.start {B : Bs} {N : List Str} (R : Rep K B F H (vs.map some) as) (hN : vs.length ≤ N.length) : Rep K B F H (start N vs) (startG N.length as) := by
  have hl : vs.length = as.length := by have := R.len; rw [List.length_map] at this; exact this
  have key : ∀ {i : Nat} {p : Option Nat} {c : OC} {s : Option V}, (startG N.length as)[i]? = some (.own p c) → (L2.start N vs)[i]? = some s → as[i]? = some (.own p c) ∧ (vs.map some)[i]? = some s := fun h1 h2 => by
    rcases start_get h2 h1 hl with ⟨a, b⟩ | z
    · exact ⟨b, a⟩
    · cases z
  refine ⟨R.fh, ?_, fun i s t hs hg => ?_, fun i j a p c q c' h1 h2 h3 h4 => R.nd i j a p c q c' (key h1 h3).1 (key h2 h4).1 (key h1 h3).2 (key h2 h4).2, R.b1, R.b2, R.b3, fun j a p c h1 h2 => R.b4 j a p c (key h1 h2).1 (key h1 h2).2, fun j a p c h1 h2 => R.b5 j a p c (key h1 h2).1 (key h1 h2).2, R.bN, R.bd⟩
  · unfold L2.start startG
    rw [List.length_append, List.length_append, List.length_map, List.length_replicate, List.length_replicate, hl]
  · rcases start_get hs hg hl with ⟨a, b⟩ | z
    · exact R.sl i s t a b
    · subst z; trivial
/-- at its end -/
theorem Rep.outs (R0 : Rep K (entry F H m z vs) F H (vs.map some) as) (R : Rep K (entry F H m z vs) F' H' σ' γ') (h : Outs as γ' zs) : Rep K (entry F H m z vs) F' H' (vs.map some) zs := by
  obtain ⟨hl, hz⟩ := outs_get h
  have own : ∀ {i : Nat} {p : Option Nat} {c : OC} {a : Addr}, zs[i]? = some (.own p c) → (vs.map some)[i]? = some (some (.ref a)) → ∃ c0, as[i]? = some (.own p c0) ∧ γ'[i]? = some (.own p c) ∧ σ'[i]? = some (some (.ref a)) := fun {i p c a} h1 h2 => by
    rcases hz i _ h1 with ⟨p', c0, c', e1, e2, e3⟩ | ⟨_, n⟩
    · injection e3 with e3 e4
      subst e3; subst e4
      obtain ⟨b, e5, _⟩ : ∃ b, σ'[i]? = some (some (.ref b)) ∧ True := by
        obtain ⟨l1, _⟩ := List.getElem?_eq_some_iff.mp e2
        have l2 : i < σ'.length := by rw [R.len]; exact l1
        obtain ⟨b, e, _⟩ := R.sl i _ _ (List.getElem?_eq_getElem l2) e2
        exact ⟨b, by rw [List.getElem?_eq_getElem l2, e], trivial⟩
      obtain ⟨q1, q2⟩ := R.b4 i b p c e2 e5
      obtain ⟨q3, q4⟩ := R0.b4 i a p c0 e1 h2
      refine ⟨c0, e1, e2, ?_⟩
      cases p with
      | none =>
        obtain ⟨_, ok⟩ := R0.ownObj e1 h2
        obtain ⟨o, ho, _⟩ := ok.obj
        have z : H a = none := q4 rfl
        rw [z] at ho; cases ho
      | some k =>
        have z1 := q1 k rfl
        have z2 := q3 k rfl
        rw [z2] at z1
        cases z1
        exact e5
    · exact absurd rfl (n p c)
  refine ⟨R.fh, by rw [hl]; exact R0.len, fun i s t hs hg => ?_, fun i j a p c q c' h1 h2 h3 h4 => ?_, R.b1, R.b2, R.b3, fun i a p c h1 h2 => ?_, fun i a p c h1 h2 => ?_, R.bN, R.bd⟩
  · cases t with
    | no => trivial
    | val d =>
      rcases hz i _ hg with ⟨_, _, _, _, _, z⟩ | ⟨e, _⟩
      · cases z
      · obtain ⟨v, e1, r⟩ := R0.sl i s _ hs e
        exact ⟨v, e1, r.mono R.b2⟩
    | own p c =>
      obtain ⟨v, hv, e0⟩ : ∃ v, vs[i]? = some v ∧ s = some v := by
        rw [List.getElem?_map] at hs
        cases q : vs[i]? with
        | none => rw [q] at hs; cases hs
        | some v => rw [q] at hs; exact ⟨v, rfl, (Option.some.inj hs).symm⟩
      subst e0
      rcases hz i _ hg with ⟨p', c0, c', e1, e2, e3⟩ | ⟨_, n⟩
      · injection e3 with e3 e4
        subst e3; subst e4
        obtain ⟨a, ea, _⟩ := R0.sl i _ _ hs e1
        cases ea
        obtain ⟨_, _, q2, q3⟩ := own hg hs
        obtain ⟨a', ea', f, ok⟩ := R.sl i _ _ q3 q2
        cases ea'
        exact ⟨a, rfl, f, ok⟩
      · exact absurd rfl (n p c)
  · obtain ⟨_, q1, q2, q3⟩ := own h1 h3
    obtain ⟨_, q4, q5, q6⟩ := own h2 h4
    exact R0.nd i j a p _ q _ q1 q4 h3 h4
  · obtain ⟨_, q1, q2, q3⟩ := own h1 h2
    exact R.b4 i a p c q2 q3
  · obtain ⟨_, q1, q2, q3⟩ := own h1 h2
    exact R.b5 i a p c q2 q3
end
section
variable {P : Program} {w : World} {K : PySem.W.Frag} {B : Bs} {mg : Str → Option Value} {base : Heap}
/-- THE RULE for a def: its body as a term of rules, and what it does on data -/
theorem fn_ok {x qual : Str} {st : Stmt} {f : Addr} {fd : FuncData} {N ps : List Str} {k n : Nat} {fs : FS} {ds : DS} (F : Fun K x qual st f fd) (S : FnScope N ps (defScope st)) (hn : ps.length = n) (hN : n ≤ N.length)
    (body : ∀ (B : Bs) (cdv : Value) (A : Around) (outer : List PySem.Env) (s : Shared) (H : Hp) (E : XK), Room k (A.deeper (envOfC qual (defScope st) s.heap.objs.size f cdv)) → ∃ ts, XSs (cxOf CX0 P w K mg base N qual (defScope st) f cdv A outer s H E).nox B (defBody st) ts ds)
    (h : ∀ as p, as.length = n → fs as p → ds (endsOf as p) (startG N.length as)) : FnOk P w K mg base CX0 (k + 1) f fd ps (spOf K n fs) := by
  refine F.ok S (fun vs H Q E h => h.1.trans hn.symm) fun cdv A outer s H vs Q E hr hsp => ?_
  obtain ⟨hl, F0, m, z, as, p, R0, hf, hq⟩ := hsp
  obtain ⟨ts, b⟩ := body (entry F0 H m z vs) cdv A outer s H E hr
  refine ⟨ts, b.ps, ?_⟩
  have ha : as.length = n := by have := R0.len; rw [List.length_map] at this; omega
  refine b.ss F0 H _ _ _ (endsOf as p) (R0.start (by rw [hl]; exact hN)) (h as p ha hf) ⟨fun F' H' σ' γ' R' _ h1 => ?_, fun F' H' σ' γ' v r R' _ o ⟨hk, h1⟩ => ?_, fun _ _ _ _ _ _ z => z, fun _ _ _ _ _ _ z => z⟩
  · obtain ⟨zs, ho, hp⟩ := outP h1
    exact hq (.val .non) zs .non F' H' hp (R0.outs R' ho) .non trivial
  · obtain ⟨zs, ho, hp⟩ := outP h1
    have R2 := R0.outs R' ho
    refine hq r zs v F' H' hp R2 ?_ hk
    cases r with
    | val d => exact o
    | own j c => exact hk.elim
    | new c =>
      obtain ⟨a, rfl, N⟩ := o
      refine ⟨a, rfl, N.fa, N.ok, N.bn, N.bm, fun i p' c' h1 h2 => ?_⟩
      obtain ⟨_, ok⟩ := R2.ownObj h1 h2
      have e1 : H a = none := N.bn
      obtain ⟨_, h3⟩ := outs_get ho
      rcases h3 i _ h1 with ⟨p2, c0, c2, e2, _, _⟩ | ⟨_, n2⟩
      · obtain ⟨_, ok2⟩ := R0.ownObj e2 h2
        obtain ⟨o, ho, _⟩ := ok2.obj
        rw [e1] at ho; cases ho
      · exact n2 p' c' rfl
end

/-! ### calls -/
def noNew : List RS → Prop
  | [] => True
  | .new _ :: _ => False
  | _ :: r => noNew r
def ownIx : List RS → List Nat
  | [] => []
  | .own j _ :: r => j :: ownIx r
  | _ :: r => ownIx r
def argsOf : Nat → List RS → List Sx
  | _, [] => []
  | k, .val d :: r => .val d :: argsOf (k + 1) r
  | k, .own _ c :: r => .own (some k) c :: argsOf (k + 1) r
  | k, .new _ :: r => .no :: argsOf (k + 1) r
def putC (γ : Env) (j : Nat) (t : Sx) : Env := match look γ j, t with
  | .own p _, .own _ c => put γ j (.own p c)
  | _, _ => put γ j .no
def upds : Env → List RS → List Sx → Env
  | γ, .own j _ :: r, t :: as => upds (putC γ j t) r as
  | γ, .own j _ :: r, [] => upds (put γ j .no) r []
  | γ, _ :: r, _ :: as => upds γ r as
  | γ, _ :: r, [] => upds γ r []
  | γ, [], _ => γ
theorem putC_len {γ : Env} {j : Nat} {t : Sx} : (putC γ j t).length = γ.length := by
  unfold putC
  split <;> rw [put_len]
theorem put_ne {γ : Env} {i j : Nat} {t : Sx} (h : i ≠ j) : (put γ j t)[i]? = γ[i]? := by rw [put_set, List.getElem?_set_ne (Ne.symm h)]
theorem putC_ne {γ : Env} {i j : Nat} {t : Sx} (h : i ≠ j) : (putC γ j t)[i]? = γ[i]? := by
  unfold putC
  split <;> rw [put_ne h]
theorem upds_len : ∀ {rs : List RS} {as : List Sx} {γ : Env}, (upds γ rs as).length = γ.length
  | [], _, _ => rfl
  | .own j _ :: r, t :: as, γ => by unfold upds; rw [upds_len, putC_len]
  | .own j _ :: r, [], γ => by unfold upds; rw [upds_len, put_len]
  | .val d :: r, _ :: as, γ => by unfold upds; exact upds_len
  | .val d :: r, [], γ => by unfold upds; exact upds_len
  | .new d :: r, _ :: as, γ => by unfold upds; exact upds_len
  | .new d :: r, [], γ => by unfold upds; exact upds_len
theorem upds_off : ∀ {rs : List RS} {as : List Sx} {γ : Env} {i : Nat}, i ∉ ownIx rs → (upds γ rs as)[i]? = γ[i]?
  | [], _, _, _, _ => rfl
  | .own j _ :: r, t :: as, γ, i, h => by
    unfold upds
    rw [upds_off (fun z => h (List.mem_cons_of_mem _ z)), putC_ne fun z => h (by rw [z]; exact List.mem_cons_self)]
  | .own j _ :: r, [], γ, i, h => by
    unfold upds
    rw [upds_off (fun z => h (List.mem_cons_of_mem _ z)), put_ne fun z => h (by rw [z]; exact List.mem_cons_self)]
  | .val d :: r, _ :: as, γ, i, h => by unfold upds; exact upds_off h
  | .val d :: r, [], γ, i, h => by unfold upds; exact upds_off h
  | .new d :: r, _ :: as, γ, i, h => by unfold upds; exact upds_off h
  | .new d :: r, [], γ, i, h => by unfold upds; exact upds_off h
theorem mem_ownIx : ∀ {rs : List RS} {k : Nat} {j : Nat} {c : OC}, rs[k]? = some (.own j c) → j ∈ ownIx rs
  | [], _, _, _, h => by simp at h
  | .own j' _ :: r, 0, j, c, h => by simp at h; rw [h.1]; exact List.mem_cons_self
  | .own j' _ :: r, k + 1, j, c, h => List.mem_cons_of_mem _ (mem_ownIx (k := k) (by simpa using h))
  | .val d :: r, 0, j, c, h => by simp at h
  | .val d :: r, k + 1, j, c, h => by
    show j ∈ ownIx r
    exact mem_ownIx (k := k) (by simpa using h)
  | .new d :: r, 0, j, c, h => by simp at h
  | .new d :: r, k + 1, j, c, h => by
    show j ∈ ownIx r
    exact mem_ownIx (k := k) (by simpa using h)
theorem ownIx_mem : ∀ {rs : List RS} {j : Nat}, j ∈ ownIx rs → ∃ (k : Nat) (c : OC), rs[k]? = some (RS.own j c)
  | [], _, h => by cases h
  | .own j' c :: r, j, h => by
    rcases List.mem_cons.mp h with e | h
    · exact ⟨0, c, by rw [e]; rfl⟩
    · obtain ⟨k, c', e⟩ := ownIx_mem h
      exact ⟨k + 1, c', by simpa using e⟩
  | .val d :: r, j, h => by
    obtain ⟨k, c', e⟩ := ownIx_mem (rs := r) h
    exact ⟨k + 1, c', by simpa using e⟩
  | .new d :: r, j, h => by
    obtain ⟨k, c', e⟩ := ownIx_mem (rs := r) h
    exact ⟨k + 1, c', by simpa using e⟩
theorem upds_at : ∀ {rs : List RS} {as : List Sx} {γ : Env} {k j : Nat} {c0 c1 : OC} {p : Option Nat}, (ownIx rs).Nodup → rs[k]? = some (.own j c0) → γ[j]? = some (.own p c1) →
    (upds γ rs as)[j]? = some .no ∨ ∃ p' c, as[k]? = some (.own p' c) ∧ (upds γ rs as)[j]? = some (.own p c)
  | [], _, _, _, _, _, _, _, _, h, _ => by simp at h
  | .own j' c' :: r, t :: as, γ, 0, j, c0, c1, p, nd, h, hg => by
    obtain ⟨rfl, rfl⟩ : j' = j ∧ c' = c0 := by simpa using h
    have nj : j' ∉ ownIx r := (List.nodup_cons.mp nd).1
    have lt : j' < γ.length := (List.getElem?_eq_some_iff.mp hg).1
    unfold upds
    rw [upds_off nj]
    unfold putC
    rw [look_of hg]
    cases t with
    | own p' c => exact .inr ⟨p', c, rfl, (show (put γ j' (.own p c))[j']? = some (.own p c) by rw [put_set]; exact List.getElem?_set_self lt)⟩
    | no => exact .inl (show (put γ j' .no)[j']? = some .no by rw [put_set]; exact List.getElem?_set_self lt)
    | val d => exact .inl (show (put γ j' .no)[j']? = some .no by rw [put_set]; exact List.getElem?_set_self lt)
  | .own j' c' :: r, [], γ, 0, j, c0, c1, p, nd, h, hg => by
    obtain ⟨rfl, rfl⟩ : j' = j ∧ c' = c0 := by simpa using h
    have nj : j' ∉ ownIx r := (List.nodup_cons.mp nd).1
    have lt : j' < γ.length := (List.getElem?_eq_some_iff.mp hg).1
    unfold upds
    rw [upds_off nj]
    exact .inl (by rw [put_set]; exact List.getElem?_set_self lt)
  | .own j' c' :: r, t :: as, γ, k + 1, j, c0, c1, p, nd, h, hg => by
    have hr : r[k]? = some (.own j c0) := by simpa using h
    have ne : j ≠ j' := fun e => (List.nodup_cons.mp nd).1 (by rw [← e]; exact mem_ownIx hr)
    unfold upds
    simpa using upds_at (List.nodup_cons.mp nd).2 hr (by rw [putC_ne ne]; exact hg)
  | .own j' c' :: r, [], γ, k + 1, j, c0, c1, p, nd, h, hg => by
    have hr : r[k]? = some (.own j c0) := by simpa using h
    have ne : j ≠ j' := fun e => (List.nodup_cons.mp nd).1 (by rw [← e]; exact mem_ownIx hr)
    unfold upds
    simpa using upds_at (as := []) (List.nodup_cons.mp nd).2 hr (by rw [put_ne ne]; exact hg)
  | .val d :: r, _, _, 0, _, _, _, _, _, h, _ => by simp at h
  | .new d :: r, _, _, 0, _, _, _, _, _, h, _ => by simp at h
  | .val d :: r, t :: as, γ, k + 1, j, c0, c1, p, nd, h, hg => by
    have hr : r[k]? = some (.own j c0) := by simpa using h
    unfold upds; simpa using upds_at (rs := r) (as := as) (k := k) (show (ownIx r).Nodup from nd) hr hg
  | .val d :: r, [], γ, k + 1, j, c0, c1, p, nd, h, hg => by
    have hr : r[k]? = some (.own j c0) := by simpa using h
    unfold upds; simpa using upds_at (rs := r) (as := []) (k := k) (show (ownIx r).Nodup from nd) hr hg
  | .new d :: r, t :: as, γ, k + 1, j, c0, c1, p, nd, h, hg => by
    have hr : r[k]? = some (.own j c0) := by simpa using h
    unfold upds; simpa using upds_at (rs := r) (as := as) (k := k) (show (ownIx r).Nodup from nd) hr hg
  | .new d :: r, [], γ, k + 1, j, c0, c1, p, nd, h, hg => by
    have hr : r[k]? = some (.own j c0) := by simpa using h
    unfold upds; simpa using upds_at (rs := r) (as := []) (k := k) (show (ownIx r).Nodup from nd) hr hg
theorem args_get : ∀ {rs : List RS} {b i : Nat} {t : Sx}, (argsOf b rs)[i]? = some t → (∃ d, rs[i]? = some (.val d) ∧ t = .val d) ∨ (∃ j c, rs[i]? = some (.own j c) ∧ t = .own (some (b + i)) c) ∨ t = .no
  | [], _, _, _, h => by simp [argsOf] at h
  | .val d :: r, b, 0, t, h => by simp [argsOf] at h; exact .inl ⟨d, rfl, h.symm⟩
  | .own j c :: r, b, 0, t, h => by simp [argsOf] at h; exact .inr (.inl ⟨j, c, rfl, h.symm⟩)
  | .new c :: r, b, 0, t, h => by simp [argsOf] at h; exact .inr (.inr h.symm)
  | .val d :: r, b, i + 1, t, h => by
    have := args_get (rs := r) (b := b + 1) (i := i) (t := t) (by simpa [argsOf] using h)
    rw [show b + 1 + i = b + (i + 1) by omega] at this
    simpa using this
  | .own j c :: r, b, i + 1, t, h => by
    have := args_get (rs := r) (b := b + 1) (i := i) (t := t) (by simpa [argsOf] using h)
    rw [show b + 1 + i = b + (i + 1) by omega] at this
    simpa using this
  | .new c :: r, b, i + 1, t, h => by
    have := args_get (rs := r) (b := b + 1) (i := i) (t := t) (by simpa [argsOf] using h)
    rw [show b + 1 + i = b + (i + 1) by omega] at this
    simpa using this
theorem args_len : ∀ {rs : List RS} {b : Nat}, (argsOf b rs).length = rs.length
  | [], _ => rfl
  | .val d :: r, b => by simp [argsOf, args_len]
  | .own j c :: r, b => by simp [argsOf, args_len]
  | .new c :: r, b => by simp [argsOf, args_len]
end DL

set_option Elab.async false
set_option linter.all false
set_option maxRecDepth 100000
set_option maxHeartbeats 2000000
namespace DL
open PySem PySem.Spec PyProof.Rows L2
open Evl (Ex ex_l ex_t)
section
variable {K : PySem.W.Frag} {B : Bs} {F F' H H' : Hp} {σ : L2.St} {γ : Env}
/-- a callee's arguments, as its parameters find them -/
theorem Rep.args (R : Rep K B F H σ γ) {vs dvs : List V} {rs : List RS} {dds : List D} (o : Paired (RsOk K B F H σ γ) vs rs) (od : Paired (fun v d => ∀ z F, Rp ⟨K, z⟩ F v d) dvs dds) (nd : (ownIx rs).Nodup) :
    ∃ m, (∀ b, b ∈ m → ∃ (i : Nat) (j : Nat) (c : OC) (a : Addr), rs[i]? = some (.own j c) ∧ σ[j]? = some (some (.ref a)) ∧ (b = a ∨ ∃ C fs, H a = some (.ins C b fs))) ∧
      Rep K (entry F H m R.zn (vs ++ dvs)) F H ((vs ++ dvs).map some) (argsOf 0 rs ++ dds.map Sx.val) := by
  have hlen : ((vs ++ dvs).map some).length = (argsOf 0 rs ++ dds.map Sx.val).length := by
    rw [List.length_map, List.length_append, List.length_append, args_len, List.length_map, P_len o, P_len od]
  -- an owned argument
  have own : ∀ {i : Nat} {p : Option Nat} {c : OC} {a : Addr}, (argsOf 0 rs ++ dds.map Sx.val)[i]? = some (.own p c) → ((vs ++ dvs).map some)[i]? = some (some (.ref a)) → ∃ j, rs[i]? = some (.own j c) ∧ p = some i ∧ σ[j]? = some (some (.ref a)) ∧ (∃ q, γ[j]? = some (.own q c)) ∧ (vs ++ dvs)[i]? = some (.ref a) := fun {i p c a} h1 h2 => by
    by_cases hi : i < (argsOf 0 rs).length
    · rw [List.getElem?_append_left hi] at h1
      rcases args_get h1 with ⟨d, _, z⟩ | ⟨j, c', e, z⟩ | z
      · cases z
      · injection z with z1 z2
        subst z2
        rw [Nat.zero_add] at z1
        obtain ⟨v, hv, q1, q2⟩ := P_get o e
        have h3 : (vs ++ dvs)[i]? = some v := by rw [List.getElem?_append_left (List.getElem?_eq_some_iff.mp hv).1]; exact hv
        rw [List.getElem?_map, h3] at h2
        have e2 : v = .ref a := by simpa using h2
        subst e2
        exact ⟨j, e, z1, q1, q2, h3⟩
      · cases z
    · rw [List.getElem?_append_right (by omega), List.getElem?_map] at h1
      cases q : dds[i - (argsOf 0 rs).length]? with
      | none => rw [q] at h1; cases h1
      | some d => rw [q] at h1; cases h1
  refine ⟨ownsOf ((vs ++ dvs).map some) (argsOf 0 rs ++ dds.map Sx.val) H, fun b hb => ?_, R.fh, hlen, fun i s t hs hg => ?_, fun i j a p c q c' h1 h2 h3 h4 => ?_, fun b o e => ⟨fun _ => e, o, e⟩, Evl.Ex.refl F, fun b o _ _ => rfl, fun i a p c h1 h2 => ?_, fun i a p c h1 h2 => ?_, fun b o e => ⟨o, e⟩, fun a o e => ⟨o, e, .refl o⟩⟩
  · obtain ⟨i, a, p, c, h1, h2, h3⟩ := mem_owns.mp hb
    obtain ⟨j, e1, _, e3, _, _⟩ := own h2 h1
    exact ⟨i, j, c, a, e1, e3, h3⟩
  · cases t with
    | no => trivial
    | val d =>
      rw [List.getElem?_map] at hs
      by_cases hi : i < (argsOf 0 rs).length
      · rw [List.getElem?_append_left hi] at hg
        rcases args_get hg with ⟨d', e, z⟩ | ⟨j, c', e, z⟩ | z
        · cases z
          obtain ⟨v, hv, q1⟩ := P_get o e
          rw [List.getElem?_append_left (List.getElem?_eq_some_iff.mp hv).1, hv] at hs
          exact ⟨v, (Option.some.inj hs).symm, q1⟩
        · cases z
        · cases z
      · rw [List.getElem?_append_right (by omega), List.getElem?_map] at hg
        cases q : dds[i - (argsOf 0 rs).length]? with
        | none => rw [q] at hg; cases hg
        | some d' =>
          rw [q] at hg
          cases hg
          obtain ⟨v, hv, q1⟩ := P_get od q
          have e1 : i - (argsOf 0 rs).length = i - vs.length := by rw [args_len, P_len o]
          rw [List.getElem?_append_right (by rw [P_len o, ← args_len (rs := rs) (b := 0)]; omega), ← e1, hv] at hs
          exact ⟨v, (Option.some.inj hs).symm, q1 _ F⟩
    | own p c =>
      obtain ⟨v, e0⟩ : ∃ v, s = some v := by
        rw [List.getElem?_map] at hs
        cases q : (vs ++ dvs)[i]? with
        | none => rw [q] at hs; cases hs
        | some v => rw [q] at hs; exact ⟨v, (Option.some.inj hs).symm⟩
      subst e0
      by_cases hi : i < (argsOf 0 rs).length
      · have hg' := hg
        rw [List.getElem?_append_left hi] at hg
        rcases args_get hg with ⟨d, _, z⟩ | ⟨j, c', e, z⟩ | z
        · cases z
        · injection z with z1 z2
          subst z2
          obtain ⟨v', hv, q1, q, q2⟩ := P_get o e
          obtain ⟨a, e5, f, ok⟩ := R.sl j _ _ q1 q2
          cases e5
          rw [List.getElem?_map, List.getElem?_append_left (List.getElem?_eq_some_iff.mp hv).1, hv] at hs
          have e6 : v = .ref a := by simpa using hs.symm
          subst e6
          refine ⟨a, rfl, f, ?_⟩
          cases c with
          | lst ds => exact ok
          | dct kd => exact ok
          | ins C fs =>
            obtain ⟨dx, fv, h1, h2, h3, h4, h5, h6⟩ := ok
            refine ⟨dx, fv, h1, h2, h3, fun z => ?_, .inl (mem_owns.mpr ⟨i, a, p, _, ?_, hg', .inr ⟨_, fv, h1⟩⟩), h6⟩
            · have z' : H a = none := z
              rw [h1] at z'; cases z'
            · rw [List.getElem?_map, List.getElem?_append_left (List.getElem?_eq_some_iff.mp hv).1, hv]; rfl
        · cases z
      · rw [List.getElem?_append_right (by omega), List.getElem?_map] at hg
        cases q : dds[i - (argsOf 0 rs).length]? with
        | none => rw [q] at hg; cases hg
        | some d => rw [q] at hg; cases hg
  · obtain ⟨j1, e1, _, e2, ⟨q1, e3⟩, _⟩ := own h1 h3
    obtain ⟨j2, e4, _, e5, ⟨q2, e6⟩, _⟩ := own h2 h4
    have ej := R.nd j1 j2 a q1 c q2 c' e3 e6 e2 e5
    subst ej
    -- one index of rs for each slot
    have go : ∀ (rs : List RS) (i j : Nat) c c', (ownIx rs).Nodup → rs[i]? = some (.own j1 c) → rs[j]? = some (.own j1 c') → i = j := fun rs => by
      induction rs with
      | nil => intro i j c c' _ h; simp at h
      | cons r rs ih =>
        intro i j c c' hn h1 h2
        cases i with
        | zero =>
          cases j with
          | zero => rfl
          | succ j =>
            have e : r = .own j1 c := by simpa using h1
            subst e
            exact absurd (mem_ownIx (rs := rs) (k := j) (by simpa using h2)) (List.nodup_cons.mp hn).1
        | succ i =>
          cases j with
          | zero =>
            have e : r = .own j1 c' := by simpa using h2
            subst e
            exact absurd (mem_ownIx (rs := rs) (k := i) (by simpa using h1)) (List.nodup_cons.mp hn).1
          | succ j =>
            have hn' : (ownIx rs).Nodup := by
              cases r with
              | own j c => exact (List.nodup_cons.mp hn).2
              | val d => exact hn
              | new d => exact hn
            rw [ih i j c c' hn' (by simpa using h1) (by simpa using h2)]
    exact go rs i j c c' nd e1 e4
  · obtain ⟨j1, e1, e0, e2, _, e3⟩ := own h1 h2
    refine ⟨fun k z => ?_, fun z => ?_⟩
    · rw [e0] at z
      cases z
      show (match ((vs ++ dvs)[i]? : Option V) with | some (.ref a) => some a | _ => none) = some a
      rw [e3]
    · rw [e0] at z; cases z
  · exact .inl (mem_owns.mpr ⟨i, a, p, c, h2, h1, .inl rfl⟩)
/-- behind a call -/
theorem Rep.called (R : Rep K B F H σ γ) {vs : List V} {ws : List V} {rs : List RS} {as' : List Sx} {m : List Addr} (o : Paired (RsOk K B F H σ γ) vs rs) (nd : (ownIx rs).Nodup)
    (hw : ∀ (i : Nat) v, vs[i]? = some v → ws[i]? = some v)
    (hm : ∀ b, b ∈ m → ∃ (i : Nat) (j : Nat) (c : OC) (a : Addr), rs[i]? = some (.own j c) ∧ σ[j]? = some (some (.ref a)) ∧ (b = a ∨ ∃ C fs, H a = some (.ins C b fs))) (R' : Rep K (entry F H m R.zn ws) F' H' (ws.map some) as') :
    Rep K B F' H' σ (upds γ rs as') ∧ Ex F F' ∧ ∀ v r, r.kept → RsOk K (entry F H m R.zn ws) F' H' (ws.map some) as' v r → RsOk K B F' H' σ (upds γ rs as') v r := by
  have fF : Ex F F' := R'.b2
  -- what may have changed is owned here
  have mo : ∀ {b}, b ∈ m → b ∈ ownsOf σ γ H := fun {b} hb => by
    obtain ⟨i, j, c, a, h1, h2, h3⟩ := hm b hb
    obtain ⟨v, hv, q1, q, q2⟩ := P_get o h1
    exact mem_owns.mpr ⟨j, a, q, c, h2, q2, h3⟩
  have stay : ∀ {b o}, H b = some o → b ∉ m → H' b = some o ∧ F' b = F b := fun {b o} h n => ⟨(R'.b1 b o h).1 n, R'.b3 b o h n⟩
  -- an owned slot's address is in m only if it was handed over
  have apart : ∀ {i : Nat} {p : Option Nat} {c : OC} {a : Addr}, γ[i]? = some (.own p c) → σ[i]? = some (some (.ref a)) → i ∉ ownIx rs → a ∉ m ∧ ∀ dx, H dx = some (.own a) → dx ∉ m := fun {i p c a} hg hs hi => by
    obtain ⟨_, ok⟩ := R.ownObj hg hs
    obtain ⟨ob, hob, nob⟩ := ok.obj
    have h1 : a ∉ m := fun hb => by
      obtain ⟨k, j, c', a', e1, e2, e3⟩ := hm a hb
      obtain ⟨v, hv, q1, q, q2⟩ := P_get o e1
      rcases e3 with rfl | ⟨C, fs, e3⟩
      · exact hi (by rw [R.nd i j a p c q c' hg q2 hs e2]; exact mem_ownIx e1)
      · obtain ⟨_, ok'⟩ := R.ownObj q2 e2
        cases c' with
        | lst ds => obtain ⟨_, z, _⟩ := ok'; rw [e3] at z; cases z
        | dct ds => obtain ⟨_, z, _⟩ := ok'; rw [e3] at z; cases z
        | ins C' fs' =>
          obtain ⟨dx, fv, z1, z2, _⟩ := ok'
          rw [e3] at z1
          injection z1 with z1
          injection z1 with _ z1 _
          subst z1
          rw [hob] at z2
          exact nob a' (Option.some.inj z2)
    refine ⟨h1, fun dx hd hb => ?_⟩
    obtain ⟨k, j, c', a', e1, e2, e3⟩ := hm dx hb
    obtain ⟨v, hv, q1, q, q2⟩ := P_get o e1
    obtain ⟨_, ok'⟩ := R.ownObj q2 e2
    rcases e3 with rfl | ⟨C, fs, e3⟩
    · obtain ⟨o2, ho2, n2⟩ := ok'.obj
      rw [hd] at ho2
      exact n2 a (Option.some.inj ho2).symm
    · cases c' with
      | lst ds => obtain ⟨_, z, _⟩ := ok'; rw [e3] at z; cases z
      | dct ds => obtain ⟨_, z, _⟩ := ok'; rw [e3] at z; cases z
      | ins C' fs' =>
        obtain ⟨dx', fv, z1, z2, _⟩ := ok'
        rw [e3] at z1
        injection z1 with z1
        injection z1 with _ z1 _
        subst z1
        rw [hd] at z2
        injection z2 with z2
        injection z2 with z2
        subst z2
        exact hi (by rw [R.nd i j a p c q _ hg q2 hs e2]; exact mem_ownIx e1)
  -- an owned slot behind the call
  have slot : ∀ {i : Nat} {p : Option Nat} {c : OC}, (upds γ rs as')[i]? = some (.own p c) → (i ∉ ownIx rs ∧ γ[i]? = some (.own p c)) ∨ ∃ (k : Nat) (c0 c1 : OC) (p' : Option Nat), rs[k]? = some (.own i c0) ∧ γ[i]? = some (.own p c1) ∧ as'[k]? = some (.own p' c) := fun {i p c} h => by
    by_cases hi : i ∈ ownIx rs
    · obtain ⟨k, c0, e1⟩ := ownIx_mem hi
      obtain ⟨v, hv, q1, q, q2⟩ := P_get o e1
      rcases upds_at (as := as') nd e1 q2 with z | ⟨p', c2, z1, z2⟩
      · rw [z] at h; cases h
      · rw [z2] at h
        cases h
        exact .inr ⟨k, c0, c0, p', e1, q2, z1⟩
    · exact .inl ⟨hi, by rw [← upds_off (as := as') hi]; exact h⟩
  have was : ∀ {i : Nat} {p : Option Nat} {c : OC}, (upds γ rs as')[i]? = some (.own p c) → ∃ c1, γ[i]? = some (.own p c1) := fun h => by
    rcases slot h with ⟨_, z⟩ | ⟨_, _, c1, _, _, z, _⟩
    · exact ⟨_, z⟩
    · exact ⟨c1, z⟩
  have R2 : Rep K B F' H' σ (upds γ rs as') := by
    refine ⟨R'.fh, by rw [upds_len]; exact R.len, fun i s t hs hg => ?_, fun i j a p c q c' h1 h2 h3 h4 => ?_, fun b ob e => ?_, R.b2.trans fF, fun b ob e n => ?_, fun i a p c h1 h2 => ?_, fun i a p c h1 h2 => ?_, fun b ob e => ?_, fun a ob e => ?_⟩
    · cases t with
      | no => trivial
      | val d =>
        have hi : i ∉ ownIx rs := fun hi => by
          obtain ⟨k, c0, e1⟩ := ownIx_mem hi
          obtain ⟨v, hv, q1, q, q2⟩ := P_get o e1
          rcases upds_at (as := as') nd e1 q2 with z | ⟨p', c2, z1, z2⟩
          · rw [z] at hg; cases hg
          · rw [z2] at hg; cases hg
        rw [upds_off hi] at hg
        obtain ⟨v, e, r⟩ := R.sl i s _ hs hg
        exact ⟨v, e, r.mono fF⟩
      | own p c =>
        rcases slot hg with ⟨hi, hg0⟩ | ⟨k, c0, c1, p', e1, e2, e3⟩
        · obtain ⟨a, e, f, ok⟩ := R.sl i s _ hs hg0
          subst e
          obtain ⟨n1, n2⟩ := apart hg0 hs hi
          obtain ⟨ob, hob, _⟩ := ok.obj
          obtain ⟨x1, x2⟩ := stay hob n1
          refine ⟨a, rfl, x2.trans f, (ok.mono fF fun dx hd fd => (stay hd (n2 dx hd)).2.trans fd).heap (x1.trans hob.symm) fun dx hd => ((stay hd (n2 dx hd)).1).trans hd.symm⟩
        · obtain ⟨v, hv, q1, q, q2⟩ := P_get o e1
          rw [hs] at q1
          have es : s = some v := Option.some.inj q1
          subst es
          obtain ⟨a, e4, f0, ok0⟩ := R.sl i _ _ hs e2
          cases e4
          have hk := hw k _ hv
          obtain ⟨a2, e5, f, ok⟩ := R'.sl k (some (.ref a)) _ (by rw [List.getElem?_map, hk]; rfl) e3
          cases e5
          refine ⟨a, rfl, f, ?_⟩
          cases c with
          | lst ds => exact ok
          | dct kd => exact ok
          | ins C fs =>
            obtain ⟨dx, fv, h1, h2, h3, h4, h5, h6⟩ := ok
            cases c1 with
            | lst ds =>
              obtain ⟨vs0, z1, _⟩ := ok0
              obtain ⟨o', hb, kn⟩ := R'.bd a _ z1
              obtain ⟨xs, rfl⟩ := kn
              rw [hb] at h1; cases h1
            | dct kd =>
              obtain ⟨vs0, z1, _⟩ := ok0
              obtain ⟨o', hb, kn⟩ := R'.bd a _ z1
              rcases kn with ⟨xs, rfl⟩ | ⟨od, xs, rfl⟩
              · rw [hb] at h1; cases h1
              · rw [hb] at h1; cases h1
            | ins C0 fs0 =>
              obtain ⟨dx0, fv0, z1, z2, z3, z4, z5, z6⟩ := ok0
              obtain ⟨o', hb, kn⟩ := R'.bd a _ z1
              obtain ⟨fs', rfl⟩ := kn
              rw [hb] at h1
              injection h1 with h1
              injection h1 with e6 e7 e8
              subst e7
              exact ⟨dx0, fv, by rw [hb, e6, e8], h2, h3, z4, z5, h6⟩
    · obtain ⟨_, y1⟩ := was h1
      obtain ⟨_, y2⟩ := was h2
      exact R.nd i j a p _ q _ y1 y2 h3 h4
    · obtain ⟨x1, o1, x2⟩ := R.b1 b ob e
      refine ⟨fun n => (stay (x1 n) fun hb => ?_).1, (R'.b1 b o1 x2).2⟩
      rcases R.owns (mo hb) with z | z
      · exact n z
      · rw [e] at z; cases z
    · have x1 := (R.b1 b ob e).1 n
      rw [(stay x1 fun hb => by
        rcases R.owns (mo hb) with z | z
        · exact n z
        · rw [e] at z; cases z).2]
      exact R.b3 b ob e n
    · obtain ⟨_, y1⟩ := was h1
      exact R.b4 i a p _ y1 h2
    · obtain ⟨_, y1⟩ := was h1
      exact R.b5 i a p _ y1 h2
    · obtain ⟨o1, x2⟩ := R.bN b ob e
      exact R'.bN b o1 x2
    · obtain ⟨o1, x2, k1⟩ := R.bd a ob e
      obtain ⟨o2, x3, k2⟩ := R'.bd a o1 x2
      exact ⟨o2, x3, k1.trans k2⟩
  refine ⟨R2, fF, fun v r hk ok => ?_⟩
  cases r with
  | val d => exact ok
  | own j c => exact hk.elim
  | new c =>
    obtain ⟨a, rfl, N⟩ := ok
    have e1 : H a = none := N.bn
    obtain ⟨_, f2, f3, f4⟩ := R.fresh e1
    refine ⟨a, rfl, N.fa, ?_, f3, .inr f2, fun i p c' h1 h2 => ?_⟩
    · have ok := N.ok
      cases c with
      | lst ds => exact ok
      | dct kd => exact ok
      | ins C fs =>
        obtain ⟨dx, fv, h1, h2, h3, h4, h5, h6⟩ := ok
        obtain ⟨_, g2, g3, _⟩ := R.fresh (h4 e1)
        exact ⟨dx, fv, h1, h2, h3, fun _ => g3, .inr g2, h6⟩
    · obtain ⟨_, y1⟩ := was h1
      exact f4 i p _ y1 h2
end
end DL

set_option Elab.async false
set_option linter.all false
set_option maxRecDepth 100000
set_option maxHeartbeats 2000000
namespace DL
open PySem PySem.Spec PyProof.Rows L2
open Evl (Ex ex_l ex_t)
/-- f(..): what is owned and handed over may change -/
def dCall (n : Nat) (fs : FS) (dds : List D) (da : DA) (γ : Env) (q : RS → Env → Prop) : Prop := da γ fun rs γ1 => (ownIx rs).Nodup ∧ rs.length + dds.length = n ∧ fs (argsOf 0 rs ++ dds.map Sx.val) fun r as' => q r (upds γ1 rs as')
/-- f(..): what is owned is lent; the answer is flat -/
def flatD : D → Prop
  | .int _ => True | .bl _ => True | .str _ => True | .non => True
  | _ => False
def flatR : RS → Prop
  | .val d => flatD d
  | _ => False
def dCallB (n : Nat) (fs : FS) (dds : List D) (da : DA) (γ : Env) (q : RS → Env → Prop) : Prop := da γ fun rs γ1 => noNew rs ∧ rs.length + dds.length = n ∧ fs (rs.map (fun r => Sx.val r.data) ++ dds.map Sx.val) fun r _ => flatR r ∧ q r γ1
section
variable {K : PySem.W.Frag} {B : Bs}
theorem se_call {n : Nat} {fs : FS} {dvs : List V} {dds : List D} {E : XK} {ta : TA} {da : DA} (h : SA K B ta da) (od : Paired (fun v d => ∀ z F, Rp ⟨K, z⟩ F v d) dvs dds) : SE K B (tCall (spOf K n fs) dvs E ta) (dCall n fs dds da) := fun F H σ γ Q q R hq k => by
  refine h F H σ γ _ _ R hq fun vs F1 H1 γ1 rs R1 e1 o1 ⟨h1, h2, h3⟩ => ?_
  obtain ⟨m, hm, RE⟩ := R1.args o1 od h1
  refine ⟨by rw [List.length_append, P_len o1, P_len od]; exact h2, F1, m, _, _, _, RE, h3, fun r as' v F2 H2 hp R2 ok hk => ?_⟩
  obtain ⟨R3, e3, ok3⟩ := R1.called o1 h1 (fun i v hv => by rw [List.getElem?_append_left (List.getElem?_eq_some_iff.mp hv).1]; exact hv) hm R2
  exact k v F2 H2 _ r R3 (e1.trans e3) (ok3 v r hk ok) hp
/-- the heap grows, nothing else -/
theorem Rep.grow {B : Bs} {F H H' : Hp} {σ : L2.St} {γ : Env} (R : Rep K B F H σ γ) (e : Ex H H') : Rep K B F H' σ γ := by
  refine ⟨R.fh.trans e, R.len, fun i s t hs hg => ?_, R.nd, fun b o h => ?_, R.b2, R.b3, R.b4, R.b5, fun b o h => ?_, fun a o h => ?_⟩
  · have q := R.sl i s t hs hg
    cases t with
    | no => trivial
    | val d => exact q
    | own p c =>
      obtain ⟨a, e', f, ok⟩ := q
      obtain ⟨o, ho, _⟩ := ok.obj
      exact ⟨a, e', f, ok.heap ((e _ _ ho).trans ho.symm) fun dx hd => (e _ _ hd).trans hd.symm⟩
  · obtain ⟨x1, o1, x2⟩ := R.b1 b o h
    exact ⟨fun n => e _ _ (x1 n), o1, e _ _ x2⟩
  · obtain ⟨o1, x2⟩ := R.bN b o h
    exact ⟨o1, e _ _ x2⟩
  · obtain ⟨o1, x2, x3⟩ := R.bd a o h
    exact ⟨o1, e _ _ x2, x3⟩
/-- for a while all that was handed over is frozen -/
theorem Rep.lend {B : Bs} {H : Hp} {σ : L2.St} : ∀ {vs : List V} {rs : List RS} {F : Hp} {γ : Env}, Rep K B F H σ γ → Paired (fun v r => (∃ d, r = .val d ∧ Rp (B.kz K) F v d) ∨ ∃ j c, r = .own j c ∧ σ[j]? = some (some v) ∧ (∃ p, look γ j = .own p c) ∨ r = .own j c ∧ Rp (B.kz K) F v c.data) vs rs →
    ∃ F', Ex F F' ∧ Ex F' H ∧ RpAll (B.kz K) F' vs (rs.map RS.data)
  | _, _, F, γ, R, .nil => ⟨F, Evl.Ex.refl F, R.fh, .nil⟩
  | _, _, F, γ, R, @Paired.cons _ _ _ v r vs rs h t => by
    have step : ∃ F1 γ1, Rep K B F1 H σ γ1 ∧ Ex F F1 ∧ Rp (B.kz K) F1 v r.data ∧ ∀ j p c, look γ j = .own p c → look γ1 j = .own p c ∨ ∃ a, σ[j]? = some (some (.ref a)) ∧ Rp (B.kz K) F1 (.ref a) c.data := by
      rcases h with ⟨d, rfl, h⟩ | ⟨j, c, ⟨rfl, hs, p, hp⟩ | ⟨rfl, h⟩⟩
      · exact ⟨F, γ, R, Evl.Ex.refl F, h, fun j p c h => .inl h⟩
      · obtain ⟨a, F1, hs', R1, e1, r1⟩ := R.freezeVar hp
        rw [hs] at hs'
        cases hs'
        refine ⟨F1, _, R1, e1, r1, fun i p' c' hl => ?_⟩
        by_cases e : i = j
        · subst e
          rw [hp] at hl
          cases hl
          exact .inr ⟨a, hs, r1⟩
        · refine .inl (look_of ?_)
          have := of_look hl (by intro z; cases z)
          rw [put_set, List.getElem?_set_ne (Ne.symm e)]
          exact this
      · exact ⟨F, γ, R, Evl.Ex.refl F, h, fun j p c h => .inl h⟩
    obtain ⟨F1, γ1, R1, e1, r1, hk⟩ := step
    obtain ⟨F2, e2, e3, r2⟩ := Rep.lend (vs := vs) (rs := rs) R1 (P_mono (fun v r h => by
      rcases h with ⟨d, rfl, h⟩ | ⟨j, c, ⟨rfl, hs, p, hp⟩ | ⟨rfl, h⟩⟩
      · exact .inl ⟨d, rfl, h.mono e1⟩
      · rcases hk j p c hp with z | ⟨a, z1, z2⟩
        · exact .inr ⟨j, c, .inl ⟨rfl, hs, p, z⟩⟩
        · rw [hs] at z1
          cases z1
          exact .inr ⟨j, c, .inr ⟨rfl, z2⟩⟩
      · exact .inr ⟨j, c, .inr ⟨rfl, h.mono e1⟩⟩) t)
    exact ⟨F2, e1.trans e2, e3, .cons (r1.mono e2) r2⟩
theorem lent {B : Bs} {F H : Hp} {σ : L2.St} {γ : Env} : ∀ {vs : List V} {rs : List RS}, Paired (RsOk K B F H σ γ) vs rs → noNew rs → Paired (fun v r => (∃ d, r = .val d ∧ Rp (B.kz K) F v d) ∨ ∃ j c, r = .own j c ∧ σ[j]? = some (some v) ∧ (∃ p, look γ j = .own p c) ∨ r = .own j c ∧ Rp (B.kz K) F v c.data) vs rs
  | _, _, .nil, _ => .nil
  | _, .val d :: _, .cons h t, n => .cons (.inl ⟨d, rfl, h⟩) (lent t n)
  | _, .own j c :: _, .cons ⟨hs, p, hg⟩ t, n => .cons (.inr ⟨j, c, .inl ⟨rfl, hs, p, look_of hg⟩⟩) (lent t n)
theorem se_callB {n : Nat} {fs : FS} {dvs : List V} {dds : List D} {E : XK} {ta : TA} {da : DA} (h : SA K B ta da) (od : Paired (fun v d => ∀ z F, Rp ⟨K, z⟩ F v d) dvs dds) : SE K B (tCall (spOf K n fs) dvs E ta) (dCallB n fs dds da) := fun F H σ γ Q q R hq k => by
  refine h F H σ γ _ _ R hq fun vs F1 H1 γ1 rs R1 e1 o1 ⟨h0, h2, h3⟩ => ?_
  have pr := lent o1 h0
  obtain ⟨F2, e2, e3, ra⟩ := R1.lend pr
  have rd : RpAll (B.kz K) F2 dvs dds := RpAll.of (P_mono (fun _ _ h => h B.z F2) od)
  have RE : Rep K (entry F2 H1 [] R1.zn (vs ++ dvs)) F2 H1 ((vs ++ dvs).map some) (rs.map (fun r => Sx.val r.data) ++ dds.map Sx.val) := by
    have all : Paired (Rp (B.kz K) F2) (vs ++ dvs) (rs.map RS.data ++ dds) := P_app ra.p rd.p
    have e0 : rs.map (fun r => Sx.val r.data) ++ dds.map Sx.val = (rs.map RS.data ++ dds).map Sx.val := by rw [List.map_append, List.map_map]; rfl
    rw [e0]
    have none : ∀ {i : Nat} {p : Option Nat} {c : OC}, ((rs.map RS.data ++ dds).map Sx.val)[i]? ≠ some (.own p c) := fun {i p c} h => by
      rw [List.getElem?_map] at h
      cases q : (rs.map RS.data ++ dds)[i]? with
      | none => rw [q] at h; cases h
      | some d => rw [q] at h; cases h
    refine ⟨e3, by rw [List.length_map, List.length_map, P_len all], fun i s t hs hg => ?_, fun i j a p c q c' h1 => absurd h1 none, fun b o e => ⟨fun _ => e, o, e⟩, Evl.Ex.refl F2, fun b o _ _ => rfl, fun i a p c h1 => absurd h1 none, fun i a p c h1 => absurd h1 none, fun b o e => ⟨o, e⟩, fun a o e => ⟨o, e, .refl o⟩⟩
    rw [List.getElem?_map] at hs hg
    cases q : (rs.map RS.data ++ dds)[i]? with
    | none => rw [q] at hg; cases hg
    | some d =>
      rw [q] at hg
      cases hg
      obtain ⟨v, hv, r⟩ := P_get all q
      rw [hv] at hs
      exact ⟨v, (Option.some.inj hs).symm, r⟩
  refine ⟨by rw [List.length_append, P_len o1, P_len od]; exact h2, F2, [], _, _, _, RE, h3, fun r as' v F3 H3 ⟨hf, hp⟩ R3 ok hk => ?_⟩
  have eH : Ex H1 H3 := fun b o e => (R3.b1 b o e).1 (by simp [entry])
  refine k v F1 H3 γ1 r (R1.grow eH) e1 ?_ hp
  cases r with
  | val d =>
    have ok' : Rp (B.kz K) F3 v d := ok
    show Rp (B.kz K) F1 v d
    cases ok' with
    | non => exact .non
    | bl b => exact .bl b
    | int i => exact .int i
    | str x => exact .str x
    | _ => exact hf.elim
  | own j c => exact hf.elim
  | new c => exact hf.elim
end
section
variable {X : Cx} {B : Bs} {a : Expr} {es : List Expr} {ta : TA} {da : DA} {CX : CXT} {k n : Nat} {f : Addr} {fd : FuncData} {ps : List Str} {fs : FS} {dvs : List V} {ds : List Value} {dds : List D} {E : XK} {x : Str} {p pos : Pos}
theorem x_callD (G : FnOk X.prog X.w X.K X.mg X.base CX k f fd ps (spOf X.K n fs)) (hr : Room k X.A) (hm : X.mg x = some (.ref f)) (hk : PySem.W.keepIn X.K (.ref f) = true) (hb : Binds X.K fd ps ds) (hd : Vals dvs ds) (od : Paired (fun v d => ∀ z F, Rp ⟨X.K, z⟩ F v d) dvs dds) (hx : Passes CX X E) (h : XA X B (a :: es) ta da)
    (hg : Gl X x := by rfl) (hdb : (x == ("__debug__" : Str)) = false := by decide) (he : starEach (a :: es) X.env = (false, eval a X.env) :: starEach es X.env := by rfl) (hpl : (backTo pos (starEach es X.env)).any (·.1) = false := by rfl) :
    XE X B (.Call (.Name x p) (a :: es) [] pos) (tCall (spOf X.K n fs) dvs E ta) (dCall n fs dds da) := ⟨pe_call G hr hg hm hk hb hd hx h.pa hdb he hpl, se_call h.sa od⟩
theorem x_call (G : FnOk X.prog X.w X.K X.mg X.base CX0 k f fd ps (spOf X.K n fs)) (hr : Room k X.A) (hm : X.mg x = some (.ref f)) (hk : PySem.W.keepIn X.K (.ref f) = true) (hb : Binds X.K fd ps []) (h : XA X B (a :: es) ta da)
    (hg : Gl X x := by rfl) (hdb : (x == ("__debug__" : Str)) = false := by decide) (he : starEach (a :: es) X.env = (false, eval a X.env) :: starEach es X.env := by rfl) (hpl : (backTo pos (starEach es X.env)).any (·.1) = false := by rfl) :
    XE X B (.Call (.Name x p) (a :: es) [] pos) (tCall (spOf X.K n fs) [] E0 ta) (dCall n fs [] da) := x_callD G hr hm hk hb .nil .nil pass0 h hg hdb he hpl
theorem x_call0 (G : FnOk X.prog X.w X.K X.mg X.base CX0 k f fd ps (spOf X.K n fs)) (hr : Room k X.A) (hm : X.mg x = some (.ref f)) (hk : PySem.W.keepIn X.K (.ref f) = true) (hb : Binds X.K fd ps []) (hg : Gl X x := by rfl) (hdb : (x == ("__debug__" : Str)) = false := by decide) :
    XE X B (.Call (.Name x p) [] [] pos) (tCall (spOf X.K n fs) [] E0 tNil) (dCall n fs [] dNil) := ⟨pe_call0 G hr hg hm hk hb .nil pass0 hdb, se_call sa_nil .nil⟩
/-- arguments lent -/
theorem x_callB (G : FnOk X.prog X.w X.K X.mg X.base CX0 k f fd ps (spOf X.K n fs)) (hr : Room k X.A) (hm : X.mg x = some (.ref f)) (hk : PySem.W.keepIn X.K (.ref f) = true) (hb : Binds X.K fd ps []) (h : XA X B (a :: es) ta da)
    (hg : Gl X x := by rfl) (hdb : (x == ("__debug__" : Str)) = false := by decide) (he : starEach (a :: es) X.env = (false, eval a X.env) :: starEach es X.env := by rfl) (hpl : (backTo pos (starEach es X.env)).any (·.1) = false := by rfl) :
    XE X B (.Call (.Name x p) (a :: es) [] pos) (tCall (spOf X.K n fs) [] E0 ta) (dCallB n fs [] da) := ⟨pe_call G hr hg hm hk hb .nil pass0 h.pa hdb he hpl, se_callB h.sa .nil⟩
end
/-! ### the law's own promise -/
def fsLaw : FS := fun as p => ∃ ns : List Int, as = [.val (.scr ns)] ∧ ns.length ≤ 63 ∧ ∀ as', p (.val (.bl true)) as'
theorem law_sp {K : PySem.W.Frag} {H : Hp} {a : Addr} {ns : List Int} (hl : ns.length ≤ 63) (hS : SqL K H a (ns.map V.int)) : spOf K 1 fsLaw [.ref a] H (fun v _ => v = .bl true) fun _ _ _ => False := by
  have one : ∀ {i : Nat} {p : Option Nat} {c : OC}, ([Sx.val (.scr ns)] : List Sx)[i]? ≠ some (.own p c) := fun {i p c} h => by
    cases i with
    | zero => simp at h
    | succ i => simp at h
  refine ⟨rfl, H, [], ⟨fun _ => False, fun _ h => h.elim⟩, [.val (.scr ns)], fun r _ => r = .val (.bl true), ?_, ⟨ns, rfl, hl, fun _ => rfl⟩, fun r as' v F' H' hp R ok _ => ?_⟩
  · refine ⟨Evl.Ex.refl H, rfl, fun i s t hs hg => ?_, fun i j a p c q c' h1 => absurd h1 one, fun b o e => ⟨fun _ => e, o, e⟩, Evl.Ex.refl H, fun b o _ _ => rfl, fun i a p c h1 => absurd h1 one, fun i a p c h1 => absurd h1 one, fun b o e => ⟨o, e⟩, fun a o e => ⟨o, e, .refl o⟩⟩
    cases i with
    | zero =>
      simp at hs hg
      subst hg; subst hs
      exact ⟨_, rfl, .scr hS⟩
    | succ i => simp at hg
  · subst hp
    have ok' : Rp ⟨K, fun _ => False⟩ F' v (.bl true) := ok
    cases ok' with
    | bl b => rfl
end DL

set_option Elab.async false
set_option linter.all false
set_option maxRecDepth 100000
set_option maxHeartbeats 2000000
namespace DL
open PySem PySem.Spec PyProof.Rows L2
open Evl (Ex ex_l ex_t)
section
variable {X : Cx} {B : Bs} {x : Str} {pos : Pos}
/-- a built-in class as a value -/
theorem x_bty {n : String} (hm : X.mg x = none) (hg : Gl X x := by rfl) (hv : bootBuiltins x = some (.type n) := by decide +kernel) (hn : x ≠ "__name__" := by decide) (hd : (x == ("__debug__" : Str)) = false := by decide) : XE X B (.Name x pos) (tC (.ty n)) (dC (.ty n)) :=
  ⟨pe_bltn hg hm hv rfl hn hd, se_c fun _ _ => .ty n⟩
/-! list(range(..)) -/
def rgD (a b : Int) : List D := (List.range (b - a).toNat).map fun i => D.int (a + (i : Nat))
theorem rg_rp {K : KZ} {F : Hp} (a b : Int) : RpAll K F (rgV a b) (rgD a b) := by
  unfold rgV rgD
  generalize List.range (b - a).toNat = l
  induction l with
  | nil => exact .nil
  | cons i l ih => exact .cons (.int _) ih
def dLRg1 (da : DE) (γ : Env) (q : RS → Env → Prop) : Prop := da γ fun s γ1 => match s.data with
  | .int n => -1000000 ≤ n ∧ n ≤ 1000000 ∧ q (.new (.lst (rgD 0 n))) γ1
  | _ => False
def dLRg2 (da db : DE) (γ : Env) (q : RS → Env → Prop) : Prop := da γ fun s γ1 => db γ1 fun t γ2 => s.ok γ2 ∧ match s.data, t.data with
  | .int m, .int n => -1000000 ≤ m ∧ m ≤ 1000000 ∧ -1000000 ≤ n ∧ n ≤ 1000000 ∧ q (.new (.lst (rgD m n))) γ2
  | _, _ => False
theorem x_listRg1 {a : Expr} {ta : TE} {da : DE} {p p2 pos2 : Pos} (hc : X.calm = true) (hm : X.mg "list" = none) (hm2 : X.mg "range" = none) (h : XE X B a ta da) (hg : Gl X "list" := by rfl) (hg2 : Gl X "range" := by rfl) (na : starEach [a] X.env = (false, eval a X.env) :: starEach [] X.env := by rfl)
    (nb : starEach [.Call (.Name "range" p2) [a] [] pos2] X.env = (false, eval (.Call (.Name "range" p2) [a] [] pos2) X.env) :: starEach [] X.env := by rfl) : XE X B (.Call (.Name "list" p) [.Call (.Name "range" p2) [a] [] pos2] [] pos) (tLstRg (tRg1 ta)) (dLRg1 da) := ⟨pe_listRg hc hg hm (prg_1 hg2 hm2 h.pe na) nb, fun F H σ γ Q q R hq k => by
  refine h.se F H σ γ _ _ R hq fun v F1 H1 γ1 s R1 e1 o1 h1 => ?_
  split at h1
  · rename_i n es
    have r := o1.rs R1
    rw [es] at r
    obtain ⟨h2, h3, h4⟩ := h1
    refine ⟨n, r.int, ⟨by omega, by omega, by omega, by omega, by omega⟩, fun p hp => ?_⟩
    obtain ⟨R', ok⟩ := R1.newL hp (rg_rp 0 n)
    exact k _ F1 _ γ1 _ R' e1 ok h4
  · exact h1.elim⟩
theorem x_listRg2 {a b : Expr} {ta tb : TE} {da db : DE} {p p2 pos2 : Pos} (hc : X.calm = true) (hm : X.mg "list" = none) (hm2 : X.mg "range" = none) (h : XE X B a ta da) (h' : XE X B b tb db) (hg : Gl X "list" := by rfl) (hg2 : Gl X "range" := by rfl) (na : starEach [a, b] X.env = (false, eval a X.env) :: starEach [b] X.env := by rfl)
    (na2 : starEach [b] X.env = (false, eval b X.env) :: starEach [] X.env := by rfl) (hp : (backTo pos2 (starEach [b] X.env)).any (·.1) = false := by rfl)
    (nb : starEach [.Call (.Name "range" p2) [a, b] [] pos2] X.env = (false, eval (.Call (.Name "range" p2) [a, b] [] pos2) X.env) :: starEach [] X.env := by rfl) : XE X B (.Call (.Name "list" p) [.Call (.Name "range" p2) [a, b] [] pos2] [] pos) (tLstRg (tRg2 ta tb)) (dLRg2 da db) := ⟨pe_listRg hc hg hm (prg_2 hg2 hm2 h.pe h'.pe na na2 hp) nb, fun F H σ γ Q q R hq k => by
  refine h.se F H σ γ _ _ R hq fun v F1 H1 γ1 s R1 e1 o1 h1 => ?_
  obtain ⟨F2, R2, e2, o2⟩ := o1.fz R1
  refine h'.se F2 H1 σ γ1 _ _ R2 h1 fun w F3 H3 γ3 t R3 e3 o3 ⟨h3, h4⟩ => ?_
  split at h4
  · rename_i m n es et
    have rv := (o2.later e3 R3 (fz_ok s γ3 h3) (fz_idem s)).rs R3
    have rw' := o3.rs R3
    rw [RS.fz_data, es] at rv
    rw [et] at rw'
    obtain ⟨h5, h6, h7, h8, h9⟩ := h4
    refine ⟨m, n, rv.int, rw'.int, ⟨by omega, by omega, by omega, by omega, by omega⟩, fun p hp => ?_⟩
    obtain ⟨R', ok⟩ := R3.newL hp (rg_rp m n)
    exact k _ F3 _ γ3 _ R' ((e1.trans e2).trans e3) ok h9
  · exact h4.elim⟩
end

/-! ### the order of keys: numbers, texts, pairs of these -/
def ltV : V → V → Bool
  | .int i, .int j => decide (i < j)
  | .str i, .str j => decide (i.cps.toList < j.cps.toList)
  | _, _ => false
def likeV : V → V → Bool
  | .int _, .int _ => true
  | .str _, .str _ => true
  | _, _ => false
def eqW : V → V → Bool
  | .int i, .int j => decide (i = j)
  | .str i, .str j => decide (i = j)
  | _, _ => false
inductive LtV (K : PySem.W.Frag) (H : Hp) : V → V → Bool → Prop
  | flat {x y : V} : likeV x y = true → LtV K H x y (ltV x y)
  | pair {a b : Addr} {x1 x2 y1 y2 : V} : SqT K H a [x1, x2] → SqT K H b [y1, y2] → likeV x1 y1 = true → likeV x2 y2 = true → LtV K H (.ref a) (.ref b) (if eqW x1 y1 = true then ltV x2 y2 else ltV x1 y1)
def rLtK (K : PySem.W.Frag) : R2 := fun x y H Q => ∃ b, LtV K H x y b ∧ Q (.bl b) H
theorem rc_flat {A : Around} {s : Shared} {x y : V} {u v : Value} (rx : RelV x u) (ry : RelV y v) (h : likeV x y = true) : Ob.RcOp .Lt A s u v (ltV x y) := fun prog w E Q hq => by
  cases x with
  | int i =>
    cases y with
    | int j =>
      obtain ⟨t, rfl⟩ := rx
      obtain ⟨t', rfl⟩ := ry
      exact PyProof.Rows.lt_int hq
    | _ => cases h
  | str i =>
    cases y with
    | str j =>
      obtain ⟨t, rfl⟩ := rx
      obtain ⟨t', rfl⟩ := ry
      exact PyProof.Rows.lt_str (by
        have e : ltV (.str i) (.str j) = decide (i.cps.toList < j.cps.toList) := rfl
        rw [e] at hq
        exact hq)
    | _ => cases h
  | _ => cases h
theorem eq_flat {A : Around} {s : Shared} {x y : V} {u v : Value} (rx : RelV x u) (ry : RelV y v) (h : likeV x y = true) : SeqAt.EqAt A s u v (eqW x y) := by
  cases x with
  | int i =>
    cases y with
    | int j =>
      have q := eqAt_V (A := A) (s := s) rx ry rfl rfl
      have e : eqV (.int i) (.int j) = eqW (.int i) (.int j) := Bool.beq_eq_decide_eq i j
      rw [e] at q
      exact q
    | _ => cases h
  | str i =>
    cases y with
    | str j =>
      have q := eqAt_V (A := A) (s := s) rx ry rfl rfl
      have e : eqV (.str i) (.str j) = eqW (.str i) (.str j) := by
        show (i == j) = decide (i = j)
        by_cases z : i = j
        · subst z; simp
        · rw [decide_eq_false z]; exact beq_eq_false_iff_ne.mpr z
      rw [e] at q
      exact q
    | _ => cases h
  | _ => cases h
theorem op_ltK {X : Cx} (hu : X.A.units < cLine) : OpR X (compareOp .Lt) (rLtK X.K) := by
  intro pins s σ H x y v u Q I rx ry h
  obtain ⟨b, hb, q⟩ := h
  cases hb with
  | flat hl => exact rc_flat rx ry hl X.prog X.w X.xe (EP X pins σ Q) ⟨.bl _, H, I, rfl, q⟩
  | @pair a b x1 x2 y1 y2 ha hb h1 h2 =>
    cases rx
    cases ry
    obtain ⟨its, r1, p1, _⟩ := I.tuple ha
    obtain ⟨its2, r2, p2, _⟩ := I.tuple hb
    cases r1 with
    | cons ra1 ra => cases ra with
      | cons ra2 ra => cases ra with
        | nil => cases r2 with
          | cons rb1 rb => cases rb with
            | cons rb2 rb => cases rb with
              | nil =>
                have R := Ob.RcOp.tuples_lt (A := X.A) (s := s) (e := fun j => if j = 0 then eqW x1 y1 else eqW x2 y2) (r := fun j => if j = 0 then ltV x1 y1 else ltV x2 y2) p1 p2 hu (fun j l1 l2 => by
                  match j, l1, l2 with
                  | 0, _, _ => exact eq_flat ra1 rb1 h1
                  | 1, _, _ => exact eq_flat ra2 rb2 h2
                  | j + 2, l1, _ => exact absurd l1 (by simp)) (fun j l1 l2 _ => by
                  match j, l1, l2 with
                  | 0, _, _ => exact rc_flat ra1 rb1 h1
                  | 1, _, _ => exact rc_flat ra2 rb2 h2
                  | j + 2, l1, _ => exact absurd l1 (by simp))
                refine R X.prog X.w X.xe (EP X pins σ Q) ⟨.bl _, H, I, ?_, q⟩
                have irr : ∀ {x y : V}, eqW x y = true → ltV x y = false := fun {x y} h => by
                  cases x with
                  | int i => cases y with
                    | int j =>
                      have e : i = j := of_decide_eq_true h
                      subst e
                      exact decide_eq_false (Int.lt_irrefl i)
                    | _ => cases h
                  | str i => cases y with
                    | str j =>
                      have e : i = j := of_decide_eq_true h
                      subst e
                      exact decide_eq_false (List.lt_irrefl _)
                    | _ => cases h
                  | _ => cases h
                show Value.bool _ = Value.bool _
                congr 1
                show Ob.lexAt (fun j => if j = 0 then eqW x1 y1 else eqW x2 y2) (fun j => if j = 0 then ltV x1 y1 else ltV x2 y2) (decide (2 < 2)) 0 2 = _
                unfold Ob.lexAt
                by_cases c : eqW x1 y1 = true
                · rw [if_pos (by simpa using c), if_pos c]
                  unfold Ob.lexAt
                  by_cases c2 : eqW x2 y2 = true
                  · rw [if_pos (by simpa using c2), irr c2]
                    rfl
                  · rw [if_neg (by simpa using c2)]
                    rfl
                · rw [if_neg (by simpa using c), if_neg c]
                  rfl
def ltD : D → D → Bool
  | .int i, .int j => decide (i < j)
  | .str i, .str j => decide (i.cps.toList < j.cps.toList)
  | _, _ => false
def likeD : D → D → Bool
  | .int _, .int _ => true
  | .str _, .str _ => true
  | _, _ => false
def eqW' : D → D → Bool
  | .int i, .int j => decide (i = j)
  | .str i, .str j => decide (i = j)
  | _, _ => false
def fLtK : D → D → (RS → Prop) → Prop
  | .int i, .int j, q => q (.val (.bl (decide (i < j))))
  | .str i, .str j, q => q (.val (.bl (decide (i.cps.toList < j.cps.toList))))
  | .tup [a1, a2], .tup [b1, b2], q => likeD a1 b1 = true ∧ likeD a2 b2 = true ∧ q (.val (.bl (if eqW' a1 b1 = true then ltD a2 b2 else ltD a1 b1)))
  | _, _, _ => False
theorem like_rp {K : KZ} {F : Hp} {x y : V} {a b : D} (rx : Rp K F x a) (ry : Rp K F y b) (h : likeD a b = true) : likeV x y = true ∧ ltV x y = ltD a b ∧ eqW x y = eqW' a b := by
  cases rx <;> first | (cases ry <;> first | exact ⟨rfl, rfl, rfl⟩ | cases h) | cases h
theorem od_ltK {K : PySem.W.Frag} : OpD K (rLtK K) fLtK := fun B F H σ γ x y d e Q q R rx ry hf k => by
  unfold fLtK at hf
  split at hf
  · rw [rx.int, ry.int]
    exact ⟨_, .flat rfl, vk R k (.bl _) hf⟩
  · rw [rx.str, ry.str]
    exact ⟨_, .flat rfl, vk R k (.bl _) hf⟩
  · obtain ⟨a, vs, rfl, h1, r1⟩ := rx.tup R.fh
    obtain ⟨b, ws, rfl, h2, r2⟩ := ry.tup R.fh
    cases r1 with
    | cons ra1 r1 => cases r1 with
      | cons ra2 r1 => cases r1 with
        | nil => cases r2 with
          | cons rb1 r2 => cases r2 with
            | cons rb2 r2 => cases r2 with
              | nil =>
                obtain ⟨l1, l2, hq⟩ := hf
                obtain ⟨c1, c2, c3⟩ := like_rp ra1 rb1 l1
                obtain ⟨d1, d2, d3⟩ := like_rp ra2 rb2 l2
                refine ⟨_, .pair h1 h2 c1 d1, ?_⟩
                rw [c3, d2, c2]
                exact vk R k (.bl _) hq
  · exact hf.elim

/-! ### steps -/
/-- what comes later is not looked into -/
def Later (t : DS) (d : DEnds) (γ : Env) : Prop := t d γ
theorem q_seq {s t : DS} {d : DEnds} {γ : Env} (h : s { nx := fun γ1 => Later t d γ1, rt := d.rt, bk := d.bk, ct := d.ct } γ) : dSeq s t d γ := h
theorem q_later {t : DS} {d : DEnds} {γ : Env} (h : t d γ) : Later t d γ := h
abbrev fAdd : D → D → (RS → Prop) → Prop := fI0 fun i j => .int (i + j)
abbrev fSub : D → D → (RS → Prop) → Prop := fI0 fun i j => .int (i - j)
abbrev fMul : D → D → (RS → Prop) → Prop := fI CMul fun i j => .int (i * j)
abbrev fDiv : D → D → (RS → Prop) → Prop := fI CDiv fun i j => .int (i / j)
abbrev fMod : D → D → (RS → Prop) → Prop := fI (fun _ j => 0 < j) fun i j => .int (i % j)
abbrev fMulW : D → D → (RS → Prop) → Prop := fI CMulW fun i j => .int (i * j)
abbrev fDivW : D → D → (RS → Prop) → Prop := fI CDivW fun i j => .int (i / j)
abbrev fPow : D → D → (RS → Prop) → Prop := fI CPow fun i j => .int (i ^ j.toNat)
abbrev fShl : D → D → (RS → Prop) → Prop := fI CPow fun i j => .int (i * 2 ^ j.toNat)
abbrev fShr : D → D → (RS → Prop) → Prop := fI (fun _ j => 0 ≤ j) fun i j => .int (i / 2 ^ j.toNat)
abbrev fLt : D → D → (RS → Prop) → Prop := fI0 fun i j => .bl (decide (i < j))
abbrev fLe : D → D → (RS → Prop) → Prop := fI0 fun i j => .bl (decide (i ≤ j))
abbrev fGt : D → D → (RS → Prop) → Prop := fI0 fun i j => .bl (decide (j < i))
abbrev fGe : D → D → (RS → Prop) → Prop := fI0 fun i j => .bl (decide (j ≤ i))
abbrev fAnd : D → D → (RS → Prop) → Prop := fI0 fun i j => .int (Builtin.bitAnd i j)
abbrev fOr : D → D → (RS → Prop) → Prop := fI0 fun i j => .int (Builtin.bitOr i j)
abbrev fXor : D → D → (RS → Prop) → Prop := fI0 fun i j => .int (Builtin.bitXor i j)
abbrev fNeg : D → (RS → Prop) → Prop := fU fun i => .int (-i)
abbrev fMax2 : List D → (RS → Prop) → Prop := fI2 fun i j => if j > i then j else i
abbrev fMin2 : List D → (RS → Prop) → Prop := fI2 fun i j => if j < i then j else i
end DL

set_option Elab.async false
set_option linter.all false
set_option maxRecDepth 100000
set_option maxHeartbeats 2000000
namespace DL
open PySem PySem.Spec PyProof.Rows L2
/-! ### == of the data that laws hold against one another -/
/-- data of depth n at most -/
def dOkN (n : Nat) (d : D) : Bool := d.pure && d.py.canLay0 && decide (d.py.depth ≤ n)
theorem dOk_of {n : Nat} {d : D} (h : dOkN n d = true) (hn : n ≤ 64) : dOk d = true := by
  unfold dOkN at h
  simp only [Bool.and_eq_true, decide_eq_true_eq] at h
  unfold dOk SeqAt.shaped
  simp only [Bool.and_eq_true, decide_eq_true_eq]
  exact ⟨h.1.1, h.1.2, Nat.le_trans h.2 hn⟩
theorem all_ok {α : Type} {f : α → D} {n : Nat} : ∀ {xs : List α}, (∀ x ∈ xs, dOkN n (f x) = true) → pureAll (xs.map f) = true ∧ PyData.canLayAll0 (pyAll (xs.map f)) = true ∧ PyData.depthAll (pyAll (xs.map f)) ≤ n
  | [], _ => ⟨rfl, rfl, Nat.zero_le _⟩
  | x :: xs, h => by
    have h1 := h x List.mem_cons_self
    obtain ⟨a, b, c⟩ := all_ok (xs := xs) fun y hy => h y (List.mem_cons_of_mem _ hy)
    unfold dOkN at h1
    simp only [Bool.and_eq_true, decide_eq_true_eq] at h1
    refine ⟨?_, ?_, ?_⟩
    · rw [List.map_cons, pureAll, h1.1.1, a]; rfl
    · rw [List.map_cons, pyAll, PyData.canLayAll0, h1.1.2, b]; rfl
    · rw [List.map_cons, pyAll, PyData.depthAll]
      exact Nat.max_le.mpr ⟨h1.2, c⟩
theorem ok_lst {α : Type} {f : α → D} {n : Nat} {xs : List α} (h : ∀ x ∈ xs, dOkN n (f x) = true) : dOkN (n + 1) (.lst (xs.map f)) = true := by
  obtain ⟨a, b, c⟩ := all_ok h
  unfold dOkN
  simp only [D.pure, D.py, PyData.canLay0, PyData.depth, a, b, Bool.true_and, decide_eq_true_eq]
  omega
theorem ok_tup {α : Type} {f : α → D} {n : Nat} {xs : List α} (h : ∀ x ∈ xs, dOkN n (f x) = true) : dOkN (n + 1) (.tup (xs.map f)) = true := by
  obtain ⟨a, b, c⟩ := all_ok h
  unfold dOkN
  simp only [D.pure, D.py, PyData.canLay0, PyData.depth, a, b, Bool.true_and, decide_eq_true_eq]
  omega
theorem ok_int (i : Int) : dOkN 0 (.int i) = true := by
  unfold dOkN
  simp only [D.pure, D.py, PyData.canLay0, PyData.depth, Bool.true_and, decide_eq_true_eq]
  omega
theorem ok_mono {n m : Nat} {d : D} (h : dOkN n d = true) (l : n ≤ m) : dOkN m d = true := by
  unfold dOkN at h ⊢
  simp only [Bool.and_eq_true, decide_eq_true_eq] at h ⊢
  exact ⟨h.1, Nat.le_trans h.2 l⟩
theorem dOk_ints (ns : List Int) : dOk (.lst (ns.map D.int)) = true := dOk_of (ok_lst fun x _ => ok_int x) (by decide)
theorem dOk_nil : dOk (.lst []) = true := dOk_ints []
theorem dOk_int (i : Int) : dOk (.int i) = true := dOk_of (ok_int i) (by decide)
/-- == decides what f tells apart -/
def EqF {α : Type} [DecidableEq α] (f : α → D) (S : α → Prop) : Prop := ∀ x y, S x → S y → deq (f x) (f y) = decide (x = y)
theorem eqv_all {α : Type} [DecidableEq α] {f : α → D} {S : α → Prop} (h : EqF f S) : ∀ {xs ys : List α}, (∀ x ∈ xs, S x) → (∀ y ∈ ys, S y) → PyData.eqvAll (pyAll (xs.map f)) (pyAll (ys.map f)) = decide (xs = ys)
  | [], [], _, _ => by simp [pyAll, PyData.eqvAll]
  | [], _ :: _, _, _ => by simp [pyAll, PyData.eqvAll]
  | _ :: _, [], _, _ => by simp [pyAll, PyData.eqvAll]
  | x :: xs, y :: ys, hx, hy => by
    have h1 : PyData.eqv (f x).py (f y).py = decide (x = y) := h x y (hx x List.mem_cons_self) (hy y List.mem_cons_self)
    have h2 := eqv_all h (xs := xs) (ys := ys) (fun z hz => hx z (List.mem_cons_of_mem _ hz)) fun z hz => hy z (List.mem_cons_of_mem _ hz)
    rw [List.map_cons, List.map_cons, pyAll, pyAll, PyData.eqvAll, h1, h2]
    by_cases c : x = y
    · by_cases c2 : xs = ys
      · simp [c, c2]
      · simp [c, c2]
    · simp [c]
theorem deq_lst {α : Type} [DecidableEq α] {f : α → D} {S : α → Prop} (h : EqF f S) {xs ys : List α} (hx : ∀ x ∈ xs, S x) (hy : ∀ y ∈ ys, S y) : deq (.lst (xs.map f)) (.lst (ys.map f)) = decide (xs = ys) := by
  unfold deq
  simp only [D.py, PyData.eqv]
  exact eqv_all h hx hy
theorem deq_tup {α : Type} [DecidableEq α] {f : α → D} {S : α → Prop} (h : EqF f S) {xs ys : List α} (hx : ∀ x ∈ xs, S x) (hy : ∀ y ∈ ys, S y) : deq (.tup (xs.map f)) (.tup (ys.map f)) = decide (xs = ys) := by
  unfold deq
  simp only [D.py, PyData.eqv]
  exact eqv_all h hx hy
theorem eqF_int : EqF D.int (fun _ => True) := fun x y _ _ => by
  unfold deq
  simp only [D.py, PyData.eqv]
  exact Bool.beq_eq_decide_eq x y
theorem deq_ints (ns ms : List Int) : deq (.lst (ns.map D.int)) (.lst (ms.map D.int)) = decide (ns = ms) := deq_lst eqF_int (fun _ _ => trivial) fun _ _ => trivial
theorem deq_ints_nil (ns : List Int) : deq (.lst (ns.map D.int)) (.lst []) = decide (ns = []) := deq_ints ns []
theorem deq_refl_of {α : Type} [DecidableEq α] {f : α → D} {S : α → Prop} (h : EqF f S) {x : α} (hx : S x) : deq (f x) (f x) = true := by rw [h x x hx hx]; simp
/-! ### small facts -/
theorem atI_nil {α : Type} {i : Int} : atI ([] : List α) i = none := by
  unfold atI ixN
  simp
theorem atI_ofNat {α : Type} {xs : List α} {i : Nat} (h : i < xs.length) : atI xs (i : Int) = some xs[i] := atI_nat (List.getElem?_eq_getElem h)
theorem atI_zero {α : Type} {x : α} {xs : List α} : atI (x :: xs) 0 = some x := atI_nat (j := 0) rfl
theorem ixN_of {n j : Nat} (h : j < n) : ixN n (j : Int) = some j := by
  unfold ixN
  rw [if_pos (by omega), if_pos (by omega)]
  simp
theorem ixN_zero {n : Nat} (h : 0 < n) : ixN n 0 = some 0 := ixN_of h
theorem seqIx_zero {n : Nat} (h : 0 < n) : seqIndex? 0 n = some 0 := by
  unfold seqIndex?
  simp
  omega
theorem own_ex {p : Option Nat} {c : OC} : (∃ q, Sx.own p c = Sx.own q c) = True := eq_true ⟨p, rfl⟩
end DL

set_option Elab.async false
set_option linter.all false
set_option maxRecDepth 100000
set_option maxHeartbeats 2000000
namespace DL
open PySem PySem.Spec PyProof.Rows L2
open Evl (Ex ex_l ex_t)
/-! ### newer than a line -/
/-- a new thing is told to be new -/
def dFr (de : DE) (γ : Env) (q : RS → Env → Prop) : Prop := de γ fun s γ1 => match s with
  | .new c => q (.val (.fr c.data)) γ1
  | _ => False
/-- and that is forgotten -/
def dSt (de : DE) (γ : Env) (q : RS → Env → Prop) : Prop := de γ fun s γ1 => match s with
  | .val (.fr d) => q (.val d) γ1
  | .val d => q (.val d) γ1
  | .new c => q (.new c) γ1
  | .own _ _ => False
theorem se_fr {K : PySem.W.Frag} {B : Bs} {te : TE} {de : DE} (h : SE K B te de) : SE K B te (dFr de) := fun F H σ γ Q q R hq k => by
  refine h F H σ γ _ _ R hq fun v F1 H1 γ1 s R1 e1 o1 h1 => ?_
  cases s with
  | val d => exact h1.elim
  | own j c => exact h1.elim
  | new c =>
    obtain ⟨F2, R2, e2, o2⟩ := o1.fz R1
    obtain ⟨a, rfl, N⟩ := o1
    have nz : ¬ B.z a := fun z => by
      obtain ⟨o, e⟩ := B.zn a z
      rw [N.bn] at e
      cases e
    exact k _ F2 H1 γ1 (.val (.fr c.data)) R2 (e1.trans e2) (Rp.fr nz o2) h1
theorem se_st {K : PySem.W.Frag} {B : Bs} {te : TE} {de : DE} (h : SE K B te de) : SE K B te (dSt de) := fun F H σ γ Q q R hq k => by
  refine h F H σ γ _ _ R hq fun v F1 H1 γ1 s R1 e1 o1 h1 => ?_
  cases s with
  | val d =>
    cases d with
    | fr d =>
      have o1' : Rp (B.kz K) F1 v (.fr d) := o1
      cases o1' with
      | fr n r => exact k _ F1 H1 γ1 (.val d) R1 e1 r h1
    | _ => exact k _ F1 H1 γ1 _ R1 e1 o1 h1
  | own j c => exact h1.elim
  | new c => exact k _ F1 H1 γ1 _ R1 e1 o1 h1
theorem x_fr {X : Cx} {B : Bs} {e : Expr} {te : TE} {de : DE} (h : XE X B e te de) : XE X B e te (dFr de) := ⟨h.pe, se_fr h.se⟩
theorem x_st {X : Cx} {B : Bs} {e : Expr} {te : TE} {de : DE} (h : XE X B e te de) : XE X B e te (dSt de) := ⟨h.pe, se_st h.se⟩
/-- a tuple target in a comprehension -/
theorem g_tupC {X : Cx} {B : Bs} {es : List Expr} {k n : Nat} {pos : Pos} {gs : TGs} {dgs : DGs} {ix : List Nat} (K : PySem.W.Frag) (hK : X.K = K) (hc : X.calm = true) (h : XGs X B es gs dgs ix) (hn : (assignEach es X.env).length = n := by rfl) (hst : (assignEach es X.env).findIdx? (·.1) = none := by rfl) : XG X B (.Tuple es k pos) (gTup K n gs) (gT n dgs) ix := by
  have g := g_tup hc h hn hst (k := k) (pos := pos)
  rw [hK] at g
  exact g
/-- a call in a comprehension -/
theorem x_callC {X : Cx} {B : Bs} {a : Expr} {es : List Expr} {ta : TA} {da : DA} {k n : Nat} {f : Addr} {fd : FuncData} {ps : List Str} {fs : FS} {x : Str} {p pos : Pos} (K : PySem.W.Frag) (hK : X.K = K) (G : FnOk X.prog X.w X.K X.mg X.base CX0 k f fd ps (spOf X.K n fs)) (hr : Room k X.A) (hm : X.mg x = some (.ref f)) (hk : PySem.W.keepIn X.K (.ref f) = true) (hb : Binds X.K fd ps []) (h : XA X B (a :: es) ta da)
    (hg : Gl X x := by rfl) (hdb : (x == ("__debug__" : Str)) = false := by decide) (he : starEach (a :: es) X.env = (false, eval a X.env) :: starEach es X.env := by rfl) (hpl : (backTo pos (starEach es X.env)).any (·.1) = false := by rfl) :
    XE X B (.Call (.Name x p) (a :: es) [] pos) (tCall (spOf K n fs) [] E0 ta) (dCall n fs [] da) := by
  have g := x_call (p := p) (pos := pos) G hr hm hk hb h hg hdb he hpl
  rw [hK] at g
  exact g
mutual
/-- no mark of newness in it -/
def D.nofr : D → Bool
  | .fr _ => false
  | .lst xs => nofrAll xs | .tup xs => nofrAll xs | .obj _ fs => nofrF fs | .dct ks => nofrK ks | .ldc ks => nofrK ks
  | _ => true
def nofrAll : List D → Bool
  | [] => true
  | x :: xs => x.nofr && nofrAll xs
def nofrF : List (Str × D) → Bool
  | [] => true
  | (_, x) :: xs => x.nofr && nofrF xs
def nofrK : List (Key × D) → Bool
  | [] => true
  | (_, x) :: xs => x.nofr && nofrK xs
end
section
variable {K : PySem.W.Frag} {B : Bs} {z z' : Addr → Prop} {F : Hp}
mutual
theorem Rp.line : ∀ {v : V} {d : D}, Rp ⟨K, z⟩ F v d → d.nofr = true → Rp ⟨K, z'⟩ F v d
  | _, _, .non, _ => .non
  | _, _, .bl b, _ => .bl b
  | _, _, .int b, _ => .int b
  | _, _, .str b, _ => .str b
  | _, _, .ref b, _ => .ref b
  | _, _, .ty b, _ => .ty b
  | _, _, .kls b, _ => .kls b
  | _, _, .lst h a, n => .lst h (RpAll.line a n)
  | _, _, .scr h, _ => .scr h
  | _, _, .tup h a, n => .tup h (RpAll.line a n)
  | _, _, .obj h1 h2 a, n => .obj h1 h2 (RpFs.line a n)
  | _, _, .dct h1 a, n => .dct h1 (RpKs.line a n)
  | _, _, .ldc h1 a, n => .ldc h1 (RpKs.line a n)
theorem RpAll.line : ∀ {v : List V} {d : List D}, RpAll ⟨K, z⟩ F v d → nofrAll d = true → RpAll ⟨K, z'⟩ F v d
  | _, _, .nil, _ => .nil
  | _, _, .cons h t, n => .cons (Rp.line h (Bool.and_eq_true_iff.mp n).1) (RpAll.line t (Bool.and_eq_true_iff.mp n).2)
theorem RpFs.line : ∀ {v : List (Str × V)} {d : List (Str × D)}, RpFs ⟨K, z⟩ F v d → nofrF d = true → RpFs ⟨K, z'⟩ F v d
  | _, _, .nil, _ => .nil
  | _, _, .cons h t, n => .cons (Rp.line h (Bool.and_eq_true_iff.mp n).1) (RpFs.line t (Bool.and_eq_true_iff.mp n).2)
theorem RpKs.line : ∀ {v : List (Key × V)} {d : List (Key × D)}, RpKs ⟨K, z⟩ F v d → nofrK d = true → RpKs ⟨K, z'⟩ F v d
  | _, _, .nil, _ => .nil
  | _, _, .cons h t, n => .cons (Rp.line h (Bool.and_eq_true_iff.mp n).1) (RpKs.line t (Bool.and_eq_true_iff.mp n).2)
end
end
def flatAll : List D → Prop
  | [] => True
  | x :: xs => flatD x ∧ flatAll xs
theorem flat_rp {K K' : KZ} {F F' : Hp} : ∀ {vs : List V} {ds : List D}, RpAll K F vs ds → flatAll ds → RpAll K' F' vs ds
  | _, _, .nil, _ => .nil
  | _, _, .cons h t, ⟨a, b⟩ => .cons (by
    cases h with
    | non => exact .non
    | bl b => exact .bl b
    | int i => exact .int i
    | str x => exact .str x
    | _ => exact a.elim) (flat_rp t b)
theorem flat_ints : ∀ ns : List Int, flatAll (ns.map D.int)
  | [] => trivial
  | _ :: ns => ⟨trivial, flat_ints ns⟩
/-- f(..) behind a line: a list of flat things that is newer is the caller's -/
def meltR : RS → (List D → Prop) → Prop
  | .val (.fr (.lst ds)), q => q ds
  | .new (.lst ds), q => q ds
  | _, _ => False
def dCallZ (n : Nat) (fs : FS) (da : DA) (γ : Env) (q : RS → Env → Prop) : Prop := da γ fun rs γ1 => allV rs ∧ rs.length = n ∧ nofrAll (rs.map RS.data) = true ∧ fs ((rs.map RS.data).map Sx.val) fun r _ => meltR r fun ds => flatAll ds ∧ q (.new (.lst ds)) γ1
theorem se_callZ {K : PySem.W.Frag} {B : Bs} {n : Nat} {fs : FS} {E : XK} {ta : TA} {da : DA} (h : SA K B ta da) : SE K B (tCall (spOf K n fs) [] E ta) (dCallZ n fs da) := fun F H σ γ Q q R hq k => by
  refine h F H σ γ _ _ R hq fun vs F1 H1 γ1 rs R1 e1 o1 ⟨h0, h2, hn, h3⟩ => ?_
  have ra := allV_rp o1 h0
  let Z : ZN H1 := ⟨fun a => ∃ o, H1 a = some o, fun _ h => h⟩
  have ra' : RpAll ⟨K, Z.1⟩ F1 vs (rs.map RS.data) := ra.line hn
  have RE : Rep K (entry F1 H1 [] Z (vs ++ [])) F1 H1 ((vs ++ []).map some) ((rs.map RS.data).map Sx.val) := by
    have none : ∀ {i : Nat} {p : Option Nat} {c : OC}, ((rs.map RS.data).map Sx.val)[i]? ≠ some (.own p c) := fun {i p c} h => by
      rw [List.getElem?_map] at h
      cases q : (rs.map RS.data)[i]? with
      | none => rw [q] at h; cases h
      | some d => rw [q] at h; cases h
    rw [List.append_nil]
    refine ⟨R1.fh, by rw [List.length_map, List.length_map, P_len ra'.p], fun i s t hs hg => ?_, fun i j a p c q c' h1 => absurd h1 none, fun b o e => ⟨fun _ => e, o, e⟩, Evl.Ex.refl F1, fun b o _ _ => rfl, fun i a p c h1 => absurd h1 none, fun i a p c h1 => absurd h1 none, fun b o e => ⟨o, e⟩, fun a o e => ⟨o, e, .refl o⟩⟩
    rw [List.getElem?_map] at hs hg
    cases q : (rs.map RS.data)[i]? with
    | none => rw [q] at hg; cases hg
    | some d =>
      rw [q] at hg
      cases hg
      obtain ⟨v, hv, r⟩ := P_get ra'.p q
      rw [hv] at hs
      exact ⟨v, (Option.some.inj hs).symm, r⟩
  refine ⟨by rw [List.append_nil, P_len o1]; exact h2, F1, [], Z, _, _, RE, h3, fun r as' v F3 H3 hp R3 ok hk => ?_⟩
  have eH : Ex H1 H3 := fun b o e => (R3.b1 b o e).1 (by simp [entry])
  have fin : ∀ {a : Addr} {ws : List V} {ds : List D} {K' : KZ} {F' : Hp}, H1 a = none → H3 a = some (.lst ws) → RpAll K' F' ws ds → flatAll ds → v = .ref a → q (.new (.lst ds)) γ1 → Q v H3 := fun {a ws ds K' F'} ha hl hr hf hv hq => by
    obtain ⟨f1, f2, f3, f4⟩ := R1.fresh ha
    exact k v F1 H3 γ1 (.new (.lst ds)) (R1.grow eH) e1 ⟨a, hv, f1, ⟨ws, hl, flat_rp hr hf⟩, f3, .inr f2, f4⟩ hq
  have nz : ∀ {a : Addr}, ¬ Z.1 a → H1 a = none := fun {a} h => by
    cases e : H1 a with
    | none => rfl
    | some o => exact absurd ⟨o, e⟩ h
  unfold meltR at hp
  split at hp
  · rename_i ds
    have ok' : Rp ⟨K, Z.1⟩ F3 v (.fr (.lst ds)) := ok
    cases ok' with
    | fr nzr r => cases r with
      | lst hl hr => exact fin (nz nzr) (R3.fh _ _ hl) hr hp.1 rfl hp.2
  · rename_i ds
    obtain ⟨a, ea, N⟩ := ok
    obtain ⟨ws, hl, hr⟩ := N.ok
    exact fin N.bn hl hr hp.1 ea hp.2
  · exact hp.elim
section
variable {X : Cx} {B : Bs} {a : Expr} {es : List Expr} {ta : TA} {da : DA} {k n : Nat} {f : Addr} {fd : FuncData} {ps : List Str} {fs : FS} {x : Str} {p pos : Pos}
theorem x_callZ (G : FnOk X.prog X.w X.K X.mg X.base CX0 k f fd ps (spOf X.K n fs)) (hr : Room k X.A) (hm : X.mg x = some (.ref f)) (hk : PySem.W.keepIn X.K (.ref f) = true) (hb : Binds X.K fd ps []) (h : XA X B (a :: es) ta da)
    (hg : Gl X x := by rfl) (hdb : (x == ("__debug__" : Str)) = false := by decide) (he : starEach (a :: es) X.env = (false, eval a X.env) :: starEach es X.env := by rfl) (hpl : (backTo pos (starEach es X.env)).any (·.1) = false := by rfl) :
    XE X B (.Call (.Name x p) (a :: es) [] pos) (tCall (spOf X.K n fs) [] E0 ta) (dCallZ n fs da) := ⟨pe_call G hr hg hm hk hb .nil pass0 h.pa hdb he hpl, se_callZ h.sa⟩
end
/-! ### small facts for simp -/
theorem ixN_s0 {n : Nat} : ixN (n + 1) 0 = some 0 := ixN_zero (Nat.succ_pos n)
theorem seqIx_s0 {n : Nat} : seqIndex? 0 (n + 1) = some 0 := seqIx_zero (Nat.succ_pos n)
theorem divW {i j : Int} (h : 0 < j) (h2 : j < 2 ^ 40) : CDivW i j := by
  refine ⟨h, Nat.lt_trans ((Nat.log2_lt (by omega)).mpr (show j.natAbs < 2 ^ 40 by omega)) (by decide)⟩
/-! ### loops, their bodies unread -/
def LcOk (n : Nat) (y : Nat → D → Prop) (γ1 : Env) (dg : DG) (dt : DT) (de : DE) (vs : List Nat) (q : RS → Env → Prop) : Prop := n ≤ 1000000 ∧ ∃ I : Nat → List D → Env → Prop, I 0 [] (wipeG γ1 vs) ∧
  (∀ i acc γ2, i < n → I i acc γ2 → ∀ x, y i x → dg x γ2 fun γ3 => dt γ3 fun b γ4 => (b = true → de γ4 fun s γ5 => s.kept ∧ I (i + 1) (acc ++ [s.data]) (wipeG γ5 vs)) ∧ (b = false → I (i + 1) acc (wipeG γ4 vs))) ∧
  ∀ acc γ2, I n acc γ2 → q (.new (.lst acc)) (restore γ1 γ2 vs)
theorem dLc_eq {di : DI} {dg : DG} {dt : DT} {de : DE} {vs : List Nat} {γ : Env} {q : RS → Env → Prop} : dLc di dg dt de vs γ q = di γ fun n y γ1 => LcOk n y γ1 dg dt de vs q := rfl
theorem lc_ok {n : Nat} {y : Nat → D → Prop} {γ1 : Env} {dg : DG} {dt : DT} {de : DE} {vs : List Nat} {q : RS → Env → Prop} (hn : n ≤ 1000000) (I : Nat → List D → Env → Prop) (h0 : I 0 [] (wipeG γ1 vs))
    (hs : ∀ i acc γ2, i < n → I i acc γ2 → ∀ x, y i x → dg x γ2 fun γ3 => dt γ3 fun b γ4 => (b = true → de γ4 fun s γ5 => s.kept ∧ I (i + 1) (acc ++ [s.data]) (wipeG γ5 vs)) ∧ (b = false → I (i + 1) acc (wipeG γ4 vs)))
    (hf : ∀ acc γ2, I n acc γ2 → q (.new (.lst acc)) (restore γ1 γ2 vs)) : LcOk n y γ1 dg dt de vs q := ⟨hn, I, h0, hs, hf⟩
/-- every turn tells f i -/
theorem lc_map {n : Nat} {y : Nat → D → Prop} {γ1 : Env} {dg : DG} {dt : DT} {de : DE} {vs : List Nat} {q : RS → Env → Prop} (hn : n ≤ 1000000) (f : Nat → D) (G : Env)
    (h0 : wipeG γ1 vs = G) (hs : ∀ i x, i < n → y i x → dg x G fun γ3 => dt γ3 fun b γ4 => b = true ∧ de γ4 fun s γ5 => s.kept ∧ s.data = f i ∧ wipeG γ5 vs = G) (mg : ∀ {x γ a b}, (∀ γ3, a γ3 → b γ3) → dg x γ a → dg x γ b) (mt : ∀ {γ} {a b : Bool → Env → Prop}, (∀ u v, a u v → b u v) → dt γ a → dt γ b) (me : ∀ {γ} {a b : RS → Env → Prop}, (∀ u v, a u v → b u v) → de γ a → de γ b)
    (hf : q (.new (.lst ((List.range n).map f))) (restore γ1 G vs)) : LcOk n y γ1 dg dt de vs q :=
  lc_ok hn (fun i acc γ => acc = (List.range i).map f ∧ γ = G) ⟨rfl, h0⟩ (fun i acc γ hi ⟨e1, e2⟩ x hx => by
    subst e1; subst e2
    refine mg (fun γ3 => mt fun b γ4 ⟨hb, h⟩ => ⟨fun _ => me (fun s γ5 ⟨k1, k2, k3⟩ => ⟨k1, ?_, k3⟩) h, fun z => by rw [hb] at z; cases z⟩) (hs i x hi hx)
    rw [List.range_succ, List.map_append, k2]
    rfl) fun acc γ ⟨e1, e2⟩ => by subst e1; subst e2; exact hf
def ForOk (n : Nat) (y : Nat → D → Prop) (γ1 : Env) (dg : DG) (db : DS) (d : DEnds) : Prop := ∃ I : Nat → Env → Prop, I 0 γ1 ∧
  (∀ i γ2, i < n → I i γ2 → ∀ x, y i x → dg x γ2 fun γ3 => db { nx := I (i + 1), ct := I (i + 1), bk := d.nx, rt := d.rt } γ3) ∧ ∀ γ2, I n γ2 → d.nx γ2
theorem dFor_eq {di : DI} {dg : DG} {db : DS} {d : DEnds} {γ : Env} : dFor di dg db d γ = di γ fun n y γ1 => ForOk n y γ1 dg db d := rfl
theorem for_ok {n : Nat} {y : Nat → D → Prop} {γ1 : Env} {dg : DG} {db : DS} {d : DEnds} (I : Nat → Env → Prop) (h0 : I 0 γ1)
    (hs : ∀ i γ2, i < n → I i γ2 → ∀ x, y i x → dg x γ2 fun γ3 => db { nx := I (i + 1), ct := I (i + 1), bk := d.nx, rt := d.rt } γ3) (hf : ∀ γ2, I n γ2 → d.nx γ2) : ForOk n y γ1 dg db d := ⟨I, h0, hs, hf⟩
def WhileOk (γ : Env) (dt : DT) (db : DS) (d : DEnds) : Prop := ∃ I : Nat → Env → Prop, (∃ m, I m γ) ∧ ∀ m γ2, I m γ2 → dt γ2 fun b γ3 =>
  (b = true → db { nx := fun γ4 => ∃ m', m' < m ∧ I m' γ4, ct := fun γ4 => ∃ m', m' < m ∧ I m' γ4, bk := d.nx, rt := d.rt } γ3) ∧ (b = false → d.nx γ3)
theorem dWhile_eq {dt : DT} {db : DS} {d : DEnds} {γ : Env} : dWhile dt db d γ = WhileOk γ dt db d := rfl
theorem while_ok {dt : DT} {db : DS} {d : DEnds} {γ : Env} (I : Nat → Env → Prop) (m : Nat) (h0 : I m γ) (hs : ∀ m γ2, I m γ2 → dt γ2 fun b γ3 =>
    (b = true → db { nx := fun γ4 => ∃ m', m' < m ∧ I m' γ4, ct := fun γ4 => ∃ m', m' < m ∧ I m' γ4, bk := d.nx, rt := d.rt } γ3) ∧ (b = false → d.nx γ3)) : WhileOk γ dt db d := ⟨I, ⟨m, h0⟩, hs⟩
theorem rg_snoc {α : Type} {f : Nat → α} {i : Nat} {x : α} : (List.range i).map f ++ [x] = (List.range (i + 1)).map f ↔ x = f i := by
  rw [List.range_succ, List.map_append]
  simp
theorem cut_to {α : Type} {xs : List α} {k : Int} (h : 0 ≤ k) : cut xs none (some k) = xs.take k.toNat := by
  unfold cut
  rw [HT.sIx_none, show k = ((k.toNat : Nat) : Int) by omega, HT.sIx_nat, List.drop_zero, Nat.sub_zero, Int.toNat_natCast, List.take_eq_take_iff]
  omega
theorem cut_from {α : Type} {xs : List α} {k : Int} (h : 0 ≤ k) : cut xs (some k) none = xs.drop k.toNat := by
  unfold cut
  rw [HT.sIx_none, show k = ((k.toNat : Nat) : Int) by omega, HT.sIx_nat, Int.toNat_natCast]
  by_cases c : k.toNat ≤ xs.length
  · rw [Nat.min_eq_left c, List.take_of_length_le (by rw [List.length_drop]; omega)]
  · rw [Nat.min_eq_right (by omega), List.drop_of_length_le (Nat.le_refl _), List.drop_of_length_le (by omega), List.take_nil]
theorem map_snoc {α β : Type} {f : α → β} {xs : List α} {x : α} : xs.map f ++ [f x] = (xs ++ [x]).map f := by simp
end DL

set_option Elab.async false
set_option linter.all false
set_option maxRecDepth 100000
set_option maxHeartbeats 2000000
namespace DL
open PySem PySem.Spec PyProof.Rows L2
open Evl (Ex ex_l ex_t)
/-! ### what is raised: the class by its name, the fields -/
abbrev Xf := Option (List (Str × D))
abbrev DX := Nat → Xf → Env → Prop
abbrev FSX := List Sx → (RS → List Sx → Prop) → (Nat → Xf → List Sx → Prop) → Prop
def XdOk (K : PySem.W.Frag) (B : Bs) (F : Hp) : Option Addr → Xf → Prop
  | none, none => True
  | some d, some l => ∃ fv, F d = some (.xd fv) ∧ RpFs (B.kz K) F fv l
  | _, _ => False
theorem XdOk.mono {K : PySem.W.Frag} {B : Bs} {F F' : Hp} {dd : Option Addr} {fs : Xf} (h : XdOk K B F dd fs) (e : Ex F F') : XdOk K B F' dd fs := by
  unfold XdOk at h ⊢
  split at h
  · trivial
  · obtain ⟨fv, h1, h2⟩ := h
    exact ⟨fv, e _ _ h1, h2.mono e⟩
  · exact h.elim
def XOk (K : PySem.W.Frag) (ct : Nat → Addr) (B : Bs) (W : WX) (xc : DX) : Prop := ∀ F' H' σ' γ' nm dd fs, Rep K B F' H' σ' γ' → XdOk K B F' dd fs → xc nm fs γ' → W (.ref (ct nm)) dd σ' H'
def spOfX (K : PySem.W.Frag) (ct : Nat → Addr) (n : Nat) (fs : FSX) : Sp := fun vs H Q E => vs.length = n ∧ ∃ F m, ∃ z : ZN H, ∃ as p x, Rep K (entry F H m z vs) F H (vs.map some) as ∧ fs as p x ∧
  (∀ r as' v F' H', p r as' → Rep K (entry F H m z vs) F' H' (vs.map some) as' → RsOk K (entry F H m z vs) F' H' (vs.map some) as' v r → r.kept → Q v H') ∧
  ∀ nm xs dd as' F' H', x nm xs as' → Rep K (entry F H m z vs) F' H' (vs.map some) as' → XdOk K (entry F H m z vs) F' dd xs → E (.ref (ct nm)) dd H'
def xcOf (as : List Sx) (x : Nat → Xf → List Sx → Prop) : DX := fun nm xs γ => OutP as γ fun zs => x nm xs zs
section
variable {P : Program} {w : World} {K : PySem.W.Frag} {mg : Str → Option Value} {base : Heap} {ct : Nat → Addr}
theorem fn_cx {x qual : Str} {st : Stmt} {f : Addr} {fd : FuncData} {N ps : List Str} {k : Nat} {sp : Sp} (F : Fun K x qual st f fd) (S : FnScope N ps (defScope st)) (len : ∀ vs H Q E, sp vs H Q E → vs.length = ps.length)
    (body : ∀ (cd : Value) (A : Around) (o : List PySem.Env) (s : Shared) (H : Hp) (vs : List V) (Q : VK) (E : XK), Room k (A.deeper (envOfC qual (defScope st) s.heap.objs.size f cd)) → sp vs H Q E →
      ∃ t, PSs (cxOf (L2N.CX P w) P w K mg base N qual (defScope st) f cd A o s H E) (defBody st) t ∧ t { nx := fun _ H' => Q .non H', rt := Q } (L2.start N vs) H) : FnOk P w K mg base (L2N.CX P w) (k + 1) f fd ps sp := by
  obtain ⟨_, _, _, _, _, _, cd, _, _, e, lk, hc⟩ := F.ex
  subst e
  exact fn_of lk hc S len fun A o s H vs Q E r h => body cd A o s H vs Q E r h
/-- a def that may raise -/
theorem fn_okX {x qual : Str} {st : Stmt} {f : Addr} {fd : FuncData} {N ps : List Str} {k n : Nat} {fs : FSX} {ds : DX → DS} (F : Fun K x qual st f fd) (S : FnScope N ps (defScope st)) (hn : ps.length = n) (hN : n ≤ N.length)
    (body : ∀ (B : Bs) (W : WX) (xc : DX) (cdv : Value) (A : Around) (outer : List PySem.Env) (s : Shared) (H : Hp) (E : XK), Room k (A.deeper (envOfC qual (defScope st) s.heap.objs.size f cdv)) → XOk K ct B W xc →
      L2N.Takes (cxOf (L2N.CX P w) P w K mg base N qual (defScope st) f cdv A outer s H E) W → ∃ ts, XSs (cxOf (L2N.CX P w) P w K mg base N qual (defScope st) f cdv A outer s H E) B (defBody st) ts (ds xc))
    (h : ∀ as p x, as.length = n → fs as p x → ds (xcOf as x) (endsOf as p) (startG N.length as)) : FnOk P w K mg base (L2N.CX P w) (k + 1) f fd ps (spOfX K ct n fs) := by
  refine fn_cx F S (fun vs H Q E h => h.1.trans hn.symm) fun cdv A outer s H vs Q E hr hsp => ?_
  obtain ⟨hl, F0, m, z, as, p, x, R0, hf, hq, he⟩ := hsp
  have ha : as.length = n := by have := R0.len; rw [List.length_map] at this; omega
  have xo : XOk K ct (entry F0 H m z vs) (fun cls d _ H => E cls d H) (xcOf as x) := fun F' H' σ' γ' nm dd xs R' xd h1 => by
    obtain ⟨zs, ho, hp⟩ := outP h1
    exact he nm xs dd zs F' H' hp (R0.outs R' ho) xd
  obtain ⟨ts, b⟩ := body (entry F0 H m z vs) _ _ cdv A outer s H E hr xo (L2N.takes_of rfl rfl rfl rfl)
  refine ⟨ts, b.ps, ?_⟩
  refine b.ss F0 H _ _ _ (endsOf as p) (R0.start (by rw [hl]; exact hN)) (h as p x ha hf) ⟨fun F' H' σ' γ' R' _ h1 => ?_, fun F' H' σ' γ' v r R' _ o ⟨hk, h1⟩ => ?_, fun _ _ _ _ _ _ z => z, fun _ _ _ _ _ _ z => z⟩
  · obtain ⟨zs, ho, hp⟩ := outP h1
    exact hq (.val .non) zs .non F' H' hp (R0.outs R' ho) .non trivial
  · obtain ⟨zs, ho, hp⟩ := outP h1
    have R2 := R0.outs R' ho
    refine hq r zs v F' H' hp R2 ?_ hk
    cases r with
    | val d => exact o
    | own j c => exact hk.elim
    | new c =>
      obtain ⟨a, rfl, N⟩ := o
      refine ⟨a, rfl, N.fa, N.ok, N.bn, N.bm, fun i p' c' h1 h2 => ?_⟩
      obtain ⟨_, ok⟩ := R2.ownObj h1 h2
      have e1 : H a = none := N.bn
      obtain ⟨_, h3⟩ := outs_get ho
      rcases h3 i _ h1 with ⟨p2, c0, c2, e2, _, _⟩ | ⟨_, n2⟩
      · obtain ⟨_, ok2⟩ := R0.ownObj e2 h2
        obtain ⟨o, ho, _⟩ := ok2.obj
        rw [e1] at ho; cases ho
      · exact n2 p' c' rfl
end

theorem takesN {X : Cx} : L2N.Takes X (fun _ _ _ _ => False) := fun _ _ ⟨_, _, _, _, _, _, _, _, _, _, _, _, _, _, _, _, h⟩ => h.elim
theorem passN {X : Cx} : Passes (L2N.CX X.prog X.w) X E0 := fun _ _ _ _ _ _ _ ⟨_, _, _, _, _, _, _, _, _, _, _, _, h⟩ => h.elim
/-! ### calls that may raise -/
def dCallX (xc : DX) (n : Nat) (fs : FSX) (dds : List D) (da : DA) (γ : Env) (q : RS → Env → Prop) : Prop := da γ fun rs γ1 => (ownIx rs).Nodup ∧ rs.length + dds.length = n ∧
  fs (argsOf 0 rs ++ dds.map Sx.val) (fun r as' => q r (upds γ1 rs as')) fun nm xs as' => xc nm xs (upds γ1 rs as')
section
variable {K : PySem.W.Frag} {B : Bs} {ct : Nat → Addr}
theorem call_core {n : Nat} {fs : FSX} {dvs : List V} {dds : List D} {W : XK} {xc : DX} {F H : Hp} {σ : L2.St} {γ : Env} {vs : List V} {rs : List RS} {Q : VK} {q : RS → Env → Prop} (od : Paired (fun v d => ∀ z F, Rp ⟨K, z⟩ F v d) dvs dds) (R1 : Rep K B F H σ γ) (o1 : Paired (RsOk K B F H σ γ) vs rs)
    (xo : ∀ F' H' γ' nm dd fs, Rep K B F' H' σ γ' → XdOk K B F' dd fs → xc nm fs γ' → W (.ref (ct nm)) dd H') (h1 : (ownIx rs).Nodup) (h2 : rs.length + dds.length = n)
    (h3 : fs (argsOf 0 rs ++ dds.map Sx.val) (fun r as' => q r (upds γ rs as')) fun nm xs as' => xc nm xs (upds γ rs as')) (k : ∀ v F' H' γ' s, Rep K B F' H' σ γ' → Ex F F' → RsOk K B F' H' σ γ' v s → q s γ' → Q v H') : spOfX K ct n fs (vs ++ dvs) H Q W := by
  obtain ⟨m, hm, RE⟩ := R1.args o1 od h1
  have hw : ∀ (i : Nat) v, vs[i]? = some v → (vs ++ dvs)[i]? = some v := fun i v hv => by rw [List.getElem?_append_left (List.getElem?_eq_some_iff.mp hv).1]; exact hv
  refine ⟨by rw [List.length_append, P_len o1, P_len od]; exact h2, F, m, _, _, _, _, RE, h3, fun r as' v F2 H2 hp R2 ok hk => ?_, fun nm xs dd as' F2 H2 hx R2 xd => ?_⟩
  · obtain ⟨R3, e3, ok3⟩ := R1.called o1 h1 hw hm R2
    exact k v F2 H2 _ r R3 e3 (ok3 v r hk ok) hp
  · obtain ⟨R3, e3, ok3⟩ := R1.called o1 h1 hw hm R2
    exact xo F2 H2 _ nm dd xs R3 xd hx
theorem se_callX {n : Nat} {fs : FSX} {dvs : List V} {dds : List D} {W : WX} {xc : DX} {ta : TA} {da : DA} (h : SA K B ta da) (od : Paired (fun v d => ∀ z F, Rp ⟨K, z⟩ F v d) dvs dds) (xo : XOk K ct B W xc) : SE K B (tCallSD (spOfX K ct n fs) dvs (WE W) ta) (dCallX xc n fs dds da) := fun F H σ γ Q q R hq k => by
  refine h F H σ γ _ _ R hq fun vs F1 H1 γ1 rs R1 e1 o1 ⟨h1, h2, h3⟩ => ?_
  exact call_core (W := WE W σ) od R1 o1 (fun F' H' γ' nm dd fs R' xd hx => xo F' H' σ γ' nm dd fs R' xd hx) h1 h2 h3 fun v F' H' γ' s R' e' o' hq => k v F' H' γ' s R' (e1.trans e') o' hq
/-- where nothing is raised -/
theorem se_callN {n : Nat} {fs : FSX} {dvs : List V} {dds : List D} {ta : TA} {da : DA} (h : SA K B ta da) (od : Paired (fun v d => ∀ z F, Rp ⟨K, z⟩ F v d) dvs dds) : SE K B (tCall (spOfX K ct n fs) dvs E0 ta) (dCallX (fun _ _ _ => False) n fs dds da) := fun F H σ γ Q q R hq k => by
  refine h F H σ γ _ _ R hq fun vs F1 H1 γ1 rs R1 e1 o1 ⟨h1, h2, h3⟩ => ?_
  exact call_core (W := E0) od R1 o1 (fun F' H' γ' nm dd fs R' xd hx => hx) h1 h2 h3 fun v F' H' γ' s R' e' o' hq => k v F' H' γ' s R' (e1.trans e') o' hq
end
section
variable {X : Cx} {B : Bs} {ct : Nat → Addr} {a : Expr} {es : List Expr} {ta : TA} {da : DA} {k n : Nat} {f : Addr} {fd : FuncData} {ps : List Str} {fs : FSX} {x : Str} {p pos : Pos} {W : WX} {xc : DX}
theorem x_callX (xo : XOk X.K ct B W xc) (tk : L2N.Takes X W) (G : FnOk X.prog X.w X.K X.mg X.base (L2N.CX X.prog X.w) k f fd ps (spOfX X.K ct n fs)) (hr : Room k X.A) (hm : X.mg x = some (.ref f)) (hk : PySem.W.keepIn X.K (.ref f) = true) (hb : Binds X.K fd ps []) (h : XA X B (a :: es) ta da)
    (hg : Gl X x := by rfl) (hdb : (x == ("__debug__" : Str)) = false := by decide) (he : starEach (a :: es) X.env = (false, eval a X.env) :: starEach es X.env := by rfl) (hpl : (backTo pos (starEach es X.env)).any (·.1) = false := by rfl) :
    XE X B (.Call (.Name x p) (a :: es) [] pos) (tCallSD (spOfX X.K ct n fs) [] (WE W) ta) (dCallX xc n fs [] da) := ⟨pe_callSD G hr hg hm hk hb .nil (fun σ => L2N.passAt tk σ) h.pa hdb he hpl, se_callX h.sa .nil xo⟩
theorem x_callN (G : FnOk X.prog X.w X.K X.mg X.base (L2N.CX X.prog X.w) k f fd ps (spOfX X.K ct n fs)) (hr : Room k X.A) (hm : X.mg x = some (.ref f)) (hk : PySem.W.keepIn X.K (.ref f) = true) (hb : Binds X.K fd ps []) (h : XA X B (a :: es) ta da)
    (hg : Gl X x := by rfl) (hdb : (x == ("__debug__" : Str)) = false := by decide) (he : starEach (a :: es) X.env = (false, eval a X.env) :: starEach es X.env := by rfl) (hpl : (backTo pos (starEach es X.env)).any (·.1) = false := by rfl) :
    XE X B (.Call (.Name x p) (a :: es) [] pos) (tCall (spOfX X.K ct n fs) [] E0 ta) (dCallX (fun _ _ _ => False) n fs [] da) := ⟨pe_call G hr hg hm hk hb .nil passN h.pa hdb he hpl, se_callN h.sa .nil⟩
end
section
variable {X : Cx} {B : Bs} {ct : Nat → Addr} {a : Expr} {es : List Expr} {ta : TA} {da : DA} {k n : Nat} {f : Addr} {fd : FuncData} {ps : List Str} {fs : FSX} {x : Str} {p pos : Pos} {W : WX} {xc : DX}
theorem x_callXC (K : PySem.W.Frag) (hK : X.K = K) (xo : XOk X.K ct B W xc) (tk : L2N.Takes X W) (G : FnOk X.prog X.w X.K X.mg X.base (L2N.CX X.prog X.w) k f fd ps (spOfX X.K ct n fs)) (hr : Room k X.A) (hm : X.mg x = some (.ref f)) (hk : PySem.W.keepIn X.K (.ref f) = true) (hb : Binds X.K fd ps []) (h : XA X B (a :: es) ta da)
    (hg : Gl X x := by rfl) (hdb : (x == ("__debug__" : Str)) = false := by decide) (he : starEach (a :: es) X.env = (false, eval a X.env) :: starEach es X.env := by rfl) (hpl : (backTo pos (starEach es X.env)).any (·.1) = false := by rfl) :
    XE X B (.Call (.Name x p) (a :: es) [] pos) (tCallSD (spOfX K ct n fs) [] (WE W) ta) (dCallX xc n fs [] da) := by
  have g := x_callX (p := p) (pos := pos) xo tk G hr hm hk hb h hg hdb he hpl
  rw [hK] at g
  exact g
theorem x_callNC (K : PySem.W.Frag) (hK : X.K = K) (G : FnOk X.prog X.w X.K X.mg X.base (L2N.CX X.prog X.w) k f fd ps (spOfX X.K ct n fs)) (hr : Room k X.A) (hm : X.mg x = some (.ref f)) (hk : PySem.W.keepIn X.K (.ref f) = true) (hb : Binds X.K fd ps []) (h : XA X B (a :: es) ta da)
    (hg : Gl X x := by rfl) (hdb : (x == ("__debug__" : Str)) = false := by decide) (he : starEach (a :: es) X.env = (false, eval a X.env) :: starEach es X.env := by rfl) (hpl : (backTo pos (starEach es X.env)).any (·.1) = false := by rfl) :
    XE X B (.Call (.Name x p) (a :: es) [] pos) (tCall (spOfX K ct n fs) [] E0 ta) (dCallX (fun _ _ _ => False) n fs [] da) := by
  have g := x_callN (p := p) (pos := pos) G hr hm hk hb h hg hdb he hpl
  rw [hK] at g
  exact g
end
end DL

set_option Elab.async false
set_option linter.all false
set_option maxRecDepth 100000
set_option maxHeartbeats 2000000
namespace DL
open PySem PySem.Spec PyProof.Rows L2
open Evl (Ex ex_l ex_t)
/-! ### raise C(..), C's __init__ keeping one or two fields -/
def spI1 (K : PySem.W.Frag) (f : Str) : Sp := fun vs H Q _ => ∃ (a C : Addr) (y : V), vs = [.ref a, y] ∧ OexC K C ∧ PySem.W.findIn K (.ref C) f = some none ∧ H a = some (exo a C none) ∧
  ∀ dx, H dx = none → dx ≠ a → Q .non (upd (upd H dx (exd dx [(f, y)])) a (exo a C (some dx)))
def spI2 (K : PySem.W.Frag) (f g : Str) : Sp := fun vs H Q _ => ∃ (a C : Addr) (y z : V), vs = [.ref a, y, z] ∧ OexC K C ∧ PySem.W.findIn K (.ref C) f = some none ∧ PySem.W.findIn K (.ref C) g = some none ∧ H a = some (exo a C none) ∧
  ∀ dx, H dx = none → dx ≠ a → Q .non (upd (upd (upd H dx (exd dx [(f, y)])) a (exo a C (some dx))) dx (exd dx [(g, z), (f, y)]))
/-- C(e, ..) outside a suite: an error whose context is None -/
theorem mk_err {X : Cx} {e : Expr} {es : List Expr} {ta : TA} {p pos : Pos} {CX : CXT} {x : Str} {C fI : Addr} {k : Nat} {fd : FuncData} {ps : List Str} {sp : Sp} {ds : List Value} {dvs : List V} (T : OexC X.K C) (iC : PySem.W.findIn X.K (.ref C) "__init__" = some (some (.ref fI))) (tI : PySem.W.typeIn X.K (.ref fI) = some (.type "function"))
    (G : FnOk X.prog X.w X.K X.mg X.base CX k fI fd ps sp) (hr : Room (k + 1) X.A) (hb : Binds X.K fd ps ds) (hd : Vals dvs ds) (hx : Passes CX X (fun _ _ _ => False)) (hg : Gl X x) (hm : X.mg x = some (.ref C)) (ha : PA X (e :: es) ta)
    (hdb : (x == ("__debug__" : Str)) = false := by decide) (he : starEach (e :: es) X.env = (false, eval e X.env) :: starEach es X.env := by rfl) (hpl : (backTo pos (starEach es X.env)).any (·.1) = false := by rfl) : L2N.PMk X (.Call (.Name x p) (e :: es) [] pos) (tMkO C sp dvs ta) := fun pins s σ H Q I h => by
  obtain ⟨_, _, _, _, bm, _, _, _, _, _, _, _, _, _, _, lC, tail⟩ := T.cls
  refine wpAny_Call_Name_kw (ld_glob I hg hm ?_ hdb)
  refine PySem.W.callWith_K (h₀ := X.base) I.ok.mod.kin T.kC (thn (ha.run pos pins s σ H _ I h) fun us s1 ⟨vs, H1, J, rv, hz, q⟩ => ⟨J.kIn, ?_⟩) he hpl
  show wpAny _ _ (call (.ref C) us) _ _ _
  obtain ⟨h0, g, dr, tk, os⟩ := s1
  let n := h0.objs.size
  have fresh : n ≤ n + 1 := Nat.le_succ _
  have pr := q (n + 1) (J.hok.fresh fresh)
  have kp : ∀ b o, h0.get? b = some o → ((h0.push (PySem.W.kdv_tup us)).push (PySem.HandSPX.excO C n)).get? b = some o :=
    fun b o z => Heap.get?_push_of_some _ (Heap.get?_push_of_some _ z)
  have at1 : ((h0.push (PySem.W.kdv_tup us)).push (PySem.HandSPX.excO C n)).get? (n + 1) = some (PySem.HandSPX.excO C n) := by
    show ((h0.push (PySem.W.kdv_tup us)).push (PySem.HandSPX.excO C h0.objs.size)).get? (h0.objs.size + 1) = _
    heap_get
  have J2 := J.laid (t' := tk) (a := n + 1) (o := exo (n + 1) C none) kp fresh (exo_ok at1)
  have r2 : Vals (V.ref (n + 1) :: (vs ++ dvs)) (Value.ref (n + 1) :: (us ++ ds)) := .cons rfl (rv.append hd)
  have ln : (Value.ref (n + 1) :: us ++ ds).length = ps.length := r2.length.symm.trans (G.len _ _ _ _ pr)
  have lu : us.length ≤ sizeLine := by
    have z := Paired.length rv
    rw [sizeLine_eq]
    omega
  have run := G.run _ X.stack _ _ ⟨Value.ref (n + 1) :: us, []⟩ (Value.ref (n + 1) :: (us ++ ds)) _ _ (fun _ _ _ => False)
    (hr.make C us []) (J2.env0.make C us []) (hb _ (Value.ref (n + 1) :: us) J2.kIn ln) r2 pr
  refine wpAny_call (PySem.HandSPX.call_own F.excBase_ValueError (fun Y => PySem.HandSPX.refsVE_contains Y bm tail) (J.kIn _ _ lC)
    (PySem.W.looks_findIn J.kIn iC) (fun self => PySem.W.bind_fn J.kIn self tI) lu (codeAny_mono run fun r s' hq => ?_))
  cases r with
  | error er => exact hx pins σ _ _ er s' J2 hq
  | ok fl => cases fl with
    | ret u =>
      obtain ⟨v, H2, o2, b2, u2, k2, rv2, ev, d, fs, ea, ed, e1, q2⟩ := hq
      subst ev
      obtain ⟨h2, g2, d2, t2, os'⟩ := s'
      obtain ⟨t0, G2, J3, kG, nG, hoe, na⟩ := mk_end0 (d2 := d2) (t2 := t2) J fresh kp u2 k2 o2 b2 ea ed e1
      exact ⟨rv2, n + 1, _, _, ⟨G2, g2, d2, t2, os'⟩, _, .ref C, some d, rfl, J3, kG, nG, hoe, ⟨rfl, rfl, fun _ z => by cases z; rfl⟩, rfl, rfl, na, rfl, b2, raises_own T.exC T.tyC, q2⟩
    | next => exact hq.elim
    | brk => exact hq.elim
    | cont => exact hq.elim
/-- what the written part says of an own error class with an __init__ -/
structure ErrC (K : PySem.W.Frag) (mg : Str → Option Value) (nm : Str) (C fI : Addr) : Prop where
  o : OexC K C
  g : mg nm = some (.ref C)
  i : PySem.W.findIn K (.ref C) "__init__" = some (some (.ref fI))
  t : PySem.W.typeIn K (.ref fI) = some (.type "function")
def dRaise1 (xc : DX) (nm : Nat) (f : Str) (da : DA) (d : DEnds) (γ : Env) : Prop := da γ fun rs γ1 => allV rs ∧ match rs.map RS.data with
  | [y] => xc nm (some [(f, y)]) γ1
  | _ => False
def dRaise2 (xc : DX) (nm : Nat) (f g : Str) (da : DA) (d : DEnds) (γ : Env) : Prop := da γ fun rs γ1 => allV rs ∧ match rs.map RS.data with
  | [y, z] => xc nm (some [(g, z), (f, y)]) γ1
  | _ => False
section
variable {K : PySem.W.Frag} {B : Bs} {F H : Hp} {σ : L2.St} {γ : Env}
/-- an exception's dict, new -/
theorem Rep.newX (R : Rep K B F H σ γ) {p : Addr} {fv : List (Str × V)} {fs : List (Str × D)} (hp : H p = none) (h : RpFs (B.kz K) F fv fs) : Rep K B (upd F p (.xd fv)) (upd H p (.xd fv)) σ γ ∧ Ex F (upd F p (.xd fv)) ∧ XdOk K B (upd F p (.xd fv)) (some p) (some fs) := by
  obtain ⟨f1, f2, f3, f4⟩ := R.fresh hp
  obtain ⟨R2, e⟩ := (R.alloc (.xd fv) hp).freeze (a := p) (o := .xd fv) upd_same f1 (.inr f2) fun i q c' hg => ⟨f4 i q c' hg, fun x _ z => by cases z⟩
  exact ⟨R2, e, fv, upd_same, h.mono e⟩
theorem del_upd {H H2 : Hp} {a d : Addr} {o : HO} (ha : H a = none) (h : ∀ b, b ≠ a → b ≠ d → H2 b = H b) : upd (L2.del H2 a) d o = upd H d o := by
  funext b
  by_cases hd : b = d
  · subst hd; rw [upd_same, upd_same]
  · rw [upd_ne hd, upd_ne hd]
    by_cases hb : b = a
    · subst hb; rw [del_same, ha]
    · rw [del_ne hb, h b hb hd]
end
section
variable {X : Cx} {B : Bs} {ct : Nat → Addr} {W : WX} {xc : DX} {nm : Nat} {f g x : Str} {a b : Expr} {ta : TA} {da : DA} {p pos pos2 : Pos} {fI : Addr} {fd : FuncData} {ps : List Str} {k : Nat}
theorem s_raise1 (hc : X.calm = true) (xo : XOk X.K ct B W xc) (tk : L2N.Takes X W) (T : ErrC X.K X.mg x (ct nm) fI) (hf : PySem.W.findIn X.K (.ref (ct nm)) f = some none) (G : FnOk X.prog X.w X.K X.mg X.base CX0 k fI fd ps (spI1 X.K f)) (hr : Room (k + 1) X.A) (hb : Binds X.K fd ps []) (h : XA X B [a] ta da)
    (hg : Gl X x := by rfl) (hdb : (x == ("__debug__" : Str)) = false := by decide) (he : starEach (a :: []) X.env = (false, eval a X.env) :: starEach [] X.env := by rfl) (hpl : (backTo pos (starEach [] X.env)).any (·.1) = false := by rfl) :
    XS X B (.Raise (some (.Call (.Name x p) [a] [] pos)) none pos2) (fun _ σ H => tMkO (ct nm) (spI1 X.K f) [] ta σ H fun cls d H' => W cls d σ H') (dRaise1 xc nm f da) := ⟨L2N.ps_raise hc tk (mk_err T.o T.i T.t G hr hb .nil pass0 hg T.g h.pa hdb he hpl), fun F H σ γ E d R hq k => by
  refine h.sa F H σ γ _ _ R hq fun vs F1 H1 γ1 rs R1 e1 o1 ⟨h1, h2⟩ => ?_
  split at h2
  · rename_i y es
    have ra := allV_rp o1 h1
    rw [es] at ra
    cases ra with
    | cons ry t => cases t with
      | nil =>
        refine ⟨by simp, fun a1 ha => ⟨a1, ct nm, _, rfl, T.o, hf, upd_same, fun dx hd hne => ⟨rfl, dx, _, upd_same, by rw [upd_ne hne, upd_same], ?_, ?_⟩⟩⟩
        · rw [upd_ne hne] at hd; exact hd
        · have hd' : H1 dx = none := by rw [upd_ne hne] at hd; exact hd
          rw [del_upd ha fun b h3 h4 => by rw [upd_ne h3, upd_ne h4, upd_ne h3]]
          obtain ⟨R2, ex, xd⟩ := R1.newX hd' (.cons ry .nil)
          exact xo _ _ _ _ nm _ _ R2 xd h2
  · exact h2.elim⟩
theorem s_raise2 (hc : X.calm = true) (xo : XOk X.K ct B W xc) (tk : L2N.Takes X W) (T : ErrC X.K X.mg x (ct nm) fI) (hf : PySem.W.findIn X.K (.ref (ct nm)) f = some none) (hf2 : PySem.W.findIn X.K (.ref (ct nm)) g = some none) (G : FnOk X.prog X.w X.K X.mg X.base CX0 k fI fd ps (spI2 X.K f g)) (hr : Room (k + 1) X.A) (hb : Binds X.K fd ps []) (h : XA X B [a, b] ta da)
    (hg : Gl X x := by rfl) (hdb : (x == ("__debug__" : Str)) = false := by decide) (he : starEach (a :: [b]) X.env = (false, eval a X.env) :: starEach [b] X.env := by rfl) (hpl : (backTo pos (starEach [b] X.env)).any (·.1) = false := by rfl) :
    XS X B (.Raise (some (.Call (.Name x p) [a, b] [] pos)) none pos2) (fun _ σ H => tMkO (ct nm) (spI2 X.K f g) [] ta σ H fun cls d H' => W cls d σ H') (dRaise2 xc nm f g da) := ⟨L2N.ps_raise hc tk (mk_err T.o T.i T.t G hr hb .nil pass0 hg T.g h.pa hdb he hpl), fun F H σ γ E d R hq k => by
  refine h.sa F H σ γ _ _ R hq fun vs F1 H1 γ1 rs R1 e1 o1 ⟨h1, h2⟩ => ?_
  split at h2
  · rename_i y z es
    have ra := allV_rp o1 h1
    rw [es] at ra
    cases ra with
    | cons ry t => cases t with
      | cons rz t => cases t with
        | nil =>
          refine ⟨by simp, fun a1 ha => ⟨a1, ct nm, _, _, rfl, T.o, hf, hf2, upd_same, fun dx hd hne => ⟨rfl, dx, _, by rw [upd_ne (Ne.symm hne), upd_same], upd_same, ?_, ?_⟩⟩⟩
          · rw [upd_ne hne] at hd; exact hd
          · have hd' : H1 dx = none := by rw [upd_ne hne] at hd; exact hd
            rw [del_upd ha fun b h3 h4 => by rw [upd_ne h4, upd_ne h3, upd_ne h4, upd_ne h3]]
            obtain ⟨R2, ex, xd⟩ := R1.newX hd' (.cons rz (.cons ry .nil))
            exact xo _ _ _ _ nm _ _ R2 xd h2
  · exact h2.elim⟩
end

/-! ### try -/
/-- what the clause asks: is the class nm one of c's -/
def dTryAs (sub : Nat → Option Bool) (i : Nat) (tb : DX → DS) (ts : Addr → Nat → Xf → DS) (xc : DX) (d : DEnds) (γ : Env) : Prop := tb (fun nm fs γ1 => ∃ b, sub nm = some b ∧ (b = true → ∀ a, ts a nm fs { nx := fun γ2 => d.nx (put γ2 i .no), rt := d.rt, bk := fun γ2 => d.bk (put γ2 i .no), ct := fun γ2 => d.ct (put γ2 i .no) } (put γ1 i (.val (.ref a)))) ∧ (b = false → xc nm fs γ1)) d γ
def dTry (sub : Nat → Option Bool) (tb : DX → DS) (ts : Addr → Nat → Xf → DS) (xc : DX) (d : DEnds) (γ : Env) : Prop := tb (fun nm fs γ1 => ∃ b, sub nm = some b ∧ (b = true → ∀ a, ts a nm fs d γ1) ∧ (b = false → xc nm fs γ1)) d γ
section
variable {K : PySem.W.Frag} {B : Bs} {F F0 H H0 : Hp} {σ σ0 : L2.St} {γ γ0 : Env} {E : Ends} {d : DEnds}
/-- a slot is emptied -/
theorem Rep.clear (R : Rep K B F H σ γ) (i : Nat) : Rep K B F H (σ.set i none) (put γ i .no) := by
  have key : ∀ {j : Nat} {p : Option Nat} {c : OC} {s : Option V}, (put γ i .no)[j]? = some (.own p c) → (σ.set i none)[j]? = some s → γ[j]? = some (.own p c) ∧ σ[j]? = some s := fun {j p c s} h1 h2 => by
    rcases get_put h1 with ⟨_, z⟩ | ⟨n, z⟩
    · cases z
    · rw [List.getElem?_set_ne (Ne.symm n)] at h2
      exact ⟨z, h2⟩
  refine ⟨R.fh, by rw [List.length_set, put_len]; exact R.len, fun j s t hs hg => ?_, fun i j a p c q c' h1 h2 h3 h4 => R.nd i j a p c q c' (key h1 h3).1 (key h2 h4).1 (key h1 h3).2 (key h2 h4).2, R.b1, R.b2, R.b3, fun j a p c h1 h2 => R.b4 j a p c (key h1 h2).1 (key h1 h2).2, fun j a p c h1 h2 => R.b5 j a p c (key h1 h2).1 (key h1 h2).2, R.bN, R.bd⟩
  rcases get_put hg with ⟨rfl, rfl⟩ | ⟨n, z⟩
  · trivial
  · rw [List.getElem?_set_ne (Ne.symm n)] at hs
    exact R.sl j s t hs z
theorem Rep.upm (R : Rep K B F H σ γ) {b : Addr} (h : b ∈ (B.re F H σ γ).m ∨ (B.re F H σ γ).H b = none) : b ∈ B.m ∨ B.H b = none := h.elim R.owns fun e => .inr (R.fresh e).2.1
theorem Rep.rsback (R : Rep K B F H σ γ) {F' H' : Hp} {σ' : L2.St} {γ' : Env} {v : V} {s : RS} (o : RsOk K (B.re F H σ γ) F' H' σ' γ' v s) : RsOk K B F' H' σ' γ' v s := by
  cases s with
  | val x => exact o
  | own j c => exact o
  | new c =>
    obtain ⟨a, rfl, N⟩ := o
    exact ⟨a, rfl, N.fa, N.ok.base rfl rfl fun dx _ h => R.upm h, N.bn, R.upm N.bm, N.na⟩
/-- ends over a new base -/
theorem EndsOk.re (k : EndsOk K B F E d) (R : Rep K B F H σ γ) : EndsOk K (B.re F H σ γ) F E d := ⟨fun F' H' σ' γ' R' e h => k.nx F' H' σ' γ' (R.back R') e h, fun F' H' σ' γ' v s R' e o h => k.rt F' H' σ' γ' v s (R.back R') e (R.rsback o) h, fun F' H' σ' γ' R' e h => k.bk F' H' σ' γ' (R.back R') e h, fun F' H' σ' γ' R' e h => k.ct F' H' σ' γ' (R.back R') e h⟩
end
theorem takes_any {X : Cx} (hs : X.stack = X.env :: X.outer) (hf : X.env.frame = some X.env.locals) (W : WX) :
    L2N.Takes (X.tr [] fun e s1 => wpAny (model X.prog X.w) X.A (noteFrame e X.env) (fun _ s2 => wpAny (model X.prog X.w) X.A (setFlight e none) (fun _ _ => True) (fun _ _ => True) s2) (fun _ _ => True) s1) W := fun u s' ⟨a, B, sI, pins, σ, H, cls, d, eu, J, nb, up, sky, na, os, ag, w⟩ => by
  subst eu
  have hfr : X.A.frames = some (X.env :: X.outer) := by rw [← hs]; exact J.ok.frames
  have sky' : Sky B (X.env :: X.outer) a (L2N.Zn cls d) X.env.locals s'.heap := by rw [← hs]; exact sky
  exact L2N.Sky.land (Q := fun _ _ => True) L2N.Zn.steady hfr hf sky' fun _ _ _ => trivial
/-- what holds of a caught exception, ahead of its suite -/
def tsP (K : PySem.W.Frag) (ct : Nat → Addr) (ts : Addr → Value → Option Addr → TS) (a : Addr) (cls : Value) (d : Option Addr) : TS := fun E σ H => (∃ (B : Bs) (nm : Nat) (fs : Xf), cls = .ref (ct nm) ∧ XdOk K B B.F d fs) ∧ ts a cls d E σ H
theorem pss_pre {X : Cx} {P : Prop} {ss : List Stmt} {t : TS} (h : P → PSs X ss t) : PSs X ss (fun E σ H => P ∧ t E σ H) := ⟨fun pins s σ H D I ⟨p, q⟩ => (h p).run pins s σ H D I q⟩
section
variable {X : Cx} {B : Bs} {ct : Nat → Addr} {W : WX} {xc : DX} {x n : Str} {c : Addr} {i : Nat} {body suite : List Stmt} {b₀ : Stmt} {np pos pos' : Pos} {tb : WX → TS} {db : DX → DS} {ts : Addr → Value → Option Addr → TS} {dsu : Addr → Nat → Xf → DS} {sub : Nat → Option Bool}
theorem s_try_as (i : Nat) (hN : X.N.Nodup) (hc : Names X x (.ref c)) (xo : XOk X.K ct B W xc) (tk : L2N.Takes X W) (hsub : ∀ nm b, sub nm = some b → PySem.W.exmOne X.K (.ref (ct nm)) (.ref c) = some b)
    (hb : ∀ (B' : Bs) (W' : WX) (xc' : DX) (pn : List (Addr × Obj)) (xe : Value → Shared → Prop), XOk X.K ct B' W' xc' → L2N.Takes (X.tr pn xe) W' → PassesOwn (model X.prog X.w) X.A X.env xe → XSs (X.tr pn xe) B' body (tb W') (db xc'))
    (hsu : ∀ (B' : Bs) (a : Addr) (oe : Obj) (cls : Value) (d : Option Addr) (pn : List (Addr × Obj)) (nm : Nat) (fs : Xf), L2N.Zn cls d oe → (∃ vs, oe.data = .fields vs) → cls = .ref (ct nm) → XdOk X.K B' B'.F d fs → XSs (X.suite a ((a, oe) :: pn)) B' (b₀ :: suite) (ts a cls d) (dsu a nm fs))
    (hi : X.N[i]? = some n := by rfl) (hln : X.env.kindOf n = some .local := by rfl) (hs : X.stack = X.env :: X.outer := by rfl) (hf : X.env.frame = some X.env.locals := by rfl) :
    XS X B (.Try body [.ExceptHandler (some (.Name x np)) (some n) (b₀ :: suite) pos'] [] [] pos) (fun D σ H => tb (wAs X.K (.ref c) i (tsP X.K ct ts) W D) D σ H) (dTryAs sub i db dsu xc) := ⟨
  L2N.ps_try_as hs hf hN hi hln hc tk (fun W' pn xe tk' po => (hb ⟨fun _ => none, fun _ => none, fun _ => none, fun _ => none, [], fun _ => False, fun _ h => h.elim⟩ W' (fun _ _ _ => False) pn xe (fun _ _ _ _ _ _ _ _ _ h => h.elim) tk' po).ps)
    (fun a oe cls d pn hz hv => pss_pre fun ⟨B', nm, fs, e1, e2⟩ => (hsu B' a oe cls d pn nm fs hz hv e1 e2).ps),
  fun F H σ γ E d R hq k => by
  have key : XOk X.K ct (B.re F H σ γ) (wAs X.K (.ref c) i (tsP X.K ct ts) W E) (fun nm fs γ1 => ∃ b, sub nm = some b ∧ (b = true → ∀ a, dsu a nm fs { nx := fun γ2 => d.nx (put γ2 i .no), rt := d.rt, bk := fun γ2 => d.bk (put γ2 i .no), ct := fun γ2 => d.ct (put γ2 i .no) } (put γ1 i (.val (.ref a)))) ∧ (b = false → xc nm fs γ1)) := by
    intro F' H' σ' γ' nm dd fs R' xd ⟨b, hb1, h1, h2⟩
    refine ⟨b, hsub nm b hb1, fun e a ha => ?_, fun e => xo F' H' σ' γ' nm dd fs (R.back R') xd (h2 e)⟩
    have R2 : Rep X.K (B.re F H σ γ) F' H' (σ'.set i (some (.ref a))) (put γ' i (.val (.ref a))) := R'.setVal i (.ref a)
    have xd2 : XdOk X.K ((B.re F H σ γ).re F' H' (σ'.set i (some (.ref a))) (put γ' i (.val (.ref a)))) F' dd fs := xd
    refine ⟨⟨_, nm, fs, rfl, xd2⟩, ?_⟩
    have kk : EndsOk X.K B F' { nx := fun σ' H' => E.nx (σ'.set i none) H', rt := E.rt, bk := fun σ' H' => E.bk (σ'.set i none) H', ct := fun σ' H' => E.ct (σ'.set i none) H' } { nx := fun γ2 => d.nx (put γ2 i .no), rt := d.rt, bk := fun γ2 => d.bk (put γ2 i .no), ct := fun γ2 => d.ct (put γ2 i .no) } :=
      have k2 := k.mono R'.b2
      ⟨fun F3 H3 σ3 γ3 R3 e3 h3 => k2.nx F3 H3 _ _ (R3.clear i) e3 h3, k2.rt, fun F3 H3 σ3 γ3 R3 e3 h3 => k2.bk F3 H3 _ _ (R3.clear i) e3 h3, fun F3 H3 σ3 γ3 R3 e3 h3 => k2.ct F3 H3 _ _ (R3.clear i) e3 h3⟩
    have kr : EndsOk X.K (B.re F H σ γ) F' _ _ := ⟨fun F3 H3 σ3 γ3 R3 e3 h3 => kk.nx F3 H3 σ3 γ3 (R.back R3) e3 h3, fun F3 H3 σ3 γ3 v s R3 e3 o3 h3 => kk.rt F3 H3 σ3 γ3 v s (R.back R3) e3 (R.rsback o3) h3, fun F3 H3 σ3 γ3 R3 e3 h3 => kk.bk F3 H3 σ3 γ3 (R.back R3) e3 h3, fun F3 H3 σ3 γ3 R3 e3 h3 => kk.ct F3 H3 σ3 γ3 (R.back R3) e3 h3⟩
    exact (hsu _ a ⟨.ref (ct nm), dd, .fields #[.none, .none, .none], #[]⟩ _ dd [] nm fs ⟨rfl, rfl, fun vs e => by cases e; rfl⟩ ⟨_, rfl⟩ rfl xd2).ss F' H' _ _ _ _ R2.re (h1 e a) (kr.re R2)
  exact (hb (B.re F H σ γ) _ _ [] _ key (takes_any hs hf _) PassesOwn.looking).ss F H σ γ E d R.re hq (k.re R)⟩
end
theorem init1 {K : PySem.W.Frag} {f n1 n2 : Str} {vs : List V} {H : Hp} {Q : VK} {E : XK} (h : spI1 K f vs H Q E) : tOst K f (tVar 0) (tVar 1) { nx := fun _ H' => Q .non H', rt := Q } (L2.start [n1, n2] vs) H := by
  obtain ⟨a, C, y, rfl, T, hno, ha, k⟩ := h
  exact ⟨y, rfl, .ref a, rfl, a, C, rfl, T, hno, .inl ⟨ha, fun dx h1 h2 => k dx h1 h2⟩⟩
theorem init1_len {K : PySem.W.Frag} {f n1 n2 : Str} {vs : List V} {H : Hp} {Q : VK} {E : XK} (h : spI1 K f vs H Q E) : vs.length = [n1, n2].length := by
  obtain ⟨a, C, y, rfl, _⟩ := h
  rfl
theorem init2 {K : PySem.W.Frag} {f g n1 n2 n3 : Str} {vs : List V} {H : Hp} {Q : VK} {E : XK} (h : spI2 K f g vs H Q E) : tSeq (tOst K f (tVar 0) (tVar 1)) (tOst K g (tVar 0) (tVar 2)) { nx := fun _ H' => Q .non H', rt := Q } (L2.start [n1, n2, n3] vs) H := by
  obtain ⟨a, C, y, z, rfl, T, hno, hno2, ha, k⟩ := h
  exact ⟨y, rfl, .ref a, rfl, a, C, rfl, T, hno, .inl ⟨ha, fun dx h1 h2 => ⟨z, rfl, .ref a, rfl, a, C, rfl, T, hno2, .inr ⟨dx, _, upd_same, by rw [upd_ne h2, upd_same], by simp, k dx h1 h2⟩⟩⟩⟩
theorem init2_len {K : PySem.W.Frag} {f g n1 n2 n3 : Str} {vs : List V} {H : Hp} {Q : VK} {E : XK} (h : spI2 K f g vs H Q E) : vs.length = [n1, n2, n3].length := by
  obtain ⟨a, C, y, z, rfl, _⟩ := h
  rfl
end DL

set_option Elab.async false
set_option linter.all false
set_option maxRecDepth 100000
set_option maxHeartbeats 2000000
namespace DL
open PySem PySem.Spec PyProof.Rows L2
open Evl (Ex ex_l ex_t)
/-! ### a caught exception is read -/
theorem fs_get {K : KZ} {F : Hp} {n : Str} {dv : D} : ∀ {fv : List (Str × V)} {fs : List (Str × D)}, RpFs K F fv fs → fs.lookup n = some dv → ∃ v, fv.lookup n = some v ∧ Rp K F v dv
  | _, _, .nil, h => by cases h
  | _, _, @RpFs.cons _ _ m v vs d ds r t, h => by
    by_cases e : n = m
    · subst e
      simp only [List.lookup, beq_self_eq_true, Option.some.injEq] at h ⊢
      subst h
      exact ⟨v, rfl, r⟩
    · have e' : (n == m) = false := by simpa using e
      simp only [List.lookup, e'] at h ⊢
      exact fs_get t h
def tXfV (K : PySem.W.Frag) (a : Addr) (cls : Value) (d : Option Addr) (n : Str) (i : Nat) : TE := fun σ H Q => ∃ C, (XfC K C ∧ PySem.W.findIn K (.ref C) n = some none) ∧ tXf a cls d C n (tVar i) σ H Q
def dXf (rd : Nat → Str → Bool) (i : Nat) (a : Addr) (nm : Nat) (fs : Xf) (n : Str) (γ : Env) (q : RS → Env → Prop) : Prop := look γ i = .val (.ref a) ∧ rd nm n = true ∧ ∃ l v, fs = some l ∧ l.lookup n = some v ∧ q (.val v) γ
/-- e.n -/
theorem x_xf {X : Cx} {B : Bs} {ct : Nat → Addr} {a : Addr} {oe : Obj} {cls : Value} {d : Option Addr} {pn : List (Addr × Obj)} {nm : Nat} {n x : Str} {fs : Xf} {rd : Nat → Str → Bool} {p pos : Pos} (i : Nat) (hz : L2N.Zn cls d oe) (hf : ∃ vs, oe.data = .fields vs) (hcls : cls = .ref (ct nm)) (xd : XdOk X.K B B.F d fs)
    (hrd : ∀ nm n, rd nm n = true → XfC X.K (ct nm) ∧ PySem.W.findIn X.K (.ref (ct nm)) n = some none)
    (hN : X.N[i]? = some x := by rfl) (hv : Vis X.env.scope x := by first | exact Or.inl rfl | exact Or.inr (Or.inl rfl) | exact Or.inr (Or.inr rfl)) (hd : (x == ("__debug__" : Str)) = false := by decide) (hcd : (x == ("__classdict__" : Str)) = false := by decide)
    (hb : attributeBase (.Name x p) n X.env (eval (.Name x p) X.env) = eval (.Name x p) X.env := by rfl) :
    XE (X.suite a ((a, oe) :: pn)) B (.Attribute (.Name x p) n pos) (tXfV X.K a cls d n i) (dXf rd i a nm fs n) := ⟨⟨fun pins s σ H Q I ⟨C, ⟨T, hno⟩, h⟩ => (pe_xf (X := X) T hno hz.zc hf (pe_var (X := X.suite a ((a, oe) :: pn)) hN hv hd hcd) hb).run pins s σ H Q I h⟩, fun F H σ γ Q q R ⟨h1, h2, l, dv, h3, h4, h5⟩ k => by
  obtain ⟨T, hno⟩ := hrd nm n h2
  obtain ⟨v, hs, r⟩ := R.val h1
  cases r
  subst h3
  cases d with
  | none => exact xd.elim
  | some dd =>
    obtain ⟨fv, x1, x2⟩ := xd
    obtain ⟨u, hu, ru⟩ := fs_get (x2.mono R.b2) h4
    exact ⟨ct nm, ⟨T, hno⟩, _, hs, rfl, hcls, dd, fv, u, rfl, R.fh _ _ (R.b2 _ _ x1), hu, k u F H γ (.val dv) R (Evl.Ex.refl F) ru h5⟩⟩
/-- isinstance asks what the bases say -/
theorem kit_ref {K : PySem.W.Frag} {t : Value} {C : Addr} {b : Bool} (hdct : PySem.W.hasDictIn K C = true) (ht : PySem.W.typeIn K (.ref C) = some (.type "type")) (hs : PySem.W.subIn K t t = some true) (h : PySem.W.subIn K t (.ref C) = some b) : PySem.W.kitOne K t (.ref C) = some b := by
  unfold PySem.W.kitOne
  by_cases e : t = .ref C
  · rw [if_pos (by rw [e]; exact beq_self_eq_true _)]
    rw [← h, ← e, hs]
  · rw [if_neg (by simpa using e)]
    obtain ⟨cd, hc, _⟩ := PySem.W.any_some hdct
    have g : ((PySem.W.clsIn K C).isSome && PySem.W.typeIn K (.ref C) == some (.type "type")) = true := by rw [hc, ht]; rfl
    unfold PySem.W.kitCls
    simp only [g, if_true]
    exact h
/-! isinstance(e, C) -/
def rIsX (K : PySem.W.Frag) (a : Addr) (cls : Value) (d : Option Addr) : List V → Hp → VK → Prop := fun xs H Q => ∃ (D c : Addr) (b : Bool), xs = [.ref a, .ref c] ∧ cls = .ref D ∧ ExcC K D ∧ (d = none ∨ ∃ dd fv, d = some dd ∧ H dd = some (.xd fv)) ∧ PySem.W.kitOne K (.ref D) (.ref c) = some b ∧ Q (.bl b) H
theorem call_isX {X : Cx} {a : Addr} {oe : Obj} {cls : Value} {d : Option Addr} {pn : List (Addr × Obj)} (hz : L2N.Zn cls d oe) (hf : ∃ vs, oe.data = .fields vs) : CallR (X.suite a ((a, oe) :: pn)) (.builtin "isinstance") (rIsX X.K a cls d) := fun {pins s σ H xs us Q} I r h => by
  obtain ⟨D, c, b, rfl, hD, C, hd, e, q⟩ := h
  cases r with
  | cons rx rr => cases rr with
    | cons rt rr =>
      cases rr
      cases rx
      cases rt
      obtain ⟨hget, _⟩ := I.pin (a, oe) (List.mem_append_left _ List.mem_cons_self)
      obtain ⟨vs, hv⟩ := hf
      obtain ⟨cdD, hcD, _⟩ := PySem.W.any_some C.hd
      have hcl : (PySem.W.clsIn X.K D).isSome = true := by rw [hcD]; rfl
      have nc : PySem.W.notCls oe = true := by unfold PySem.W.notCls; rw [hv] <;> rfl
      have fin : ∀ {od : Option Obj}, PySem.W.InstAt s.heap a oe D od → wpAny (model (X.suite a ((a, oe) :: pn)).prog (X.suite a ((a, oe) :: pn)).w) (X.suite a ((a, oe) :: pn)).A (call (.builtin "isinstance") [.ref a, .ref c]) (EP (X.suite a ((a, oe) :: pn)) pins σ Q) (X.suite a ((a, oe) :: pn)).xe s := fun J =>
        PySem.W.kia_one (PySem.W.kitx_exc hcl C.hg C.hk C.hs C.ha C.hn C.ht C.hm) I.kIn J e (fun z => nomatch z) fun tk => ⟨.bl b, H, I.kept (t' := tk) fun _ _ z => z, rfl, q⟩
      rcases hd with hd | ⟨dd, fv, hd, hx⟩
      · exact fin (od := none) ⟨hget, hz.zc.1.trans hD, nc, by rw [hz.zc.2, hd]; trivial⟩
      · have ok : ObjOk X.prog X.w H s.heap dd (.xd fv) := I.hok dd _ hx
        obtain ⟨mA, hns, _⟩ := ok
        obtain ⟨od, ho, _⟩ := lookIn_ns hns
        exact fin (od := some od) ⟨hget, hz.zc.1.trans hD, nc, by rw [hz.zc.2, hd]; exact ho⟩
def dIsE (kit : Nat → Nat → Option Bool) (i : Nat) (a : Addr) (nm t : Nat) (γ : Env) (q : RS → Env → Prop) : Prop := look γ i = .val (.ref a) ∧ ∃ b, kit nm t = some b ∧ q (.val (.bl b)) γ
theorem x_isE {X : Cx} {B : Bs} {ct : Nat → Addr} {a : Addr} {oe : Obj} {cls : Value} {d : Option Addr} {pn : List (Addr × Obj)} {nm tn : Nat} {t x : Str} {fs : Xf} {kit : Nat → Nat → Option Bool} {p p1 p2 pos : Pos} (i : Nat) (hz : L2N.Zn cls d oe) (hf : ∃ vs, oe.data = .fields vs) (hcls : cls = .ref (ct nm)) (xd : XdOk X.K B B.F d fs)
    (hkit : ∀ nm t b, kit nm t = some b → ExcC X.K (ct nm) ∧ PySem.W.kitOne X.K (.ref (ct nm)) (.ref (ct t)) = some b) (hm : X.mg "isinstance" = none) (ht : X.mg t = some (.ref (ct tn)))
    (hN : X.N[i]? = some x := by rfl) (hv : Vis X.env.scope x := by first | exact Or.inl rfl | exact Or.inr (Or.inl rfl) | exact Or.inr (Or.inr rfl)) (hd : (x == ("__debug__" : Str)) = false := by decide) (hcd : (x == ("__classdict__" : Str)) = false := by decide)
    (hg : Gl X "isinstance" := by rfl) (hgt : Gl X t := by rfl) (hdt : (t == ("__debug__" : Str)) = false := by decide)
    (s1 : starEach (.Name x p1 :: [.Name t p2]) X.env = (false, eval (.Name x p1) X.env) :: starEach [.Name t p2] X.env := by rfl) (s2 : starEach (.Name t p2 :: []) X.env = (false, eval (.Name t p2) X.env) :: starEach [] X.env := by rfl) (hpl : (backTo pos (starEach [.Name t p2] X.env)).any (·.1) = false := by rfl) :
    XE (X.suite a ((a, oe) :: pn)) B (.Call (.Name "isinstance" p) [.Name x p1, .Name t p2] [] pos) (tCB (rIsX X.K a cls d) (tCons (tVar i) (tCons (tC (.ref (ct tn))) tNil))) (dIsE kit i a nm tn) :=
  ⟨pe_callB (X := X.suite a ((a, oe) :: pn)) (call_isX hz hf) hg hm (by decide +kernel) (pa_cons (pe_var (X := X.suite a ((a, oe) :: pn)) hN hv hd hcd) (pa_cons (pe_glob (X := X.suite a ((a, oe) :: pn)) hgt ht rfl hdt) pa_nil s2) s1) (by decide) (by decide) s1 hpl, fun F H σ γ Q q R ⟨h1, b, h2, h3⟩ k => by
  obtain ⟨T, hk⟩ := hkit nm tn b h2
  obtain ⟨v, hs, r⟩ := R.val h1
  cases r
  have hx : d = none ∨ ∃ dd fv, d = some dd ∧ H dd = some (.xd fv) := by
    cases d with
    | none => exact .inl rfl
    | some dd =>
      cases fs with
      | none => exact xd.elim
      | some l =>
        obtain ⟨fv, x1, _⟩ := xd
        exact .inr ⟨dd, fv, rfl, R.fh _ _ (R.b2 _ _ x1)⟩
  exact ⟨_, hs, ct nm, ct tn, b, rfl, hcls, T, hx, hk, k _ F H γ (.val (.bl b)) R (Evl.Ex.refl F) (.bl b) h3⟩⟩
end DL

set_option Elab.async false
set_option linter.all false
set_option maxRecDepth 100000
set_option maxHeartbeats 2000000
namespace DL
open PySem PySem.Spec PyProof.Rows L2
open Evl (Ex ex_l ex_t)
open L2H (Hot1 RoomH cxH FnH fn_ofH HotC pe_callH)
section
variable {K : PySem.W.Frag} {B : Bs}
/-! ### further methods of lists -/
def mIns (ds as : List D) (q : List D → D → Prop) : Prop := match as with
  | [.int i, x] => 0 ≤ i ∧ i < 2 ^ 62 ∧ ds.length < 1000000 ∧ q (ds.take i.toNat ++ [x] ++ ds.drop i.toNat) .non
  | _ => False
theorem md_insert : MutD K (fun x vs H Q => ∃ (l : Addr) (xs : List V) (i : Int) (y : V), x = .ref l ∧ vs = [.int i, y] ∧ H l = some (.lst xs) ∧ xs.length < sizeLine ∧ 0 ≤ i ∧ i < 2 ^ 63 ∧ Q .non (upd H l (.lst (xs.take i.toNat ++ [y] ++ xs.drop i.toNat)))) mIns := fun z F H a vs ds xs as Q q eFH ha ra rx hf k => by
  unfold mIns at hf
  split at hf
  · obtain ⟨x, y, rfl, r1, r2⟩ := two_rs rx.p
    cases r1
    obtain ⟨i1, i2, h1, h2⟩ := hf
    exact ⟨a, vs, _, y, rfl, rfl, ha, Nat.lt_of_lt_of_le (by rw [ra.length]; exact h1) (by decide), i1, by omega, k _ _ _ _ (RpAll.of (P_app (P_app (P_take _ ra.p) (.cons r2 .nil)) (P_drop _ ra.p))) .non h2⟩
  · exact hf.elim
def mClear (ds as : List D) (q : List D → D → Prop) : Prop := match as with
  | [] => q [] .non
  | _ => False
theorem md_clear : MutD K rClear mClear := fun z F H a vs ds xs as Q q eFH ha ra rx hf k => by
  unfold mClear at hf
  split at hf
  · cases rx
    exact ⟨a, vs, rfl, rfl, ha, k _ _ _ _ .nil .non hf⟩
  · exact hf.elim
def mRev (ds as : List D) (q : List D → D → Prop) : Prop := match as with
  | [] => q ds.reverse .non
  | _ => False
theorem md_reverse : MutD K rReverse mRev := fun z F H a vs ds xs as Q q eFH ha ra rx hf k => by
  unfold mRev at hf
  split at hf
  · cases rx
    exact ⟨a, vs, rfl, rfl, ha, k _ _ _ _ (RpAll.of (P_rev ra.p)) .non hf⟩
  · exact hf.elim
def mExt (ds as : List D) (q : List D → D → Prop) : Prop := match as with
  | [.lst es] => ds.length + es.length ≤ 1000000 ∧ q (ds ++ es) .non
  | _ => False
theorem md_extend : MutD K rExtend mExt := fun z F H a vs ds xs as Q q eFH ha ra rx hf k => by
  unfold mExt at hf
  split at hf
  · obtain ⟨x, rfl, r1⟩ := one_rs rx.p
    cases r1 with
    | @lst b ws _ hb rb =>
      exact ⟨a, b, vs, ws, rfl, rfl, ha, eFH _ _ hb, sz_le (by rw [ra.length, rb.length]; exact hf.1), k _ _ _ _ (RpAll.of (P_app ra.p rb.p)) .non hf.2⟩
  · exact hf.elim
/-! methods that only read -/
def RdD (K : PySem.W.Frag) (r : V → List V → Hp → VK → Prop) (f : List D → List D → (D → Prop) → Prop) : Prop := ∀ (z : Addr → Prop) (F H : Hp) (a : Addr) (vs : List V) (ds : List D) (xs : List V) (as : List D) (Q : VK) (q : D → Prop), Ex F H → H a = some (.lst vs) → RpAll ⟨K, z⟩ F vs ds → RpAll ⟨K, z⟩ F xs as → f ds as q →
  (∀ v d, Rp ⟨K, z⟩ F v d → q d → Q v H) → r (.ref a) xs H Q
def dRd (f : List D → List D → (D → Prop) → Prop) (de : DE) (da : DA) (γ : Env) (q : RS → Env → Prop) : Prop := de γ fun s γ1 => match s.data with
  | .lst ds => da γ1 fun rs γ2 => s.ok γ2 ∧ allV rs ∧ f ds (rs.map RS.data) fun d => q (.val d) γ2
  | _ => False
theorem se_rd {te : TE} {de : DE} {ta : TA} {da : DA} {r : V → List V → Hp → VK → Prop} {f : List D → List D → (D → Prop) → Prop} (hm : RdD K r f) (he : SE K B te de) (ha : SA K B ta da) : SE K B (tBM K "list" r te ta) (dRd f de da) := fun F H σ γ Q q R hq k => by
  refine he F H σ γ _ _ R hq fun x F1 H1 γ1 s R1 e1 o1 h1 => ?_
  obtain ⟨F2, R2, e2, o2⟩ := o1.fz R1
  split at h1
  · rename_i ds es
    have rx := o2.rs R2
    rw [RS.fz_data, es] at rx
    obtain ⟨a, vs, rfl, h2, r1⟩ := rx.lst R2.fh
    refine ⟨Or.inl ⟨rfl, vs, Evl.sq_of h2⟩, ha F2 H1 σ γ1 _ _ R2 h1 fun ws F3 H3 γ3 rs R3 e3 o3 ⟨h3, h4, h5⟩ => ?_⟩
    have ox := (o2.later e3 R3 (fz_ok s γ3 h3) (fz_idem s)).rs R3
    rw [RS.fz_data, es] at ox
    obtain ⟨a', vs', ea, h6, r6⟩ := ox.lst R3.fh
    cases ea
    exact hm B.z F3 H3 a vs' ds ws _ Q _ R3.fh h6 r6 (allV_rp o3 h4) h5 fun v d rd hq => k v F3 H3 γ3 (.val d) R3 ((e1.trans e2).trans e3) rd hq
  · exact h1.elim
/-- the first place of a number -/
def mIndex (ds as : List D) (q : D → Prop) : Prop := match as with
  | [.int y] => ∃ (ns : List Int) (j : Nat), ds = ns.map D.int ∧ ns[j]? = some y ∧ (∀ m, m < j → ns[m]? ≠ some y) ∧ q (.int (j : Nat))
  | _ => False
theorem rd_index : RdD K (rIndex K) mIndex := fun z F H a vs ds xs as Q q eFH ha ra rx hf k => by
  unfold mIndex at hf
  split at hf
  · obtain ⟨x, rfl, r1⟩ := one_rs rx.p
    cases r1
    obtain ⟨ns, j, rfl, h1, h2, h3⟩ := hf
    have ev := rp_ints ra
    subst ev
    refine ⟨a, _, _, j, _, rfl, rfl, Evl.sq_of ha, rfl, by simp [flatV], by rw [List.getElem?_map, h1]; rfl, by simp [eqV], fun m z' hm hz => ?_, k _ _ (.int _) h3⟩
    rw [List.getElem?_map] at hz
    cases e : ns[m]? with
    | none => rw [e] at hz; cases hz
    | some y' =>
      rw [e] at hz
      cases hz
      have ne : y' ≠ _ := fun e2 => h2 m hm (by rw [e, e2])
      simpa [eqV] using ne
  · exact hf.elim
/-! xs[i], xs a list or a tuple -/
def fIxQ : D → D → (RS → Prop) → Prop
  | .lst xs, .int i, q => ∃ d, atI xs i = some d ∧ q (.val d)
  | .tup xs, .int i, q => ∃ d, atI xs i = some d ∧ q (.val d)
  | _, _, _ => False
theorem od_ixQ : OpD K (rIx K) fIxQ := fun B F H σ γ x y d e Q q R rx ry hf k => by
  unfold fIxQ at hf
  split at hf
  · exact .inl (od_ixL B F H σ γ x y _ _ Q q R rx ry hf k)
  · exact .inr (.inl (od_ixT B F H σ γ x y _ _ Q q R rx ry hf k))
  · exact hf.elim
def dBits (de : DE) (γ : Env) (q : RS → Env → Prop) : Prop := de γ fun s γ1 => match s.data with
  | .int i => q (.val (.int (Builtin.Int.intBits i : Nat))) γ1
  | _ => False
end
section
variable {X : Cx} {B : Bs} {e o c : Expr} {te : TE} {de : DE} {ta : TA} {da : DA} {es : List Expr}
theorem x_rd {r : V → List V → Hp → VK → Prop} {f : List D → List D → (D → Prop) → Prop} (pe : PE X o te → PA X es ta → PE X c (tBM X.K "list" r te ta)) (hd : RdD X.K r f) (ho : XE X B o te de) (h : XA X B es ta da) : XE X B c (tBM X.K "list" r te ta) (dRd f de da) := ⟨pe ho.pe h.pa, se_rd hd ho.se h.sa⟩
theorem x_bits {apos pos : Pos} (ho : XE X B o te de) (hbase : attributeBase o "bit_length" X.env (eval o X.env) = eval o X.env := by rfl) (hline : (apos.endLine == pos.line) = true := by rfl) : XE X B (.Call (.Attribute o "bit_length" apos) [] [] pos) (tBits te) (dBits de) := ⟨pe_bits ho.pe hbase hline, fun F H σ γ Q q R hq k => by
  refine ho.se F H σ γ _ _ R hq fun x F1 H1 γ1 s R1 e1 o1 h1 => ?_
  split at h1
  · rename_i i es
    have r := o1.rs R1
    rw [es] at r
    exact ⟨i, r.int, k _ F1 H1 γ1 (.val _) R1 e1 (.int _) h1⟩
  · exact h1.elim⟩
end
/-- the j-th statement of a class -/
def methOf (j : Nat) : Stmt → Stmt
  | .ClassDef (body := ss) .. => ss.getD j (.Pass ⟨0, 0, 0, 0⟩)
  | st => st
/-! ### helpers that are called inside an except suite -/
section
variable {K : PySem.W.Frag} {F0 H : Hp} {m : List Addr} {z : ZN H} {vs : List V} {as : List Sx} {p : RS → List Sx → Prop} {Q : VK}
theorem entry_ends (R0 : Rep K (entry F0 H m z vs) F0 H (vs.map some) as) (hq : ∀ r as' v F' H', p r as' → Rep K (entry F0 H m z vs) F' H' (vs.map some) as' → RsOk K (entry F0 H m z vs) F' H' (vs.map some) as' v r → r.kept → Q v H') :
    EndsOk K (entry F0 H m z vs) F0 { nx := fun _ H' => Q .non H', rt := Q } (endsOf as p) := by
  refine ⟨fun F' H' σ' γ' R' _ h1 => ?_, fun F' H' σ' γ' v r R' _ o ⟨hk, h1⟩ => ?_, fun _ _ _ _ _ _ z => z, fun _ _ _ _ _ _ z => z⟩
  · obtain ⟨zs, ho, hp⟩ := outP h1
    exact hq (.val .non) zs .non F' H' hp (R0.outs R' ho) .non trivial
  · obtain ⟨zs, ho, hp⟩ := outP h1
    have R2 := R0.outs R' ho
    refine hq r zs v F' H' hp R2 ?_ hk
    cases r with
    | val d => exact o
    | own j c => exact hk.elim
    | new c =>
      obtain ⟨a, rfl, N⟩ := o
      refine ⟨a, rfl, N.fa, N.ok, N.bn, N.bm, fun i p' c' h1 h2 => ?_⟩
      obtain ⟨_, ok⟩ := R2.ownObj h1 h2
      have e1 : H a = none := N.bn
      obtain ⟨_, h3⟩ := outs_get ho
      rcases h3 i _ h1 with ⟨p2, c0, c2, e2, _, _⟩ | ⟨_, n2⟩
      · obtain ⟨_, ok2⟩ := R0.ownObj e2 h2
        obtain ⟨o, ho, _⟩ := ok2.obj
        rw [e1] at ho; cases ho
      · exact n2 p' c' rfl
end
theorem fn_okH {P : Program} {w : World} {K : PySem.W.Frag} {mg : Str → Option Value} {base : Heap} {x qual : Str} {st : Stmt} {f : Addr} {fd : FuncData} {N ps : List Str} {k n : Nat} {fs : FS} {ds : DS} (F : Fun K x qual st f fd) (S : FnScope N ps (defScope st)) (hn : ps.length = n) (hN : n ≤ N.length)
    (body : ∀ (B : Bs) (cd : Value) (A : Around) (o : List PySem.Env) (s : Shared) (H : Hp) (E : XK) (p : Addr × Obj), Hot1 A p → RoomH k (A.deeper (envOfC qual (defScope st) s.heap.objs.size f cd)) → ∃ ts, XSs (cxH CX0 P w K mg base N qual (defScope st) f cd A o s H E p) B (defBody st) ts ds)
    (h : ∀ as p, as.length = n → fs as p → ds (endsOf as p) (startG N.length as)) : FnH P w K mg base CX0 (k + 1) f fd ps (spOf K n fs) := by
  obtain ⟨_, _, _, _, _, _, cd, _, _, e, lk, hc⟩ := F.ex
  subst e
  refine fn_ofH lk hc S (fun vs H Q E h => h.1.trans hn.symm) fun A o s H vs Q E pp hot hr ⟨hl, F0, m, z, as, p, R0, hf, hq⟩ => ?_
  have ha : as.length = n := by have := R0.len; rw [List.length_map] at this; omega
  obtain ⟨ts, b⟩ := body (entry F0 H m z vs) cd A o s H E pp hot hr
  exact ⟨ts, b.ps, b.ss F0 H _ _ _ (endsOf as p) (R0.start (by rw [hl]; exact hN)) (h as p ha hf) (entry_ends R0 hq)⟩
theorem hot_su {X : Cx} {a : Addr} {oe : Obj} {cls : Value} {d : Option Addr} {pn : List (Addr × Obj)} (hz : L2N.Zn cls d oe) (hf : ∃ vs, oe.data = .fields vs) : HotC (X.suite a ((a, oe) :: pn)) := by
  obtain ⟨vs, hv⟩ := hf
  exact ⟨(a, oe), ⟨rfl, vs, hv, hz.2.2 vs hv⟩, List.mem_cons_self⟩
theorem x_callH {X : Cx} {B : Bs} {a : Expr} {es : List Expr} {ta : TA} {da : DA} {k n : Nat} {f : Addr} {fd : FuncData} {ps : List Str} {fs : FS} {x : Str} {p pos : Pos} (K : PySem.W.Frag) (hK : X.K = K) (hc : HotC X) (G : FnH X.prog X.w X.K X.mg X.base CX0 k f fd ps (spOf X.K n fs)) (hr : RoomH k X.A) (hm : X.mg x = some (.ref f)) (hk : PySem.W.keepIn X.K (.ref f) = true) (hb : Binds X.K fd ps []) (h : XA X B (a :: es) ta da)
    (hg : Gl X x := by rfl) (hdb : (x == ("__debug__" : Str)) = false := by decide) (he : starEach (a :: es) X.env = (false, eval a X.env) :: starEach es X.env := by rfl) (hpl : (backTo pos (starEach es X.env)).any (·.1) = false := by rfl) :
    XE X B (.Call (.Name x p) (a :: es) [] pos) (tCallS (spOf K n fs) (fun _ => E0) ta) (dCall n fs [] da) := by
  subst hK
  refine ⟨pe_callH G hr hc hg hm hk hb (fun _ _ _ _ _ _ _ z => z.elim) h.pa hdb he hpl, fun F H σ γ Q q R hq kk => ?_⟩
  have z := (se_call (n := n) (fs := fs) (E := E0) h.sa (od := .nil)) F H σ γ Q q R hq kk
  have z' : ta σ H fun vs H1 => spOf X.K n fs (vs ++ []) H1 Q E0 := z
  simp only [List.append_nil] at z'
  exact z'
end DL

set_option Elab.async false
set_option linter.all false
set_option maxRecDepth 100000
set_option maxHeartbeats 2000000
namespace DL
open PySem PySem.Spec PyProof.Rows L2
open Evl (Ex ex_l ex_t)
/-! ### f(..), what is owned lent; the answer is flat, or a new list of flat things -/
def lendR : RS → (RS → Prop) → Prop
  | .val d, q => flatD d ∧ q (.val d)
  | .new (.lst ds), q => flatAll ds ∧ q (.new (.lst ds))
  | _, _ => False
def dCallL (n : Nat) (fs : FS) (da : DA) (γ : Env) (q : RS → Env → Prop) : Prop := da γ fun rs γ1 => noNew rs ∧ rs.length = n ∧ fs (rs.map fun r => Sx.val r.data) fun r _ => lendR r fun r => q r γ1
def dCallLX (n : Nat) (fs : FSX) (da : DA) (γ : Env) (q : RS → Env → Prop) : Prop := da γ fun rs γ1 => noNew rs ∧ rs.length = n ∧ fs (rs.map fun r => Sx.val r.data) (fun r _ => lendR r fun r => q r γ1) fun _ _ _ => False
section
variable {K : PySem.W.Frag} {B : Bs} {F1 H1 : Hp} {σ : L2.St} {γ1 : Env} {vs : List V} {rs : List RS}
theorem lend_entry (R1 : Rep K B F1 H1 σ γ1) (o1 : Paired (RsOk K B F1 H1 σ γ1) vs rs) (h0 : noNew rs) : ∃ F2, Rep K (entry F2 H1 [] R1.zn vs) F2 H1 (vs.map some) (rs.map fun r => Sx.val r.data) := by
  obtain ⟨F2, e2, e3, ra⟩ := R1.lend (lent o1 h0)
  refine ⟨F2, ?_⟩
  have e0 : (rs.map fun r => Sx.val r.data) = (rs.map RS.data).map Sx.val := by rw [List.map_map]; rfl
  rw [e0]
  have none : ∀ {i : Nat} {p : Option Nat} {c : OC}, ((rs.map RS.data).map Sx.val)[i]? ≠ some (.own p c) := fun {i p c} h => by
    rw [List.getElem?_map] at h
    cases q : (rs.map RS.data)[i]? with
    | none => rw [q] at h; cases h
    | some d => rw [q] at h; cases h
  refine ⟨e3, by rw [List.length_map, List.length_map, P_len ra.p], fun i s t hs hg => ?_, fun i j a p c q c' h1 => absurd h1 none, fun b o e => ⟨fun _ => e, o, e⟩, Evl.Ex.refl F2, fun b o _ _ => rfl, fun i a p c h1 => absurd h1 none, fun i a p c h1 => absurd h1 none, fun b o e => ⟨o, e⟩, fun a o e => ⟨o, e, .refl o⟩⟩
  rw [List.getElem?_map] at hs hg
  cases q : (rs.map RS.data)[i]? with
  | none => rw [q] at hg; cases hg
  | some d =>
    rw [q] at hg
    cases hg
    obtain ⟨v, hv, r⟩ := P_get ra.p q
    rw [hv] at hs
    exact ⟨v, (Option.some.inj hs).symm, r⟩
theorem lend_exit (R1 : Rep K B F1 H1 σ γ1) {F2 F3 H3 : Hp} {as' : List Sx} {v : V} {r : RS} {Q : VK} {q : RS → Env → Prop} (R3 : Rep K (entry F2 H1 [] R1.zn vs) F3 H3 (vs.map some) as') (ok : RsOk K (entry F2 H1 [] R1.zn vs) F3 H3 (vs.map some) as' v r) (hp : lendR r fun r => q r γ1)
    (k : ∀ v F' H' γ' s, Rep K B F' H' σ γ' → Ex F1 F' → RsOk K B F' H' σ γ' v s → q s γ' → Q v H') : Q v H3 := by
  have eH : Ex H1 H3 := fun b o e => (R3.b1 b o e).1 (by simp [entry])
  unfold lendR at hp
  split at hp
  · rename_i d
    refine k v F1 H3 γ1 (.val d) (R1.grow eH) (Evl.Ex.refl F1) ?_ hp.2
    have ok' : Rp (B.kz K) F3 v d := ok
    show Rp (B.kz K) F1 v d
    have hf := hp.1
    cases ok' with
    | non => exact .non
    | bl b => exact .bl b
    | int i => exact .int i
    | str x => exact .str x
    | _ => exact hf.elim
  · rename_i ds
    obtain ⟨a, ea, N⟩ := ok
    obtain ⟨ws, hl, hr⟩ := N.ok
    have ha : H1 a = none := N.bn
    obtain ⟨f1, f2, f3, f4⟩ := R1.fresh ha
    exact k v F1 H3 γ1 (.new (.lst ds)) (R1.grow eH) (Evl.Ex.refl F1) ⟨a, ea, f1, ⟨ws, hl, flat_rp hr hp.1⟩, f3, .inr f2, f4⟩ hp.2
  · exact hp.elim
theorem se_callL {n : Nat} {fs : FS} {E : XK} {ta : TA} {da : DA} (h : SA K B ta da) : SE K B (tCall (spOf K n fs) [] E ta) (dCallL n fs da) := fun F H σ γ Q q R hq k => by
  refine h F H σ γ _ _ R hq fun vs F1 H1 γ1 rs R1 e1 o1 ⟨h0, h2, h3⟩ => ?_
  obtain ⟨F2, RE⟩ := lend_entry R1 o1 h0
  rw [List.append_nil]
  exact ⟨by rw [P_len o1]; exact h2, F2, [], _, _, _, RE, h3, fun r as' v F3 H3 hp R3 ok hk => lend_exit R1 R3 ok hp fun v F' H' γ' s R' e' o' hq => k v F' H' γ' s R' (e1.trans e') o' hq⟩
theorem se_callLX {ct : Nat → Addr} {n : Nat} {fs : FSX} {ta : TA} {da : DA} (h : SA K B ta da) : SE K B (tCall (spOfX K ct n fs) [] E0 ta) (dCallLX n fs da) := fun F H σ γ Q q R hq k => by
  refine h F H σ γ _ _ R hq fun vs F1 H1 γ1 rs R1 e1 o1 ⟨h0, h2, h3⟩ => ?_
  obtain ⟨F2, RE⟩ := lend_entry R1 o1 h0
  rw [List.append_nil]
  exact ⟨by rw [P_len o1]; exact h2, F2, [], _, _, _, _, RE, h3, fun r as' v F3 H3 hp R3 ok hk => lend_exit R1 R3 ok hp fun v F' H' γ' s R' e' o' hq => k v F' H' γ' s R' (e1.trans e') o' hq, fun _ _ _ _ _ _ z _ _ => z.elim⟩
end
section
variable {X : Cx} {B : Bs} {a : Expr} {es : List Expr} {ta : TA} {da : DA} {k n : Nat} {f : Addr} {fd : FuncData} {ps : List Str} {x : Str} {p pos : Pos}
theorem x_callL (K : PySem.W.Frag) (hK : X.K = K) {fs : FS} (G : FnOk X.prog X.w X.K X.mg X.base CX0 k f fd ps (spOf X.K n fs)) (hr : Room k X.A) (hm : X.mg x = some (.ref f)) (hk : PySem.W.keepIn X.K (.ref f) = true) (hb : Binds X.K fd ps []) (h : XA X B (a :: es) ta da)
    (hg : Gl X x := by rfl) (hdb : (x == ("__debug__" : Str)) = false := by decide) (he : starEach (a :: es) X.env = (false, eval a X.env) :: starEach es X.env := by rfl) (hpl : (backTo pos (starEach es X.env)).any (·.1) = false := by rfl) :
    XE X B (.Call (.Name x p) (a :: es) [] pos) (tCall (spOf K n fs) [] E0 ta) (dCallL n fs da) := by
  subst hK
  exact ⟨pe_call G hr hg hm hk hb .nil pass0 h.pa hdb he hpl, se_callL h.sa⟩
theorem x_callLX (K : PySem.W.Frag) (hK : X.K = K) {ct : Nat → Addr} {fs : FSX} (G : FnOk X.prog X.w X.K X.mg X.base (L2N.CX X.prog X.w) k f fd ps (spOfX X.K ct n fs)) (hr : Room k X.A) (hm : X.mg x = some (.ref f)) (hk : PySem.W.keepIn X.K (.ref f) = true) (hb : Binds X.K fd ps []) (h : XA X B (a :: es) ta da)
    (hg : Gl X x := by rfl) (hdb : (x == ("__debug__" : Str)) = false := by decide) (he : starEach (a :: es) X.env = (false, eval a X.env) :: starEach es X.env := by rfl) (hpl : (backTo pos (starEach es X.env)).any (·.1) = false := by rfl) :
    XE X B (.Call (.Name x p) (a :: es) [] pos) (tCall (spOfX K ct n fs) [] E0 ta) (dCallLX n fs da) := by
  subst hK
  exact ⟨pe_call G hr hg hm hk hb .nil passN h.pa hdb he hpl, se_callLX h.sa⟩
end
/-! ### try, its suite unread -/
def TryX (sub : Nat → Option Bool) (i : Nat) (ts : Addr → Nat → Xf → DS) (xc : DX) (d : DEnds) (nm : Nat) (fs : Xf) (γ1 : Env) : Prop := ∃ b, sub nm = some b ∧ (b = true → ∀ a, ts a nm fs { nx := fun γ2 => d.nx (put γ2 i .no), rt := d.rt, bk := fun γ2 => d.bk (put γ2 i .no), ct := fun γ2 => d.ct (put γ2 i .no) } (put γ1 i (.val (.ref a)))) ∧ (b = false → xc nm fs γ1)
theorem dTryAs_eq {sub : Nat → Option Bool} {i : Nat} {tb : DX → DS} {ts : Addr → Nat → Xf → DS} {xc : DX} {d : DEnds} {γ : Env} : dTryAs sub i tb ts xc d γ = tb (fun nm fs γ1 => TryX sub i ts xc d nm fs γ1) d γ := rfl
theorem try_in {sub : Nat → Option Bool} {i : Nat} {ts : Addr → Nat → Xf → DS} {xc : DX} {d : DEnds} {nm : Nat} {fs : Xf} {γ1 : Env} (h : sub nm = some true) (k : ∀ a, ts a nm fs { nx := fun γ2 => d.nx (put γ2 i .no), rt := d.rt, bk := fun γ2 => d.bk (put γ2 i .no), ct := fun γ2 => d.ct (put γ2 i .no) } (put γ1 i (.val (.ref a)))) : TryX sub i ts xc d nm fs γ1 := ⟨true, h, fun _ => k, fun z => by cases z⟩
theorem try_out {sub : Nat → Option Bool} {i : Nat} {ts : Addr → Nat → Xf → DS} {xc : DX} {d : DEnds} {nm : Nat} {fs : Xf} {γ1 : Env} (h : sub nm = some false) (k : xc nm fs γ1) : TryX sub i ts xc d nm fs γ1 := ⟨false, h, (fun z => by cases z), fun _ => k⟩
end DL

set_option Elab.async false
set_option linter.all false
set_option maxRecDepth 100000
set_option maxHeartbeats 2000000
namespace DL
open PySem PySem.Spec PyProof.Rows L2
open Evl (Ex ex_l ex_t)
/-! ### instances of the text's own classes -/
section
variable {K : KZ} {F H : Hp}
theorem Rs.obj {C : String} {fs : List (Str × D)} {v : V} (e : Ex F H) (h : Rs K F H v (.obj C fs)) : ∃ a dx fv, v = .ref a ∧ H a = some (.ins (ctOf K.fr C) dx fv) ∧ RpFs K F fv fs := by
  rcases h with h | ⟨a, rfl, ⟨_, _, z, _⟩ | ⟨_, dx, fv, fs', z, h1, h2, h3⟩ | ⟨_, _, z, _⟩⟩
  · cases h with
    | obj h1 h2 h3 => exact ⟨_, _, _, rfl, e _ _ h1, h3⟩
  · cases z
  · cases z; exact ⟨a, dx, fv, rfl, h1, h3⟩
  · cases z
def putD (f : Str) (v : D) : List (Str × D) → List (Str × D)
  | [] => [(f, v)]
  | (g, x) :: r => if g = f then (g, v) :: r else (g, x) :: putD f v r
theorem putD_nil {f : Str} {v : D} : putD f v [] = [(f, v)] := rfl
theorem putD_cons {f g : Str} {v x : D} {r : List (Str × D)} : putD f v ((g, x) :: r) = if g = f then (g, v) :: r else (g, x) :: putD f v r := rfl
theorem put_rp {f : Str} {v : V} {d : D} (r : Rp K F v d) : ∀ {fv : List (Str × V)} {fs : List (Str × D)}, RpFs K F fv fs → RpFs K F (putF f v fv) (putD f d fs)
  | _, _, .nil => .cons r .nil
  | _, _, @RpFs.cons _ _ g x vs y ds r1 t => by
    unfold putF putD
    by_cases e : g = f
    · rw [if_pos e, if_pos e]; exact .cons r t
    · rw [if_neg e, if_neg e]; exact .cons r1 (put_rp r t)
theorem fs_len : ∀ {fv : List (Str × V)} {fs : List (Str × D)}, RpFs K F fv fs → fv.length = fs.length
  | _, _, .nil => rfl
  | _, _, .cons _ t => by rw [List.length_cons, List.length_cons, fs_len t]
theorem fs_none {n : Str} : ∀ {fv : List (Str × V)} {fs : List (Str × D)}, RpFs K F fv fs → fs.lookup n = none → fv.lookup n = none
  | _, _, .nil, h => rfl
  | _, _, @RpFs.cons _ _ m v vs d ds r t, h => by
    by_cases e : n = m
    · subst e
      simp [List.lookup] at h
    · have e' : (n == m) = false := by simpa using e
      simp only [List.lookup, e'] at h ⊢
      exact fs_none t h
end
/-- class, attribute: a plain attribute -/
abbrev FT := String → Str → Bool
def FtOk (K : PySem.W.Frag) (tab : FT) : Prop := ∀ C f, tab C f = true → Cls K (ctOf K C) ∧ NoAttr K (ctOf K C) f
def fFld (tab : FT) (f : Str) : D → (RS → Prop) → Prop
  | .obj C fs, q => tab C f = true ∧ ∃ d, fs.lookup f = some d ∧ q (.val d)
  | _, _ => False
def rFld (K : PySem.W.Frag) (f : Str) : V → Hp → VK → Prop := fun x H Q => ∃ a C dx fs v, x = .ref a ∧ H a = some (.ins C dx fs) ∧ Cls K C ∧ NoAttr K C f ∧ fs.lookup f = some v ∧ Q v H
theorem ud_fld {K : PySem.W.Frag} {tab : FT} {f : Str} (ht : FtOk K tab) : UnD K (rFld K f) (fFld tab f) := fun B F H σ γ x d Q q R rx hf k => by
  unfold fFld at hf
  split at hf
  · rename_i C fs
    obtain ⟨h1, d, hd, hq⟩ := hf
    obtain ⟨a, dx, fv, rfl, h2, h3⟩ := rx.obj R.fh
    obtain ⟨v, hv, r⟩ := fs_get h3 hd
    obtain ⟨c, n⟩ := ht C f h1
    exact ⟨a, _, dx, fv, v, rfl, h2, c, n, hv, vk R k r hq⟩
  · exact hf.elim
theorem x_fld {X : Cx} {B : Bs} {e : Expr} {te : TE} {de : DE} {tab : FT} {pos : Pos} (f : Str) (ht : FtOk X.K tab) (h : XE X B e te de) (hb : attributeBase e f X.env (eval e X.env) = eval e X.env := by rfl) : XE X B (.Attribute e f pos) (tFld X.K te f) (d1 (fFld tab f) de) := ⟨pe_fld h.pe hb, se_un (ud_fld ht) h.se⟩
section
variable {K : PySem.W.Frag} {B : Bs} {F F' H H' : Hp} {σ : L2.St} {γ : Env}
/-- the instance in slot j is written anew -/
theorem Rep.writeI (R : Rep K B F H σ γ) {j : Nat} {p : Option Nat} {C : String} {fs fs' : List (Str × D)} {a dx : Addr} {fv fv' : List (Str × V)} (hl : look γ j = .own p (.ins C fs)) (hs : σ[j]? = some (some (.ref a))) (ha : H a = some (.ins (ctOf K C) dx fv)) (r : RpFs (B.kz K) F fv' fs') :
    Rep K B F (upd H a (.ins (ctOf K C) dx fv')) σ (put γ j (.own p (.ins C fs'))) := by
  obtain ⟨a', hs', hg, fa, ok⟩ := R.own hl
  obtain rfl : a = a' := by rw [hs] at hs'; cases hs'; rfl
  have ne_own : ∀ {b x : Addr}, H b = some (.own x) → b ≠ a := fun h e => by
    subst e
    rw [ha] at h; cases h
  have key : ∀ {i : Nat} {q : Option Nat} {c : OC}, (put γ j (.own p (.ins C fs')))[i]? = some (.own q c) → ∃ c0, γ[i]? = some (.own q c0) ∧ ((i = j ∧ c = .ins C fs') ∨ (i ≠ j ∧ c0 = c)) := fun h => by
    rcases get_put h with ⟨rfl, e⟩ | ⟨n, e⟩
    · injection e with e1 e2
      subst e1; subst e2
      exact ⟨_, hg, .inl ⟨rfl, rfl⟩⟩
    · exact ⟨_, e, .inr ⟨n, rfl⟩⟩
  refine ⟨fun b o e => ?_, by rw [put_len]; exact R.len, fun i s t h1 h2 => ?_, fun i i' b q c q' c' h1 h2 h3 h4 => ?_, fun b o e => ?_, R.b2, R.b3, fun i b q c h1 h2 => ?_, fun i b q c h1 h2 => ?_, fun b o e => ?_, fun b o e => ?_⟩
  · have n : b ≠ a := fun z => by subst z; rw [fa] at e; cases e
    rw [upd_ne n]; exact R.fh b o e
  · rcases get_put h2 with ⟨rfl, rfl⟩ | ⟨n, e⟩
    · rw [hs] at h1; cases h1
      obtain ⟨dx', fv0, q1, q2, q3, q4, q5, q6⟩ := ok
      rw [ha] at q1
      cases q1
      exact ⟨a, rfl, fa, dx, fv', upd_same, (upd_ne (ne_own q2)).trans q2, q3, q4, q5, r⟩
    · have q := R.sl i s t h1 e
      cases t with
      | no => trivial
      | val d => exact q
      | own q' c =>
        obtain ⟨b, e', f, ok'⟩ := q
        subst e'
        have nb : b ≠ a := fun z => by subst z; exact n (R.nd i j b q' c p (.ins C fs) e hg h1 hs)
        exact ⟨b, rfl, f, ok'.heap (upd_ne nb) fun dx hd => upd_ne (ne_own hd)⟩
  · obtain ⟨_, y1, _⟩ := key h1
    obtain ⟨_, y2, _⟩ := key h2
    exact R.nd i i' b q _ q' _ y1 y2 h3 h4
  · obtain ⟨x1, o', x2⟩ := R.b1 b o e
    by_cases hb : b = a
    · subst hb
      rw [upd_same]
      refine ⟨fun n => ?_, _, rfl⟩
      rcases R.b5 j b p _ hg hs with z | z
      · exact absurd z n
      · rw [e] at z; cases z
    · rw [upd_ne hb]; exact ⟨x1, o', x2⟩
  · obtain ⟨_, y1, _⟩ := key h1
    exact R.b4 i b q _ y1 h2
  · obtain ⟨_, y1, _⟩ := key h1
    exact R.b5 i b q _ y1 h2
  · obtain ⟨o', x2⟩ := R.bN b o e
    by_cases hb : b = a
    · subst hb; exact ⟨_, upd_same⟩
    · rw [upd_ne hb]; exact ⟨o', x2⟩
  · obtain ⟨o', x2, kn⟩ := R.bd b o e
    by_cases hb : b = a
    · subst hb
      rw [ha] at x2
      cases x2
      exact ⟨_, upd_same, kn.trans ⟨_, rfl⟩⟩
    · rw [upd_ne hb]; exact ⟨o', x2, kn⟩
theorem kept_rp {v : V} {s : RS} (o : RsOk K B F H σ γ v s.fz) (hk : s.kept) : Rp (B.kz K) F v s.data := by
  cases s with
  | val x => exact o
  | new c => exact o
  | own j c => exact hk.elim
end
/-- name.f = e -/
def dSetF (tab : FT) (j : Nat) (f : Str) (de : DE) (d : DEnds) (γ : Env) : Prop := de γ fun s γ1 => s.kept ∧ match look γ1 j with
  | .own p (.ins C fs) => tab C f = true ∧ fs.length < 1000 ∧ d.nx (put γ1 j (.own p (.ins C (putD f s.data fs))))
  | _ => False
def dAugF (tab : FT) (j : Nat) (f : Str) (g : Int → Int → Int) (de : DE) (d : DEnds) (γ : Env) : Prop := match look γ j with
  | .own _ (.ins C fs) => tab C f = true ∧ ∃ i, fs.lookup f = some (.int i) ∧ de γ fun s γ1 => match s.data, look γ1 j with
    | .int k, .own p (.ins C' fs') => C' = C ∧ fs'.length < 1000 ∧ d.nx (put γ1 j (.own p (.ins C (putD f (.int (g i k)) fs'))))
    | _, _ => False
  | _ => False
section
variable {X : Cx} {B : Bs} {e : Expr} {te : TE} {de : DE} {tab : FT} {pos pos' p3 : Pos}
theorem s_setF (j : Nat) (f : Str) {o : Str} (ht : FtOk X.K tab) (he : XE X B e te de) (hN : X.N[j]? = some o := by rfl) (hv : Vis X.env.scope o := by first | exact Or.inl rfl | exact Or.inr (Or.inl rfl) | exact Or.inr (Or.inr rfl)) (hd : (o == ("__debug__" : Str)) = false := by decide) (hcd : (o == ("__classdict__" : Str)) = false := by decide)
    (hs : swapsWith e (some (.Attribute (.Name o p3) f pos')) pos.line X.env = pure false := by rfl) : XS X B (.Assign [.Attribute (.Name o p3) f pos'] e pos) (sFld X.K (tVar j) te f) (dSetF tab j f de) := ⟨ps_fld (pe_var hN hv hd hcd) he.pe hs, fun F H σ γ E d R hq k => by
  refine he.se F H σ γ _ _ R hq fun v F1 H1 γ1 s R1 e1 o1 ⟨hk, q⟩ => ?_
  obtain ⟨F2, R2, e2, o2⟩ := o1.fz R1
  split at q
  · rename_i p C fs hl
    obtain ⟨a, hs, hg, fa, dx, fv, ha, q2, q3, q4, q5, q6⟩ := R2.own hl
    obtain ⟨c, n⟩ := ht C f q.1
    exact ⟨_, hs, a, _, dx, fv, rfl, ha, c, n, by rw [fs_len q6]; exact q.2.1, k.nx F2 _ σ _ (R2.writeI hl hs ha (put_rp (kept_rp o2 hk) q6)) (e1.trans e2) q.2.2⟩
  · exact q.elim⟩
theorem s_augF (j : Nat) (f : Str) {o : Str} {op : Operator} {g : Int → Int → Int} {rd : V → V → Hp → VK → Prop} (ht : FtOk X.K tab) (he : XE X B e te de) (hop : InOp X op rd) (hrd : ∀ i k H Q, Q (.int (g i k)) H → rd (.int i) (.int k) H Q) (hN : X.N[j]? = some o := by rfl) (hv : Vis X.env.scope o := by first | exact Or.inl rfl | exact Or.inr (Or.inl rfl) | exact Or.inr (Or.inr rfl)) (hd : (o == ("__debug__" : Str)) = false := by decide) (hcd : (o == ("__classdict__" : Str)) = false := by decide) :
    XS X B (.AugAssign (.Attribute (.Name o p3) f pos') op e pos) (sFldAug X.K (tVar j) te rd f) (dAugF tab j f g de) := ⟨ps_fldaug (pe_var hN hv hd hcd) he.pe hop, fun F H σ γ E d R hq k => by
  unfold dAugF at hq
  split at hq
  · rename_i p C fs hl
    obtain ⟨h1, i, hi, hq⟩ := hq
    obtain ⟨a, hs, hg, fa, dx, fv, ha, q2, q3, q4, q5, q6⟩ := R.own hl
    obtain ⟨c, n⟩ := ht C f h1
    obtain ⟨u, hu, ru⟩ := fs_get q6 hi
    cases ru
    refine ⟨_, hs, a, _, dx, fv, _, rfl, ha, c, n, hu, ?_⟩
    refine he.se F H σ γ _ _ R hq fun v F1 H1 γ1 s R1 e1 o1 q => ?_
    split at q
    · rename_i kk p' C' fs' es hl'
      obtain ⟨rfl, hlen, hq⟩ := q
      have rv := o1.rs R1
      rw [es] at rv
      obtain ⟨a', hs', hg', fa', dx', fv', ha', q2', q3', q4', q5', q6'⟩ := R1.own hl'
      obtain rfl : a = a' := by rw [hs] at hs'; cases hs'; rfl
      rw [rv.int]
      exact hrd i kk _ _ ⟨dx', fv', ha', by rw [fs_len q6']; exact hlen, k.nx F1 _ σ _ (R1.writeI hl' hs ha' (put_rp (.int _) q6')) e1 hq⟩
    · exact q.elim
  · exact hq.elim⟩
end
/-- C(..) -/
def dMake (C : String) (n : Nat) (fs : FS) (dds : List D) (da : DA) (γ : Env) (q : RS → Env → Prop) : Prop := da γ fun rs γ1 => allV rs ∧ rs.length + dds.length + 1 = n ∧
  fs (.own (some 0) (.ins C []) :: ((rs.map RS.data).map Sx.val ++ dds.map Sx.val)) fun r as' => r = .val .non ∧ match as' with
    | .own _ (.ins C' fs') :: _ => C' = C ∧ q (.new (.ins C fs')) γ1
    | _ => False
section
variable {K : PySem.W.Frag} {B : Bs} {F1 H1 : Hp} {σ : L2.St} {γ1 : Env} {vs : List V} {ds : List D}
theorem make_entry {C : String} {x dx : Addr} (fh : Ex F1 H1) (ra : RpAll (B.kz K) F1 vs ds) (hx : H1 x = none) (hdx : H1 dx = none) (ne : dx ≠ x) (Z : ZN (upd (upd H1 dx (.own x)) x (.ins (ctOf K C) dx []))) (hZ : Z.1 = B.z) :
    Rep K (entry F1 (upd (upd H1 dx (.own x)) x (.ins (ctOf K C) dx [])) [x, dx] Z (.ref x :: vs)) F1 (upd (upd H1 dx (.own x)) x (.ins (ctOf K C) dx [])) ((V.ref x :: vs).map some) (.own (some 0) (.ins C []) :: ds.map Sx.val) := by
  have one : ∀ {i : Nat} {p : Option Nat} {c : OC}, (Sx.own (some 0) (.ins C []) :: ds.map Sx.val)[i]? = some (.own p c) → i = 0 ∧ p = some 0 ∧ c = .ins C [] := fun {i p c} h => by
    cases i with
    | zero => simp at h; exact ⟨rfl, h.1.symm, h.2.symm⟩
    | succ i =>
      simp only [List.getElem?_cons_succ, List.getElem?_map] at h
      cases q : ds[i]? with
      | none => rw [q] at h; cases h
      | some d => rw [q] at h; cases h
  have fx : F1 x = none := by
    cases e : F1 x with
    | none => rfl
    | some o => have := fh _ _ e; rw [hx] at this; cases this
  have fdx : F1 dx = none := by
    cases e : F1 dx with
    | none => rfl
    | some o => have := fh _ _ e; rw [hdx] at this; cases this
  refine ⟨fun b o e => ?_, by rw [List.length_map, List.length_cons, List.length_cons, List.length_map, P_len ra.p], fun i s t hs hg => ?_, fun i j a p c q c' h1 h2 h3 h4 => ?_, fun b o e => ⟨fun _ => e, o, e⟩, Evl.Ex.refl F1, fun b o _ _ => rfl, fun i a p c h1 h2 => ?_, fun i a p c h1 h2 => ?_, fun b o e => ⟨o, e⟩, fun a o e => ⟨o, e, .refl o⟩⟩
  · have n1 : b ≠ x := fun z => by subst z; rw [fx] at e; cases e
    have n2 : b ≠ dx := fun z => by subst z; rw [fdx] at e; cases e
    rw [upd_ne n1, upd_ne n2]; exact fh b o e
  · cases i with
    | zero =>
      simp at hs hg
      subst hs; subst hg
      refine ⟨x, rfl, fx, dx, [], upd_same, by rw [upd_ne ne]; exact upd_same, fdx, fun z => ?_, .inl (by show dx ∈ [x, dx]; simp), .nil⟩
      exact absurd (show (upd (upd H1 dx (.own x)) x (.ins (ctOf K C) dx [])) x = none from z) (by rw [upd_same]; simp)
    | succ i =>
      simp only [List.map_cons, List.getElem?_cons_succ, List.getElem?_map] at hs hg
      cases q : ds[i]? with
      | none => rw [q] at hg; cases hg
      | some d =>
        rw [q] at hg
        cases hg
        obtain ⟨v, hv, r⟩ := P_get ra.p q
        rw [hv] at hs
        refine ⟨v, (Option.some.inj hs).symm, ?_⟩
        have e : (entry F1 (upd (upd H1 dx (.own x)) x (.ins (ctOf K C) dx [])) [x, dx] Z (.ref x :: vs)).kz K = B.kz K := by
          show (⟨K, Z.1⟩ : KZ) = ⟨K, B.z⟩
          rw [hZ]
        rw [e]
        exact r
  · obtain ⟨rfl, _⟩ := one h1
    obtain ⟨rfl, _⟩ := one h2
    rfl
  · obtain ⟨rfl, rfl, rfl⟩ := one h1
    simp at h2
    subst h2
    exact ⟨fun k hk => by cases hk; rfl, fun z => by cases z⟩
  · obtain ⟨rfl, rfl, rfl⟩ := one h1
    simp at h2
    subst h2
    exact .inl (by show x ∈ [x, dx]; simp)
/-- later: the heap has grown, more stays -/
theorem Rep.later (R1 : Rep K B F1 H1 σ γ1) {F3 H3 : Hp} (fh : Ex F3 H3) (eH : Ex H1 H3) (eF : Ex F1 F3) (sF : ∀ b o, H1 b = some o → F3 b = F1 b) : Rep K B F3 H3 σ γ1 := by
  have R2 := R1.grow eH
  refine ⟨fh, R2.len, fun i s t hs hg => ?_, R2.nd, R2.b1, R2.b2.trans eF, fun b o e n => ?_, R2.b4, R2.b5, R2.bN, R2.bd⟩
  · have q1 := R1.sl i s t hs hg
    cases t with
    | no => trivial
    | val d => obtain ⟨v, e, r⟩ := q1; exact ⟨v, e, r.mono eF⟩
    | own p c =>
      obtain ⟨a, e, f, ok⟩ := q1
      subst e
      obtain ⟨o, ho, _⟩ := ok.obj
      refine ⟨a, rfl, (sF a o ho).trans f, ?_⟩
      cases c with
      | lst ds => obtain ⟨vs, h1, h2⟩ := ok; exact ⟨vs, eH _ _ h1, h2.mono eF⟩
      | dct ds => obtain ⟨vs, h1, h2⟩ := ok; exact ⟨vs, eH _ _ h1, h2.mono eF⟩
      | ins C fs => obtain ⟨dx, fv, h1, h2, h3, h4, h5, h6⟩ := ok; exact ⟨dx, fv, eH _ _ h1, eH _ _ h2, (sF dx _ h2).trans h3, h4, h5, h6.mono eF⟩
  · obtain ⟨_, o2, e2⟩ := R1.b1 b o e
    exact (sF b o2 e2).trans (R1.b3 b o e n)
theorem make_exit {C : String} {x dx : Addr} {p : Option Nat} {fs' : List (Str × D)} {rest : List Sx} {F3 H3 : Hp} (R1 : Rep K B F1 H1 σ γ1) (hx : H1 x = none) (hdx : H1 dx = none) (ne : dx ≠ x) {Z : ZN (upd (upd H1 dx (.own x)) x (.ins (ctOf K C) dx []))} (hZ : Z.1 = B.z)
    (R3 : Rep K (entry F1 (upd (upd H1 dx (.own x)) x (.ins (ctOf K C) dx [])) [x, dx] Z (.ref x :: vs)) F3 H3 ((V.ref x :: vs).map some) (.own p (.ins C fs') :: rest)) :
    Rep K B F3 H3 σ γ1 ∧ Ex F1 F3 ∧ RsOk K B F3 H3 σ γ1 (.ref x) (.new (.ins C fs')) := by
  have h2 : ∀ b o, H1 b = some o → (upd (upd H1 dx (.own x)) x (.ins (ctOf K C) dx [])) b = some o ∧ b ∉ [x, dx] := fun b o e => by
    have n1 : b ≠ x := fun z => by subst z; rw [hx] at e; cases e
    have n2 : b ≠ dx := fun z => by subst z; rw [hdx] at e; cases e
    exact ⟨by rw [upd_ne n1, upd_ne n2]; exact e, by simp [n1, n2]⟩
  have eH : Ex H1 H3 := fun b o e => (R3.b1 b o (h2 b o e).1).1 (h2 b o e).2
  have sF : ∀ b o, H1 b = some o → F3 b = F1 b := fun b o e => R3.b3 b o (h2 b o e).1 (h2 b o e).2
  have R4 := R1.later R3.fh eH R3.b2 sF
  refine ⟨R4, R3.b2, x, rfl, ?_⟩
  obtain ⟨a, ea, fa, dx', fv, q1, q2, q3, q4, q5, q6⟩ := R3.sl 0 _ _ rfl rfl
  cases ea
  obtain ⟨o', g1, fs2, g2⟩ := R3.bd x _ (show (entry F1 (upd (upd H1 dx (.own x)) x (.ins (ctOf K C) dx [])) [x, dx] Z (.ref x :: vs)).H x = some (.ins (ctOf K C) dx []) from upd_same)
  subst g2
  rw [g1] at q1
  cases q1
  obtain ⟨f1, f2, f3, f4⟩ := R1.fresh hx
  obtain ⟨d1, d2, d3, d4⟩ := R1.fresh hdx
  refine ⟨fa, ⟨dx, fv, g1, q2, q3, fun _ => d3, .inr d2, ?_⟩, f3, .inr f2, f4⟩
  have e : (entry F1 (upd (upd H1 dx (.own x)) x (.ins (ctOf K C) dx [])) [x, dx] Z (.ref x :: vs)).kz K = B.kz K := by
    show (⟨K, Z.1⟩ : KZ) = ⟨K, B.z⟩
    rw [hZ]
  rw [e] at q6
  exact q6
theorem se_make {C : String} {n : Nat} {fs : FS} {dvs : List V} {dds : List D} {E : XK} {ta : TA} {da : DA} (h : SA K B ta da) (od : Paired (fun v d => ∀ z F, Rp ⟨K, z⟩ F v d) dvs dds) : SE K B (tMake (ctOf K C) (spOf K n fs) dvs E ta) (dMake C n fs dds da) := fun F H σ γ Q q R hq k => by
  refine h F H σ γ _ _ R hq fun vs F1 H1 γ1 rs R1 e1 o1 ⟨h0, h2, h3⟩ x dx hx hdx ne => ?_
  have all : RpAll (B.kz K) F1 (vs ++ dvs) (rs.map RS.data ++ dds) := RpAll.of (P_app (allV_rp o1 h0).p (P_mono (fun v d z => z _ _) od))
  let Z : ZN (upd (upd H1 dx (.own x)) x (.ins (ctOf K C) dx [])) := ⟨B.z, fun a ha => by
    obtain ⟨o, e⟩ := R1.znp a ha
    have n1 : a ≠ x := fun z => by subst z; rw [hx] at e; cases e
    have n2 : a ≠ dx := fun z => by subst z; rw [hdx] at e; cases e
    exact ⟨o, by rw [upd_ne n1, upd_ne n2]; exact e⟩⟩
  have RE := make_entry (C := C) R1.fh all hx hdx ne Z rfl
  rw [List.map_append] at RE
  refine ⟨by simp only [List.length_cons, List.length_append]; rw [P_len o1, P_len od]; omega, F1, _, Z, _, _, RE, h3, fun r as' v F3 H3 ⟨hr, hp⟩ R3 ok hk => ?_⟩
  subst hr
  split at hp
  · rename_i p C' fs' rest
    obtain ⟨rfl, hp⟩ := hp
    obtain ⟨R4, e4, o4⟩ := make_exit R1 hx hdx ne rfl R3
    have ok' : Rp _ F3 v .non := ok
    cases ok'
    exact ⟨rfl, k _ F3 H3 γ1 _ R4 (e1.trans e4) o4 hp⟩
  · exact hp.elim
end
section
variable {X : Cx} {B : Bs} {a : Expr} {es : List Expr} {ta : TA} {da : DA} {k n : Nat} {C : String} {f : Addr} {fd : FuncData} {ps : List Str} {fs : FS} {x : Str} {p pos : Pos}
theorem x_make (K : PySem.W.Frag) (hK : X.K = K) (M : Mk X.K (ctOf X.K C) f) (G : FnOk X.prog X.w X.K X.mg X.base CX0 k f fd ps (spOf X.K n fs)) (hr : Room (k + 1) X.A) (hm : X.mg x = some (.ref (ctOf X.K C))) (hb : Binds X.K fd ps []) (h : XA X B (a :: es) ta da)
    (hg : Gl X x := by rfl) (hdb : (x == ("__debug__" : Str)) = false := by decide) (he : starEach (a :: es) X.env = (false, eval a X.env) :: starEach es X.env := by rfl) (hpl : (backTo pos (starEach es X.env)).any (·.1) = false := by rfl) :
    XE X B (.Call (.Name x p) (a :: es) [] pos) (tMake (ctOf K C) (spOf K n fs) [] E0 ta) (dMake C n fs [] da) := by
  subst hK
  exact ⟨pe_make M G hr hg hm hb .nil pass0 h.pa hdb he hpl, se_make h.sa .nil⟩
theorem x_makeD {dvs : List V} {dds : List D} {ds : List Value} (K : PySem.W.Frag) (hK : X.K = K) (M : Mk X.K (ctOf X.K C) f) (G : FnOk X.prog X.w X.K X.mg X.base CX0 k f fd ps (spOf X.K n fs)) (hr : Room (k + 1) X.A) (hm : X.mg x = some (.ref (ctOf X.K C))) (hb : Binds X.K fd ps ds) (hd : Vals dvs ds) (od : Paired (fun v d => ∀ z F, Rp ⟨X.K, z⟩ F v d) dvs dds) (h : XA X B (a :: es) ta da)
    (hg : Gl X x := by rfl) (hdb : (x == ("__debug__" : Str)) = false := by decide) (he : starEach (a :: es) X.env = (false, eval a X.env) :: starEach es X.env := by rfl) (hpl : (backTo pos (starEach es X.env)).any (·.1) = false := by rfl) :
    XE X B (.Call (.Name x p) (a :: es) [] pos) (tMake (ctOf K C) (spOf K n fs) dvs E0 ta) (dMake C n fs dds da) := by
  subst hK
  exact ⟨pe_make M G hr hg hm hb hd pass0 h.pa hdb he hpl, se_make h.sa od⟩
theorem x_make0 {dvs : List V} {dds : List D} {ds : List Value} (K : PySem.W.Frag) (hK : X.K = K) (M : Mk X.K (ctOf X.K C) f) (G : FnOk X.prog X.w X.K X.mg X.base CX0 k f fd ps (spOf X.K n fs)) (hr : Room (k + 1) X.A) (hm : X.mg x = some (.ref (ctOf X.K C))) (hb : Binds X.K fd ps ds) (hd : Vals dvs ds) (od : Paired (fun v d => ∀ z F, Rp ⟨X.K, z⟩ F v d) dvs dds)
    (hg : Gl X x := by rfl) (hdb : (x == ("__debug__" : Str)) = false := by decide) :
    XE X B (.Call (.Name x p) [] [] pos) (tMake (ctOf K C) (spOf K n fs) dvs E0 tNil) (dMake C n fs dds dNil) := by
  subst hK
  exact ⟨pe_make0 M G hr hg hm hb hd pass0 hdb, se_make sa_nil od⟩
end
/-- a new thing that will not change -/
def dFz (de : DE) (γ : Env) (q : RS → Env → Prop) : Prop := de γ fun s γ1 => match s with
  | .new c => q (.val c.data) γ1
  | s => q s γ1
theorem x_fz {X : Cx} {B : Bs} {e : Expr} {te : TE} {de : DE} (h : XE X B e te de) : XE X B e te (dFz de) := ⟨h.pe, fun F H σ γ Q q R hq k => by
  refine h.se F H σ γ _ _ R hq fun v F1 H1 γ1 s R1 e1 o1 h1 => ?_
  obtain ⟨F2, R2, e2, o2⟩ := o1.fz R1
  cases s with
  | val d => exact k v F1 H1 γ1 _ R1 e1 o1 h1
  | own j c => exact k v F1 H1 γ1 _ R1 e1 o1 h1
  | new c => exact k v F2 H1 γ1 (.val c.data) R2 (e1.trans e2) o2 h1⟩
/-! ### methods -/
/-- what a method of the class is -/
inductive Disp (P : Program) (w : World) (K : PySem.W.Frag) (mg : Str → Option Value) (base : Heap) (CX : CXT) (km : Nat) (m : Str) (C : Addr) (sp : Sp) : Prop
  | mk {k : Nat} {f : Addr} {fd : FuncData} {ps : List Str} : Cls K C → Meth K C m f → FnOk P w K mg base CX k f fd ps sp → k ≤ km → Binds K fd ps [] → Disp P w K mg base CX km m C sp
def tMethP (P : Program) (w : World) (K : PySem.W.Frag) (mg : Str → Option Value) (base : Heap) (CX : CXT) (km : Nat) (m : Str) (E : L2.St → XK) (ta : TE) (t : TA) : TE := fun σ H Q => ta σ H fun x H1 => ∃ a C dx fs sp, x = .ref a ∧ H1 a = some (.ins C dx fs) ∧ fs.lookup m = none ∧ Disp P w K mg base CX km m C sp ∧
  t σ H1 fun vs H2 => sp (x :: vs) H2 Q (E σ)
section
variable {X : Cx} {CX : CXT} {km : Nat} {m : Str} {o e : Expr} {es : List Expr} {apos pos : Pos} {ta : TE} {t : TA} {E : L2.St → XK}
theorem run_fnS {k : Nat} {f : Addr} {fd : FuncData} {ps : List Str} {sp : Sp} {pins : List (Addr × Obj)} {σ : L2.St} {H : Hp} {s : Shared} {Q : VK} {us : List Value} {vs : List V} (F : FnOk X.prog X.w X.K X.mg X.base CX k f fd ps sp) (hr : Room k X.A) (hb : Binds X.K fd ps []) (hx : ∀ σ, PassesAt CX X σ (E σ))
    (I : Inv X pins σ H s) (r : Vals vs us) (h : sp vs H Q (E σ)) : wpAny (model X.prog X.w) X.A (call (.ref f) us) (EP X pins σ Q) X.xe s := by
  have hl : (us ++ []).length = ps.length := by rw [List.append_nil, ← r.length]; exact F.len _ _ _ _ h
  have hb' := hb s us I.kIn hl
  rw [List.append_nil] at hb'
  refine wpAny_call (codeAny_mono (F.run X.A X.stack s H ⟨us, []⟩ us vs Q (E σ) hr I.env0 hb' r h) fun r s' hq => ?_)
  cases r with
  | error e => exact hx σ pins H s e s' I hq
  | ok fl =>
    cases fl with
    | ret u => exact I.after hq
    | next => exact False.elim hq
    | brk => exact False.elim hq
    | cont => exact False.elim hq
theorem pe_methP {pl : Sem Bool} (he : PE X o ta) (hr : Room km X.A) (hx : ∀ σ, PassesAt CX X σ (E σ)) (ha : PA X (e :: es) t)
    (hst : starEach (e :: es) X.env = (false, eval e X.env) :: starEach es X.env := by rfl) (hpl : (backTo pos (starEach es X.env)).any (·.1) = false := by rfl)
    (ht : eval (.Call (.Attribute o m apos) (e :: es) [] pos) X.env = (do
      let ov ← eval o X.env
      standAt apos.atName
      let (f, first) ← holding [ov] (getMethod ov m pl)
      callWith pos f first (backTo pos (starEach (e :: es) X.env)) (backToKw pos (keywordEach [] X.env))) := by rfl) :
    PE X (.Call (.Attribute o m apos) (e :: es) [] pos) (tMethP X.prog X.w X.K X.mg X.base CX km m E ta t) := by
  refine ⟨fun pins s σ H Q I h => ?_⟩
  refine PySem.W.methodCall_KW (pl := pl) (thn (he.run pins s σ H _ I h) fun u s1 ⟨x, H1, I1, rx, a, C, dx, fs, sp, ex, ea, l, dp, q⟩ => ?_) ht
  subst ex
  obtain rfl : u = Value.ref a := rx
  obtain ⟨c, hm, F, hk, hb⟩ := dp
  refine getmeth_ok I1 ea c hm l ?_
  refine PySem.W.callWith_K (first := [.ref a]) (h₀ := X.base) I.ok.mod.kin hm.kp (thn (ha.run pos pins s1 σ H1 _ I1 q) fun us s2 ⟨vs, H2, I2, r, q2⟩ => ⟨I2.kIn, ?_⟩) hst hpl
  exact run_fnS (us := .ref a :: us) (vs := .ref a :: vs) F (hr.mono hk) hb hx I2 (.cons rfl r) q2
theorem pe_methP0 {pl : Sem Bool} (he : PE X o ta) (hr : Room km X.A) (hx : ∀ σ, PassesAt CX X σ (E σ))
    (ht : eval (.Call (.Attribute o m apos) [] [] pos) X.env = (do
      let ov ← eval o X.env
      standAt apos.atName
      let (f, first) ← holding [ov] (getMethod ov m pl)
      callWith pos f first (backTo pos (starEach [] X.env)) (backToKw pos (keywordEach [] X.env))) := by rfl) :
    PE X (.Call (.Attribute o m apos) [] [] pos) (tMethP X.prog X.w X.K X.mg X.base CX km m E ta tNil) := by
  refine ⟨fun pins s σ H Q I h => ?_⟩
  refine PySem.W.methodCall_KW (pl := pl) (thn (he.run pins s σ H _ I h) fun u s1 ⟨x, H1, I1, rx, a, C, dx, fs, sp, ex, ea, l, dp, q⟩ => ?_) ht
  subst ex
  obtain rfl : u = Value.ref a := rx
  obtain ⟨c, hm, F, hk, hb⟩ := dp
  refine getmeth_ok I1 ea c hm l ?_
  exact PySem.W.callWith_K0 (first := [.ref a]) I1.kIn hm.kp (run_fnS (us := [.ref a]) (vs := [.ref a]) F (hr.mono hk) hb hx I1 (.cons rfl .nil) q)
end
/-- classes, and what the method does there -/
abbrev MT := String → Option FS
abbrev MTX := String → Option FSX
def dMeth (m : Str) (n : Nat) (tb : MT) (de : DE) (da : DA) (γ : Env) (q : RS → Env → Prop) : Prop := de γ fun s γ1 => match s.data with
  | .obj C fl => fl.lookup m = none ∧ ∃ fs, tb C = some fs ∧ da γ1 fun rs γ2 => s.now γ2 fun s => (ownIx (s :: rs)).Nodup ∧ rs.length + 1 = n ∧ fs (argsOf 0 (s :: rs)) fun r as' => q r (upds γ2 (s :: rs) as')
  | _ => False
def dMethX (xc : DX) (m : Str) (n : Nat) (tb : MTX) (de : DE) (da : DA) (γ : Env) (q : RS → Env → Prop) : Prop := de γ fun s γ1 => match s.data with
  | .obj C fl => fl.lookup m = none ∧ ∃ fs, tb C = some fs ∧ da γ1 fun rs γ2 => s.now γ2 fun s => (ownIx (s :: rs)).Nodup ∧ rs.length + 1 = n ∧ fs (argsOf 0 (s :: rs)) (fun r as' => q r (upds γ2 (s :: rs) as')) fun nm xs as' => xc nm xs (upds γ2 (s :: rs) as')
  | _ => False
section
variable {P : Program} {w : World} {K : PySem.W.Frag} {mg : Str → Option Value} {base : Heap} {km : Nat} {B : Bs} {m : Str} {n : Nat} {te : TE} {de : DE} {ta : TA} {da : DA}
theorem se_meth {tb : MT} (hd : ∀ C fs, tb C = some fs → Disp P w K mg base CX0 km m (ctOf K C) (spOf K n fs)) (he : SE K B te de) (ha : SA K B ta da) : SE K B (tMethP P w K mg base CX0 km m (fun _ => E0) te ta) (dMeth m n tb de da) := fun F H σ γ Q q R hq k => by
  refine he F H σ γ _ _ R hq fun x F1 H1 γ1 s R1 e1 o1 h1 => ?_
  split at h1
  · rename_i C fl es
    obtain ⟨hl, fs, ht, h1⟩ := h1
    have r := o1.rs R1
    rw [es] at r
    obtain ⟨a, dx, fv, rfl, q2, q3⟩ := r.obj R1.fh
    obtain ⟨F2, R2, e2, o2⟩ := o1.fz R1
    refine ⟨a, _, dx, fv, _, rfl, q2, fs_none q3 hl, hd C fs ht, ?_⟩
    refine ha F2 H1 σ γ1 _ _ R2 h1 fun vs F3 H3 γ3 rs R3 e3 o3 h3 => ?_
    obtain ⟨s', o4, h4, h5, h6⟩ := o2.now e3 R3 h3
    have oo : Paired (RsOk K B F3 H3 σ γ3) (.ref a :: vs) (s' :: rs) := .cons o4 o3
    obtain ⟨m', hm, RE⟩ := R3.args (dvs := []) (dds := []) oo .nil h4
    simp only [List.append_nil, List.map_nil] at RE
    refine ⟨by simp only [List.length_cons]; rw [P_len o3]; omega, F3, m', _, _, _, RE, h6, fun r as' v F4 H4 hp R4 ok hk => ?_⟩
    obtain ⟨R5, e5, ok5⟩ := R3.called oo h4 (fun i v hv => hv) hm R4
    exact k v F4 H4 _ r R5 (((e1.trans e2).trans e3).trans e5) (ok5 v r hk ok) hp
  · exact h1.elim
theorem se_methX {ct : Nat → Addr} {W : WX} {xc : DX} {tb : MTX} (hd : ∀ C fs, tb C = some fs → Disp P w K mg base (L2N.CX P w) km m (ctOf K C) (spOfX K ct n fs)) (xo : XOk K ct B W xc) (he : SE K B te de) (ha : SA K B ta da) : SE K B (tMethP P w K mg base (L2N.CX P w) km m (WE W) te ta) (dMethX xc m n tb de da) := fun F H σ γ Q q R hq k => by
  refine he F H σ γ _ _ R hq fun x F1 H1 γ1 s R1 e1 o1 h1 => ?_
  split at h1
  · rename_i C fl es
    obtain ⟨hl, fs, ht, h1⟩ := h1
    have r := o1.rs R1
    rw [es] at r
    obtain ⟨a, dx, fv, rfl, q2, q3⟩ := r.obj R1.fh
    obtain ⟨F2, R2, e2, o2⟩ := o1.fz R1
    refine ⟨a, _, dx, fv, _, rfl, q2, fs_none q3 hl, hd C fs ht, ?_⟩
    refine ha F2 H1 σ γ1 _ _ R2 h1 fun vs F3 H3 γ3 rs R3 e3 o3 h3 => ?_
    obtain ⟨s', o4, h4, h5, h6⟩ := o2.now e3 R3 h3
    have oo : Paired (RsOk K B F3 H3 σ γ3) (.ref a :: vs) (s' :: rs) := .cons o4 o3
    have cc := call_core (W := WE W σ) (ct := ct) (n := n) (fs := fs) (dvs := []) (dds := []) (q := q) .nil R3 oo (fun F' H' γ' nm dd fs R' xd hx => xo F' H' σ γ' nm dd fs R' xd hx) h4 (by simp; omega) (by simpa using h6) fun v F' H' γ' s' R' e' o' hq => k v F' H' γ' s' R' (((e1.trans e2).trans e3).trans e') o' hq
    rw [List.append_nil] at cc
    exact cc
  · exact h1.elim
end
section
variable {X : Cx} {km : Nat} {B : Bs} {o a : Expr} {es : List Expr} {apos pos : Pos} {te : TE} {de : DE} {ta : TA} {da : DA} {n : Nat}
theorem x_meth (P : Program) (w : World) (K : PySem.W.Frag) (mg : Str → Option Value) (base : Heap) (hX : (X.prog, X.w, X.K, X.mg, X.base) = (P, w, K, mg, base)) (hr : Room km X.A) (m : Str) {tb : MT} {pl : Sem Bool} (hd : ∀ C fs, tb C = some fs → Disp P w K mg base CX0 km m (ctOf K C) (spOf K n fs)) (ho : XE X B o te de) (h : XA X B (a :: es) ta da)
    (hst : starEach (a :: es) X.env = (false, eval a X.env) :: starEach es X.env := by rfl) (hpl : (backTo pos (starEach es X.env)).any (·.1) = false := by rfl)
    (ht : eval (.Call (.Attribute o m apos) (a :: es) [] pos) X.env = (do
      let ov ← eval o X.env
      standAt apos.atName
      let (f, first) ← holding [ov] (getMethod ov m pl)
      callWith pos f first (backTo pos (starEach (a :: es) X.env)) (backToKw pos (keywordEach [] X.env))) := by rfl) :
    XE X B (.Call (.Attribute o m apos) (a :: es) [] pos) (tMethP P w K mg base CX0 km m (fun _ => E0) te ta) (dMeth m n tb de da) := by
  cases hX
  exact ⟨pe_methP ho.pe hr (fun _ _ _ _ _ _ h => pass0 _ _ _ _ _ _ h) h.pa hst hpl ht, se_meth hd ho.se h.sa⟩
theorem x_meth0 (P : Program) (w : World) (K : PySem.W.Frag) (mg : Str → Option Value) (base : Heap) (hX : (X.prog, X.w, X.K, X.mg, X.base) = (P, w, K, mg, base)) (hr : Room km X.A) (m : Str) {tb : MT} {pl : Sem Bool} (hd : ∀ C fs, tb C = some fs → Disp P w K mg base CX0 km m (ctOf K C) (spOf K n fs)) (ho : XE X B o te de)
    (ht : eval (.Call (.Attribute o m apos) [] [] pos) X.env = (do
      let ov ← eval o X.env
      standAt apos.atName
      let (f, first) ← holding [ov] (getMethod ov m pl)
      callWith pos f first (backTo pos (starEach [] X.env)) (backToKw pos (keywordEach [] X.env))) := by rfl) :
    XE X B (.Call (.Attribute o m apos) [] [] pos) (tMethP P w K mg base CX0 km m (fun _ => E0) te tNil) (dMeth m n tb de dNil) := by
  cases hX
  exact ⟨pe_methP0 ho.pe hr (fun _ _ _ _ _ _ h => pass0 _ _ _ _ _ _ h) ht, se_meth hd ho.se sa_nil⟩
theorem x_methX (P : Program) (w : World) (K : PySem.W.Frag) (mg : Str → Option Value) (base : Heap) (hX : (X.prog, X.w, X.K, X.mg, X.base) = (P, w, K, mg, base)) (hr : Room km X.A) (m : Str) {ct : Nat → Addr} {W : WX} {xc : DX} {tb : MTX} {pl : Sem Bool} (xo : XOk K ct B W xc) (tk : L2N.Takes X W) (hd : ∀ C fs, tb C = some fs → Disp P w K mg base (L2N.CX P w) km m (ctOf K C) (spOfX K ct n fs)) (ho : XE X B o te de) (h : XA X B (a :: es) ta da)
    (hst : starEach (a :: es) X.env = (false, eval a X.env) :: starEach es X.env := by rfl) (hpl : (backTo pos (starEach es X.env)).any (·.1) = false := by rfl)
    (ht : eval (.Call (.Attribute o m apos) (a :: es) [] pos) X.env = (do
      let ov ← eval o X.env
      standAt apos.atName
      let (f, first) ← holding [ov] (getMethod ov m pl)
      callWith pos f first (backTo pos (starEach (a :: es) X.env)) (backToKw pos (keywordEach [] X.env))) := by rfl) :
    XE X B (.Call (.Attribute o m apos) (a :: es) [] pos) (tMethP P w K mg base (L2N.CX P w) km m (WE W) te ta) (dMethX xc m n tb de da) := by
  cases hX
  exact ⟨pe_methP ho.pe hr (fun σ => L2N.passAt tk σ) h.pa hst hpl ht, se_methX hd xo ho.se h.sa⟩
theorem x_methX0 (P : Program) (w : World) (K : PySem.W.Frag) (mg : Str → Option Value) (base : Heap) (hX : (X.prog, X.w, X.K, X.mg, X.base) = (P, w, K, mg, base)) (hr : Room km X.A) (m : Str) {ct : Nat → Addr} {W : WX} {xc : DX} {tb : MTX} {pl : Sem Bool} (xo : XOk K ct B W xc) (tk : L2N.Takes X W) (hd : ∀ C fs, tb C = some fs → Disp P w K mg base (L2N.CX P w) km m (ctOf K C) (spOfX K ct n fs)) (ho : XE X B o te de)
    (ht : eval (.Call (.Attribute o m apos) [] [] pos) X.env = (do
      let ov ← eval o X.env
      standAt apos.atName
      let (f, first) ← holding [ov] (getMethod ov m pl)
      callWith pos f first (backTo pos (starEach [] X.env)) (backToKw pos (keywordEach [] X.env))) := by rfl) :
    XE X B (.Call (.Attribute o m apos) [] [] pos) (tMethP P w K mg base (L2N.CX P w) km m (WE W) te tNil) (dMethX xc m n tb de dNil) := by
  cases hX
  exact ⟨pe_methP0 ho.pe hr (fun σ => L2N.passAt tk σ) ht, se_methX hd xo ho.se sa_nil⟩
end
end DL

set_option Elab.async false
set_option linter.all false
set_option maxRecDepth 100000
set_option maxHeartbeats 2000000
namespace DL
open PySem PySem.Spec PyProof.Rows L2
open Evl (Ex ex_l ex_t)
/-! ### *e in a display -/
def seqD : D → (List D → Prop) → Prop
  | .lst ds, q => q ds
  | .tup ds, q => q ds
  | .scr ns, q => q (ns.map D.int)
  | _, _ => False
theorem seqD_of {d : D} {q : List D → Prop} (h : seqD d q) : ∃ ds, (d = .lst ds ∨ d = .tup ds ∨ (∃ ns, d = .scr ns ∧ ds = ns.map D.int)) ∧ q ds := by
  unfold seqD at h
  split at h
  · exact ⟨_, .inl rfl, h⟩
  · exact ⟨_, .inr (.inl rfl), h⟩
  · exact ⟨_, .inr (.inr ⟨_, rfl, rfl⟩), h⟩
  · exact h.elim
theorem vals_ok {K : PySem.W.Frag} {B : Bs} {F H : Hp} {σ : L2.St} {γ : Env} : ∀ {vs : List V} {ds : List D}, RpAll (B.kz K) F vs ds → Paired (RsOk K B F H σ γ) vs (ds.map RS.val)
  | _, _, .nil => .nil
  | _, _, .cons h t => .cons h (vals_ok t)
def dStar (de : DE) (dr : DA) (γ : Env) (q : List RS → Env → Prop) : Prop := de γ fun s γ1 => seqD s.data fun ds => dr γ1 fun rs γ2 => q (ds.map RS.val ++ rs) γ2
theorem sa_star {K : PySem.W.Frag} {B : Bs} {te : TE} {de : DE} {tr : TA} {dr : DA} (se : SE K B te de) (sr : SA K B tr dr) : SA K B (StX.tStar K te tr) (dStar de dr) := fun F H σ γ Q q R hq k => by
  refine se F H σ γ _ _ R hq fun x F1 H1 γ1 s R1 e1 o1 h1 => ?_
  obtain ⟨ds, hd, h1⟩ := seqD_of h1
  obtain ⟨F2, R2, e2, o2⟩ := o1.fz R1
  have rx := o2.rs R2
  rw [RS.fz_data] at rx
  obtain ⟨a, vs, rfl, hs, ra⟩ := rx.seq R2.fh hd
  refine ⟨a, vs, rfl, hs.symm, sr F2 H1 σ γ1 _ _ R2 h1 fun ws F3 H3 γ3 rs R3 e3 o3 h3 => ?_⟩
  exact k _ F3 H3 γ3 _ R3 ((e1.trans e2).trans e3) (P_app (vals_ok (ra.mono e3)) o3) h3
theorem xa_star {X : Cx} {B : Bs} {e : Expr} {es : List Expr} {p : Pos} {te : TE} {de : DE} {tr : TA} {dr : DA} (K : PySem.W.Frag) (hK : X.K = K) (he : XE X B e te de) (hr : XA X B es tr dr) (hs : starEach (.Starred e p :: es) X.env = (true, eval e X.env) :: starEach es X.env := by rfl) : XA X B (.Starred e p :: es) (StX.tStar K te tr) (dStar de dr) := by
  subst hK
  exact ⟨StX.pa_star he.pe hr.pa, sa_star he.se hr.sa⟩
/-! ### slices of tuples, t + u -/
section
variable {K : PySem.W.Frag}
theorem cut_whole {α : Type} {xs : List α} {lo hi : Option Int} (h : HT.sIx xs.length 0 lo = 0 ∧ HT.sIx xs.length xs.length hi = xs.length) : cut xs lo hi = xs := by
  unfold cut
  rw [h.1, h.2]
  simp
/-- the same, or a new one -/
theorem sd_tup : SlD K (rSlA K) fSlT := fun B F H σ γ x d lo hi Q q R rx hf k => by
  unfold fSlT at hf
  split at hf
  · rename_i xs
    have rf := rx.tupF
    obtain ⟨a, vs, rfl, h1, r1⟩ := rx.tup R.fh
    refine ⟨a, vs, rfl, h1, fun hw => ?_, fun _ p hp => ?_⟩
    · rw [r1.length] at hw
      rw [cut_whole hw] at hf
      exact vk R k rf hf
    · obtain ⟨R', ex, rp⟩ := R.newT hp (RpAll.of (cut_p r1.p))
      exact k _ _ _ (.val _) R' ex rp hf
  · exact hf.elim
def fCatT : D → D → (RS → Prop) → Prop
  | .tup xs, .tup ys, q => xs.length + ys.length ≤ 1000000 ∧ q (.val (.tup (xs ++ ys)))
  | _, _, _ => False
theorem od_catT : OpD K (rCatA K) fCatT := fun B F H σ γ x y d e Q q R rx ry hf k => by
  unfold fCatT at hf
  split at hf
  · rename_i xs ys
    have rfx := rx.tupF
    have rfy := ry.tupF
    obtain ⟨a, vs, rfl, h1, r1⟩ := rx.tup R.fh
    obtain ⟨b, ws, rfl, h2, r2⟩ := ry.tup R.fh
    refine ⟨a, b, vs, ws, rfl, rfl, h1, h2, sz_le (by rw [r1.length, r2.length]; exact hf.1), fun e => ?_, fun _ e => ?_, fun _ _ p hp => ?_⟩
    · subst e
      cases r1
      exact vk R k rfy hf.2
    · subst e
      cases r2
      rw [List.append_nil] at hf
      exact vk R k rfx hf.2
    · obtain ⟨R', ex, rp⟩ := R.newT hp (RpAll.of (P_app r1.p r2.p))
      exact k _ _ _ (.val _) R' ex rp hf.2
  · exact hf.elim
end
/-! ### == told by the data's form -/
theorem deq_self {d : D} (h : dOk d = true) : deq d d = true := by
  unfold dOk SeqAt.shaped at h
  simp only [Bool.and_eq_true] at h
  exact PySem.SeqAt.eqv_refl _ h.2.1
theorem deq_int {i j : Int} : deq (.int i) (.int j) = decide (i = j) := by
  unfold deq
  simp only [D.py, PyData.eqv]
  exact Bool.beq_eq_decide_eq i j
theorem deq_str {i j : Str} : deq (.str i) (.str j) = decide (i = j) := by
  unfold deq
  simp only [D.py, PyData.eqv]
  by_cases z : i = j
  · subst z; simp
  · rw [decide_eq_false z]; exact beq_eq_false_iff_ne.mpr z
theorem deq_tcons {x y : D} {xs ys : List D} : deq (.tup (x :: xs)) (.tup (y :: ys)) = (deq x y && deq (.tup xs) (.tup ys)) := by
  unfold deq
  simp only [D.py, pyAll, PyData.eqv, PyData.eqvAll]
theorem deq_tnil : deq (.tup []) (.tup []) = true := rfl
theorem deq_lcons {x y : D} {xs ys : List D} : deq (.lst (x :: xs)) (.lst (y :: ys)) = (deq x y && deq (.lst xs) (.lst ys)) := by
  unfold deq
  simp only [D.py, pyAll, PyData.eqv, PyData.eqvAll]
theorem deq_lnil : deq (.lst []) (.lst []) = true := rfl
theorem deq_tints (ns ms : List Int) : deq (.tup (ns.map D.int)) (.tup (ms.map D.int)) = decide (ns = ms) := deq_tup eqF_int (fun _ _ => trivial) fun _ _ => trivial
theorem dOk_tints (ns : List Int) : dOk (.tup (ns.map D.int)) = true := dOk_of (ok_tup fun x _ => ok_int x) (by decide)
theorem okN_str {s : Str} (h : (PyData.str s).canLay0 = true) : dOkN 0 (.str s) = true := by
  unfold dOkN
  simp only [D.pure, D.py, PyData.depth, h, Bool.true_and, decide_eq_true_eq]
  omega
theorem okN_tup {n : Nat} {xs : List D} (h : ∀ x ∈ xs, dOkN n x = true) : dOkN (n + 1) (.tup xs) = true := by
  have := ok_tup (f := fun d : D => d) (xs := xs) h
  rwa [List.map_id'] at this
theorem okN_lst {n : Nat} {xs : List D} (h : ∀ x ∈ xs, dOkN n x = true) : dOkN (n + 1) (.lst xs) = true := by
  have := ok_lst (f := fun d : D => d) (xs := xs) h
  rwa [List.map_id'] at this
/-! ### written texts told apart -/
theorem ofS_inj {a b : String} : (Str.ofString a = Str.ofString b) = (a = b) := by
  refine propext ⟨fun h => ?_, fun h => by rw [h]⟩
  rw [Str.ofString_eq_toList, Str.ofString_eq_toList] at h
  have h2 : a.toList.map Char.toNat = b.toList.map Char.toNat := by
    injection h with h
    simpa using congrArg Array.toList h
  have inj : ∀ {x y : List Char}, x.map Char.toNat = y.map Char.toNat → x = y := fun {x} => by
    induction x with
    | nil => intro y h; cases y with
      | nil => rfl
      | cons c y => simp at h
    | cons d x ih => intro y h; cases y with
      | nil => simp at h
      | cons c y =>
        simp only [List.map_cons, List.cons.injEq] at h
        have e : d = c := Char.toNat_inj.mp h.1
        rw [e, ih h.2]
  exact String.toList_inj.mp (inj h2)
theorem ofS_beq {a b : String} : (Str.ofString a == Str.ofString b) = (a == b) := by
  by_cases h : a = b
  · subst h; simp
  · rw [beq_eq_false_iff_ne.mpr h]
    exact beq_eq_false_iff_ne.mpr fun z => h (by rwa [ofS_inj] at z)
theorem allV_app {ds : List D} {rs : List RS} : allV (ds.map RS.val ++ rs) = allV rs := by
  induction ds with
  | nil => rfl
  | cons d ds ih => exact ih
theorem allV_vals {ds : List D} : allV (ds.map RS.val) = True := by
  induction ds with
  | nil => rfl
  | cons d ds ih => exact ih
theorem data_app {ds : List D} {rs : List RS} : (ds.map RS.val ++ rs).map RS.data = ds ++ rs.map RS.data := by
  induction ds with
  | nil => rfl
  | cons d ds ih => simp only [List.map_cons, List.cons_append, ih]; rfl
theorem data_vals {ds : List D} : (ds.map RS.val).map RS.data = ds := by
  induction ds with
  | nil => rfl
  | cons d ds ih => simp only [List.map_cons, ih]; rfl
end DL

set_option Elab.async false
set_option linter.all false
set_option maxRecDepth 100000
set_option maxHeartbeats 2000000
namespace DL
open PySem PySem.Spec PyProof.Rows L2
open Evl (Ex ex_l ex_t)
/-! ### lists that are lent; what comes back holds no list -/
mutual
def D.nol : D → Bool
  | .lst _ => false | .scr _ => false | .fr _ => false
  | .tup xs => nolAll xs | .obj _ fs => nolF fs | .dct kd => nolK kd | .ldc kd => nolK kd
  | _ => true
def nolAll : List D → Bool
  | [] => true
  | x :: xs => x.nol && nolAll xs
def nolF : List (Str × D) → Bool
  | [] => true
  | (_, x) :: xs => x.nol && nolF xs
def nolK : List (Key × D) → Bool
  | [] => true
  | (_, x) :: xs => x.nol && nolK xs
end
theorem nolK_map {α : Type} {f : α → Key × D} (h : ∀ x, (f x).2.nol = true) : ∀ xs : List α, nolK (xs.map f) = true
  | [] => rfl
  | x :: xs => by rw [List.map_cons, show nolK (f x :: xs.map f) = ((f x).2.nol && nolK (xs.map f)) from rfl, h x, nolK_map h xs]; rfl
theorem nolAll_map {α : Type} {f : α → D} (h : ∀ x, (f x).nol = true) : ∀ xs : List α, nolAll (xs.map f) = true
  | [] => rfl
  | x :: xs => by rw [List.map_cons, nolAll, h x, nolAll_map h xs]; rfl
theorem nol_ints (ns : List Int) : nolAll (ns.map D.int) = true := nolAll_map (fun _ => rfl) ns
theorem nol_strs (ns : List Str) : nolAll (ns.map D.str) = true := nolAll_map (fun _ => rfl) ns
section
variable {K : PySem.W.Frag} {z : Addr → Prop} {F F' : Hp}
mutual
theorem Rp.off (ht : ∀ a xs, F a = some (.tup xs) → F' a = some (.tup xs)) (hk : ∀ a kv, Rd F a (.dK kv) → Rd F' a (.dK kv)) (hi : ∀ a C dx fs, F a = some (.ins C dx fs) → F dx = some (.own a) → F' a = some (.ins C dx fs) ∧ F' dx = some (.own a)) (hs : ∀ a vs, SqT K F a vs → SqT K F' a vs) (hz : ∀ a o u, F a = some (.frz o u) → F' a = some (.frz o u)) : ∀ {v : V} {d : D}, Rp ⟨K, z⟩ F v d → d.nol = true → Rp ⟨K, z⟩ F' v d
  | _, _, .non, _ => .non
  | _, _, .bl b, _ => .bl b
  | _, _, .int b, _ => .int b
  | _, _, .str b, _ => .str b
  | _, _, .ref b, _ => .ref b
  | _, _, .ty b, _ => .ty b
  | _, _, .kls b, _ => .kls b
  | _, _, .lst h a, n => absurd n (by simp [D.nol])
  | _, _, .scr h, n => absurd n (by simp [D.nol])
  | _, _, .dct h a, n => .dct (hk _ _ h) (RpKs.off ht hk hi hs hz a n)
  | _, _, .ldc h a, n => .ldc (hz _ _ _ h) (RpKs.off ht hk hi hs hz a n)
  | _, _, .fr h a, n => absurd n (by simp [D.nol])
  | _, _, .tup h a, n => .tup (hs _ _ h) (RpAll.off ht hk hi hs hz a n)
  | _, _, .obj h1 h2 a, n => .obj (hi _ _ _ _ h1 h2).1 (hi _ _ _ _ h1 h2).2 (RpFs.off ht hk hi hs hz a n)
theorem RpAll.off (ht : ∀ a xs, F a = some (.tup xs) → F' a = some (.tup xs)) (hk : ∀ a kv, Rd F a (.dK kv) → Rd F' a (.dK kv)) (hi : ∀ a C dx fs, F a = some (.ins C dx fs) → F dx = some (.own a) → F' a = some (.ins C dx fs) ∧ F' dx = some (.own a)) (hs : ∀ a vs, SqT K F a vs → SqT K F' a vs) (hz : ∀ a o u, F a = some (.frz o u) → F' a = some (.frz o u)) : ∀ {v : List V} {d : List D}, RpAll ⟨K, z⟩ F v d → nolAll d = true → RpAll ⟨K, z⟩ F' v d
  | _, _, .nil, _ => .nil
  | _, _, .cons h t, n => .cons (Rp.off ht hk hi hs hz h (Bool.and_eq_true_iff.mp n).1) (RpAll.off ht hk hi hs hz t (Bool.and_eq_true_iff.mp n).2)
theorem RpFs.off (ht : ∀ a xs, F a = some (.tup xs) → F' a = some (.tup xs)) (hk : ∀ a kv, Rd F a (.dK kv) → Rd F' a (.dK kv)) (hi : ∀ a C dx fs, F a = some (.ins C dx fs) → F dx = some (.own a) → F' a = some (.ins C dx fs) ∧ F' dx = some (.own a)) (hs : ∀ a vs, SqT K F a vs → SqT K F' a vs) (hz : ∀ a o u, F a = some (.frz o u) → F' a = some (.frz o u)) : ∀ {v : List (Str × V)} {d : List (Str × D)}, RpFs ⟨K, z⟩ F v d → nolF d = true → RpFs ⟨K, z⟩ F' v d
  | _, _, .nil, _ => .nil
  | _, _, .cons h t, n => .cons (Rp.off ht hk hi hs hz h (Bool.and_eq_true_iff.mp n).1) (RpFs.off ht hk hi hs hz t (Bool.and_eq_true_iff.mp n).2)
theorem RpKs.off (ht : ∀ a xs, F a = some (.tup xs) → F' a = some (.tup xs)) (hk : ∀ a kv, Rd F a (.dK kv) → Rd F' a (.dK kv)) (hi : ∀ a C dx fs, F a = some (.ins C dx fs) → F dx = some (.own a) → F' a = some (.ins C dx fs) ∧ F' dx = some (.own a)) (hs : ∀ a vs, SqT K F a vs → SqT K F' a vs) (hz : ∀ a o u, F a = some (.frz o u) → F' a = some (.frz o u)) : ∀ {v : List (Key × V)} {d : List (Key × D)}, RpKs ⟨K, z⟩ F v d → nolK d = true → RpKs ⟨K, z⟩ F' v d
  | _, _, .nil, _ => .nil
  | _, _, .cons h t, n => .cons (Rp.off ht hk hi hs hz h (Bool.and_eq_true_iff.mp n).1) (RpKs.off ht hk hi hs hz t (Bool.and_eq_true_iff.mp n).2)
end
end
/-- owned lists alone are lent -/
def lentL : List RS → Prop
  | [] => True
  | .val _ :: r => lentL r
  | .own _ (.lst _) :: r => lentL r
  | _ :: _ => False
section
variable {K : PySem.W.Frag} {B : Bs} {F H : Hp} {σ : L2.St} {γ : Env}
theorem Rep.freezeL (R : Rep K B F H σ γ) {i : Nat} {p : Option Nat} {ds : List D} (e : look γ i = .own p (.lst ds)) : ∃ a vs, σ[i]? = some (some (.ref a)) ∧ H a = some (.lst vs) ∧ Rep K B (upd F a (.lst vs)) H σ (put γ i (.val (.lst ds))) ∧ Ex F (upd F a (.lst vs)) ∧ Rp (B.kz K) (upd F a (.lst vs)) (.ref a) (.lst ds) := by
  obtain ⟨a, hs, hg, fa, ok⟩ := R.own e
  have R0 : Rep K B F H σ (put γ i .no) := R.told (fun _ _ => trivial) (fun _ _ z => by cases z)
  have na : ∀ (j : Nat) q c', (put γ i .no)[j]? = some (.own q c') → σ[j]? ≠ some (some (.ref a)) := fun j q c' h1 h2 => by
    rcases get_put h1 with ⟨_, z⟩ | ⟨n, z⟩
    · cases z
    · exact n (R.nd j i a q c' p _ z hg h2 hs)
  have b5 := R.b5 i a p _ hg hs
  obtain ⟨vs, h1, h2⟩ := ok
  obtain ⟨R', ex⟩ := R0.freeze h1 fa b5 fun i q c' hg => ⟨na i q c' hg, fun x _ z => by cases z⟩
  have rp : Rp (B.kz K) (upd F a (.lst vs)) (.ref a) (.lst ds) := .lst upd_same (h2.mono ex)
  have q := R'.told (i := i) (t := .val (.lst ds)) (fun s hs' => by rw [hs] at hs'; cases hs'; exact ⟨_, rfl, rp⟩) (fun _ _ z => by cases z)
  have pp : put (put γ i .no) i (.val (.lst ds)) = put γ i (.val (.lst ds)) := by rw [put_set, put_set, put_set, List.set_set]
  rw [pp] at q
  exact ⟨a, vs, hs, h1, q, ex, rp⟩
theorem Rep.lendL {B : Bs} {H : Hp} {σ : L2.St} : ∀ {vs : List V} {rs : List RS} {F : Hp} {γ : Env}, Rep K B F H σ γ → Paired (fun v r => (∃ d, r = .val d ∧ Rp (B.kz K) F v d) ∨ ∃ j ds, r = .own j (.lst ds) ∧ σ[j]? = some (some v) ∧ (∃ p, look γ j = .own p (.lst ds)) ∨ r = .own j (.lst ds) ∧ Rp (B.kz K) F v (.lst ds)) vs rs →
    ∃ F', Ex F F' ∧ Ex F' H ∧ RpAll (B.kz K) F' vs (rs.map RS.data) ∧ ∀ b, F' b = F b ∨ ∃ xs, H b = some (.lst xs)
  | _, _, F, γ, R, .nil => ⟨F, Evl.Ex.refl F, R.fh, .nil, fun _ => .inl rfl⟩
  | _, _, F, γ, R, @Paired.cons _ _ _ v r vs rs h t => by
    have step : ∃ F1 γ1, Rep K B F1 H σ γ1 ∧ Ex F F1 ∧ Rp (B.kz K) F1 v r.data ∧ (∀ b, F1 b = F b ∨ ∃ xs, H b = some (.lst xs)) ∧ ∀ j p ds, look γ j = .own p (.lst ds) → look γ1 j = .own p (.lst ds) ∨ ∃ a, σ[j]? = some (some (.ref a)) ∧ Rp (B.kz K) F1 (.ref a) (.lst ds) := by
      rcases h with ⟨d, rfl, h⟩ | ⟨j, ds, ⟨rfl, hs, p, hp⟩ | ⟨rfl, h⟩⟩
      · exact ⟨F, γ, R, Evl.Ex.refl F, h, fun _ => .inl rfl, fun j p c h => .inl h⟩
      · obtain ⟨a, ws, hs', ha, R1, e1, r1⟩ := R.freezeL hp
        rw [hs] at hs'
        cases hs'
        refine ⟨_, _, R1, e1, r1, fun b => ?_, fun i p' c' hl => ?_⟩
        · by_cases hb : b = a
          · subst hb; exact .inr ⟨ws, ha⟩
          · exact .inl (upd_ne hb)
        · by_cases e : i = j
          · subst e
            rw [hp] at hl
            cases hl
            exact .inr ⟨a, hs, r1⟩
          · refine .inl (look_of ?_)
            have := of_look hl (by intro z; cases z)
            rw [put_set, List.getElem?_set_ne (Ne.symm e)]
            exact this
      · exact ⟨F, γ, R, Evl.Ex.refl F, h, fun _ => .inl rfl, fun j p c h => .inl h⟩
    obtain ⟨F1, γ1, R1, e1, r1, d1, hk⟩ := step
    obtain ⟨F2, e2, e3, r2, d2⟩ := Rep.lendL (vs := vs) (rs := rs) R1 (P_mono (fun v r h => by
      rcases h with ⟨d, rfl, h⟩ | ⟨j, c, ⟨rfl, hs, p, hp⟩ | ⟨rfl, h⟩⟩
      · exact .inl ⟨d, rfl, h.mono e1⟩
      · rcases hk j p c hp with z | ⟨a, z1, z2⟩
        · exact .inr ⟨j, c, .inl ⟨rfl, hs, p, z⟩⟩
        · rw [hs] at z1
          cases z1
          exact .inr ⟨j, c, .inr ⟨rfl, z2⟩⟩
      · exact .inr ⟨j, c, .inr ⟨rfl, h.mono e1⟩⟩) t)
    refine ⟨F2, e1.trans e2, e3, .cons (r1.mono e2) r2, fun b => ?_⟩
    rcases d2 b with z | z
    · rw [z]; exact d1 b
    · exact .inr z
theorem lentP : ∀ {vs : List V} {rs : List RS}, Paired (RsOk K B F H σ γ) vs rs → lentL rs → Paired (fun v r => (∃ d, r = .val d ∧ Rp (B.kz K) F v d) ∨ ∃ j ds, r = .own j (.lst ds) ∧ σ[j]? = some (some v) ∧ (∃ p, look γ j = .own p (.lst ds)) ∨ r = .own j (.lst ds) ∧ Rp (B.kz K) F v (.lst ds)) vs rs
  | _, _, .nil, _ => .nil
  | _, .val d :: _, .cons h t, n => .cons (.inl ⟨d, rfl, h⟩) (lentP t n)
  | _, .own j (.lst ds) :: _, .cons ⟨hs, p, hg⟩ t, n => .cons (.inr ⟨j, ds, .inl ⟨rfl, hs, p, look_of hg⟩⟩) (lentP t n)
/-- what stood stays as it was, what is new may stay -/
def newF (H1 F1 F3 : Hp) : Hp := fun a => match H1 a with
  | none => F3 a
  | some _ => F1 a
theorem newF_old {H1 F1 F3 : Hp} {a : Addr} {o : HO} (h : H1 a = some o) : newF H1 F1 F3 a = F1 a := by unfold newF; rw [h]
theorem newF_new {H1 F1 F3 : Hp} {a : Addr} (h : H1 a = none) : newF H1 F1 F3 a = F3 a := by unfold newF; rw [h]
/-- behind a call to which lists were lent -/
theorem lend_back {F1 H1 F2 F3 H3 : Hp} (R1 : Rep K B F1 H1 σ γ) (fh : Ex F3 H3) (eH : Ex H1 H3) (s3 : ∀ b o, H1 b = some o → F3 b = F2 b) (s2 : ∀ b, F2 b = F1 b ∨ ∃ xs, H1 b = some (.lst xs)) :
    Rep K B (newF H1 F1 F3) H3 σ γ ∧ Ex F1 (newF H1 F1 F3) ∧ (∀ v d, Rp (B.kz K) F3 v d → d.nol = true → Rp (B.kz K) (newF H1 F1 F3) v d) ∧ (∀ v d, RpAll (B.kz K) F3 v d → nolAll d = true → RpAll (B.kz K) (newF H1 F1 F3) v d) ∧ ∀ v d, RpFs (B.kz K) F3 v d → nolF d = true → RpFs (B.kz K) (newF H1 F1 F3) v d := by
  have eF : Ex F1 (newF H1 F1 F3) := fun a o e => by rw [newF_old (R1.fh a o e)]; exact e
  have same : ∀ a o, F3 a = some o → (∀ xs, o ≠ .lst xs) → newF H1 F1 F3 a = some o := fun a o e n => by
    cases h : H1 a with
    | none => rw [newF_new h]; exact e
    | some o' =>
      rw [newF_old h]
      rcases s2 a with z | ⟨xs, z⟩
      · rw [← z, ← s3 a o' h]; exact e
      · have := fh a o e
        rw [eH a _ z] at this
        cases this
        exact absurd rfl (n xs)
  have ht : ∀ a xs, F3 a = some (.tup xs) → newF H1 F1 F3 a = some (.tup xs) := fun a xs e => same a _ e fun _ z => by cases z
  have hk : ∀ a kv, Rd F3 a (.dK kv) → Rd (newF H1 F1 F3) a (.dK kv) := fun a kv e => e.imp (fun z => same a _ z fun _ y => by cases y) fun ⟨o, z⟩ => ⟨o, same a _ z fun _ y => by cases y⟩
  have hi : ∀ a C dx fs, F3 a = some (.ins C dx fs) → F3 dx = some (.own a) → newF H1 F1 F3 a = some (.ins C dx fs) ∧ newF H1 F1 F3 dx = some (.own a) := fun a C dx fs e1 e2 => ⟨same a _ e1 (fun _ z => by cases z), same dx _ e2 (fun _ z => by cases z)⟩
  have hs : ∀ a vs, SqT K F3 a vs → SqT K (newF H1 F1 F3) a vs := fun a vs h => by
    rcases h with (h | ⟨o, h⟩) | h
    · exact .inl (.inl (same a _ h fun _ z => by cases z))
    · exact .inl (.inr ⟨o, same a _ h fun _ z => by cases z⟩)
    · exact .inr h
  have hz : ∀ a o u, F3 a = some (.frz o u) → newF H1 F1 F3 a = some (.frz o u) := fun a o u e => same a _ e fun _ z => by cases z
  refine ⟨R1.later (fun a o e => ?_) eH eF fun b o e => newF_old e, eF, fun v d r n => Rp.off ht hk hi hs hz r n, fun v d r n => RpAll.off ht hk hi hs hz r n, fun v d r n => RpFs.off ht hk hi hs hz r n⟩
  cases h : H1 a with
  | none => rw [newF_new h] at e; exact fh a o e
  | some o' => rw [newF_old h] at e; exact eH a o (R1.fh a o e)
end
/-- what comes back -/
def lendN : RS → (RS → Prop) → Prop
  | .val d, q => d.nol = true ∧ q (.val d)
  | .new (.lst ds), q => nolAll ds = true ∧ q (.new (.lst ds))
  | .new (.ins C fs), q => nolF fs = true ∧ q (.new (.ins C fs))
  | _, _ => False
def dCallN (n : Nat) (fs : FS) (da : DA) (γ : Env) (q : RS → Env → Prop) : Prop := da γ fun rs γ1 => lentL rs ∧ rs.length = n ∧ fs (rs.map fun r => Sx.val r.data) fun r _ => lendN r fun r => q r γ1
def dMakeL (C : String) (n : Nat) (fs : FS) (dds : List D) (da : DA) (γ : Env) (q : RS → Env → Prop) : Prop := da γ fun rs γ1 => lentL rs ∧ rs.length + dds.length + 1 = n ∧
  fs (.own (some 0) (.ins C []) :: ((rs.map fun r => Sx.val r.data) ++ dds.map Sx.val)) fun r as' => r = .val .non ∧ match as' with
    | .own _ (.ins C' fs') :: _ => C' = C ∧ nolF fs' = true ∧ q (.new (.ins C fs')) γ1
    | _ => False
section
variable {K : PySem.W.Frag} {B : Bs}
theorem se_callLN {n : Nat} {fs : FS} {E : XK} {ta : TA} {da : DA} (h : SA K B ta da) : SE K B (tCall (spOf K n fs) [] E ta) (dCallN n fs da) := fun F H σ γ Q q R hq k => by
  refine h F H σ γ _ _ R hq fun vs F1 H1 γ1 rs R1 e1 o1 ⟨h0, h2, h3⟩ => ?_
  obtain ⟨F2, e2, e3, all, s2⟩ := Rep.lendL R1 (lentP o1 h0)
  have RE : Rep K (entry F2 H1 [] R1.zn (vs ++ [])) F2 H1 ((vs ++ []).map some) (rs.map fun r => Sx.val r.data) := by
    have none : ∀ {i : Nat} {p : Option Nat} {c : OC}, (rs.map fun r => Sx.val r.data)[i]? ≠ some (.own p c) := fun {i p c} h => by
      rw [List.getElem?_map] at h
      cases q : rs[i]? with
      | none => rw [q] at h; cases h
      | some d => rw [q] at h; cases h
    rw [List.append_nil]
    refine ⟨e3, by rw [List.length_map, List.length_map, P_len o1], fun i s t hs hg => ?_, fun i j a p c q c' h1 => absurd h1 none, fun b o e => ⟨fun _ => e, o, e⟩, Evl.Ex.refl F2, fun b o _ _ => rfl, fun i a p c h1 => absurd h1 none, fun i a p c h1 => absurd h1 none, fun b o e => ⟨o, e⟩, fun a o e => ⟨o, e, .refl o⟩⟩
    rw [List.getElem?_map] at hs hg
    cases q : rs[i]? with
    | none => rw [q] at hg; cases hg
    | some d =>
      rw [q] at hg
      cases hg
      obtain ⟨v, hv, r⟩ := P_get all.p (show (rs.map RS.data)[i]? = some d.data by rw [List.getElem?_map, q]; rfl)
      rw [hv] at hs
      exact ⟨v, (Option.some.inj hs).symm, r⟩
  refine ⟨by rw [List.append_nil, P_len o1]; exact h2, F2, [], _, _, _, RE, h3, fun r as' v F3 H3 hp R3 ok hk => ?_⟩
  have eH : Ex H1 H3 := fun b o e => (R3.b1 b o e).1 (by simp [entry])
  have s3 : ∀ b o, H1 b = some o → F3 b = F2 b := fun b o e => R3.b3 b o e (by simp [entry])
  obtain ⟨R4, e4, c1, c2, c3⟩ := lend_back R1 R3.fh eH s3 s2
  unfold lendN at hp
  split at hp
  · exact k v _ H3 γ1 (.val _) R4 (e1.trans e4) (c1 _ _ ok hp.1) hp.2
  · rename_i ds
    obtain ⟨a, ea, N⟩ := ok
    obtain ⟨ws, hl, hr⟩ := N.ok
    have ha : H1 a = none := N.bn
    obtain ⟨f1, f2, f3, f4⟩ := R1.fresh ha
    have fn : newF H1 F1 F3 a = none := by rw [newF_new ha]; exact N.fa
    exact k v _ H3 γ1 (.new (.lst ds)) R4 (e1.trans e4) ⟨a, ea, fn, ⟨ws, hl, c2 _ _ hr hp.1⟩, f3, .inr f2, f4⟩ hp.2
  · rename_i C fs'
    obtain ⟨a, ea, N⟩ := ok
    obtain ⟨dx, fv, g1, g2, g3, g4, g5, g6⟩ := N.ok
    have ha : H1 a = none := N.bn
    have hd : H1 dx = none := g4 ha
    obtain ⟨f1, f2, f3, f4⟩ := R1.fresh ha
    obtain ⟨d1, d2, d3, d4⟩ := R1.fresh hd
    have fn : newF H1 F1 F3 a = none := by rw [newF_new ha]; exact N.fa
    have fd : newF H1 F1 F3 dx = none := by rw [newF_new hd]; exact g3
    exact k v _ H3 γ1 (.new (.ins C fs')) R4 (e1.trans e4) ⟨a, ea, fn, ⟨dx, fv, g1, g2, fd, fun _ => d3, .inr d2, c3 _ _ g6 hp.1⟩, f3, .inr f2, f4⟩ hp.2
  · exact hp.elim
end
section
variable {X : Cx} {B : Bs} {a : Expr} {es : List Expr} {ta : TA} {da : DA} {k n : Nat} {f : Addr} {fd : FuncData} {ps : List Str} {fs : FS} {x : Str} {p pos : Pos}
theorem x_callLN (K : PySem.W.Frag) (hK : X.K = K) (G : FnOk X.prog X.w X.K X.mg X.base CX0 k f fd ps (spOf X.K n fs)) (hr : Room k X.A) (hm : X.mg x = some (.ref f)) (hk : PySem.W.keepIn X.K (.ref f) = true) (hb : Binds X.K fd ps []) (h : XA X B (a :: es) ta da)
    (hg : Gl X x := by rfl) (hdb : (x == ("__debug__" : Str)) = false := by decide) (he : starEach (a :: es) X.env = (false, eval a X.env) :: starEach es X.env := by rfl) (hpl : (backTo pos (starEach es X.env)).any (·.1) = false := by rfl) :
    XE X B (.Call (.Name x p) (a :: es) [] pos) (tCall (spOf K n fs) [] E0 ta) (dCallN n fs da) := by
  subst hK
  exact ⟨pe_call G hr hg hm hk hb .nil pass0 h.pa hdb he hpl, se_callLN h.sa⟩
end
section
variable {K : PySem.W.Frag} {B : Bs}
theorem se_makeL {C : String} {n : Nat} {fs : FS} {dvs : List V} {dds : List D} {E : XK} {ta : TA} {da : DA} (h : SA K B ta da) (od : Paired (fun v d => ∀ z F, Rp ⟨K, z⟩ F v d) dvs dds) : SE K B (tMake (ctOf K C) (spOf K n fs) dvs E ta) (dMakeL C n fs dds da) := fun F H σ γ Q q R hq k => by
  refine h F H σ γ _ _ R hq fun vs F1 H1 γ1 rs R1 e1 o1 ⟨h0, h2, h3⟩ x dx hx hdx ne => ?_
  obtain ⟨F2, e2, e3, all0, s2⟩ := Rep.lendL R1 (lentP o1 h0)
  have all : RpAll (B.kz K) F2 (vs ++ dvs) (rs.map RS.data ++ dds) := RpAll.of (P_app all0.p (P_mono (fun v d z => z _ _) od))
  let Z : ZN (upd (upd H1 dx (.own x)) x (.ins (ctOf K C) dx [])) := ⟨B.z, fun a ha => by
    obtain ⟨o, e⟩ := R1.znp a ha
    have n1 : a ≠ x := fun z => by subst z; rw [hx] at e; cases e
    have n2 : a ≠ dx := fun z => by subst z; rw [hdx] at e; cases e
    exact ⟨o, by rw [upd_ne n1, upd_ne n2]; exact e⟩⟩
  have RE := make_entry (B := B) (C := C) e3 all hx hdx ne Z rfl
  rw [List.map_append] at RE
  have hm : (rs.map fun r => Sx.val r.data) = (rs.map RS.data).map Sx.val := by rw [List.map_map]; rfl
  rw [hm] at h3
  refine ⟨by simp only [List.length_cons, List.length_append]; rw [P_len o1, P_len od]; omega, F2, _, Z, _, _, RE, h3, fun r as' v F3 H3 ⟨hr, hp⟩ R3 ok hk => ?_⟩
  subst hr
  have h2' : ∀ b o, H1 b = some o → (upd (upd H1 dx (.own x)) x (.ins (ctOf K C) dx [])) b = some o ∧ b ∉ [x, dx] := fun b o e => by
    have n1 : b ≠ x := fun z => by subst z; rw [hx] at e; cases e
    have n2 : b ≠ dx := fun z => by subst z; rw [hdx] at e; cases e
    exact ⟨by rw [upd_ne n1, upd_ne n2]; exact e, by simp [n1, n2]⟩
  have eH : Ex H1 H3 := fun b o e => (R3.b1 b o (h2' b o e).1).1 (h2' b o e).2
  have s3 : ∀ b o, H1 b = some o → F3 b = F2 b := fun b o e => R3.b3 b o (h2' b o e).1 (h2' b o e).2
  obtain ⟨R4, e4, c1, c2, c3⟩ := lend_back R1 R3.fh eH s3 s2
  split at hp
  · rename_i p C' fs' rest _
    obtain ⟨hC, hn, hp⟩ := hp
    subst hC
    obtain ⟨a, ea, fa, dx', fv, q1, q2, q3, q4, q5, q6⟩ := R3.sl 0 _ _ rfl rfl
    cases ea
    obtain ⟨o', g1, fs2, g2⟩ := R3.bd x _ (show (entry F2 (upd (upd H1 dx (.own x)) x (.ins (ctOf K C') dx [])) [x, dx] Z (.ref x :: (vs ++ dvs))).H x = some (.ins (ctOf K C') dx []) from upd_same)
    subst g2
    rw [g1] at q1
    cases q1
    obtain ⟨f1, f2, f3, f4⟩ := R1.fresh hx
    obtain ⟨d1, d2, d3, d4⟩ := R1.fresh hdx
    have ok' : Rp _ F3 v .non := ok
    cases ok'
    refine ⟨rfl, k _ _ H3 γ1 (.new (.ins C' fs')) R4 (e1.trans e4) ⟨x, rfl, by rw [newF_new hx]; exact fa, ⟨dx, fv, g1, q2, by rw [newF_new hdx]; exact q3, fun _ => d3, .inr d2, c3 _ _ q6 hn⟩, f3, .inr f2, f4⟩ hp⟩
  · exact hp.elim
end
section
variable {X : Cx} {B : Bs} {a : Expr} {es : List Expr} {ta : TA} {da : DA} {k n : Nat} {C : String} {f : Addr} {fd : FuncData} {ps : List Str} {fs : FS} {x : Str} {p pos : Pos}
theorem x_makeL (K : PySem.W.Frag) (hK : X.K = K) (M : Mk X.K (ctOf X.K C) f) (G : FnOk X.prog X.w X.K X.mg X.base CX0 k f fd ps (spOf X.K n fs)) (hr : Room (k + 1) X.A) (hm : X.mg x = some (.ref (ctOf X.K C))) (hb : Binds X.K fd ps []) (h : XA X B (a :: es) ta da)
    (hg : Gl X x := by rfl) (hdb : (x == ("__debug__" : Str)) = false := by decide) (he : starEach (a :: es) X.env = (false, eval a X.env) :: starEach es X.env := by rfl) (hpl : (backTo pos (starEach es X.env)).any (·.1) = false := by rfl) :
    XE X B (.Call (.Name x p) (a :: es) [] pos) (tMake (ctOf K C) (spOf K n fs) [] E0 ta) (dMakeL C n fs [] da) := by
  subst hK
  exact ⟨pe_make M G hr hg hm hb .nil pass0 h.pa hdb he hpl, se_makeL h.sa .nil⟩
theorem x_makeLD {dvs : List V} {dds : List D} {ds : List Value} (K : PySem.W.Frag) (hK : X.K = K) (M : Mk X.K (ctOf X.K C) f) (G : FnOk X.prog X.w X.K X.mg X.base CX0 k f fd ps (spOf X.K n fs)) (hr : Room (k + 1) X.A) (hm : X.mg x = some (.ref (ctOf X.K C))) (hb : Binds X.K fd ps ds) (hd : Vals dvs ds) (od : Paired (fun v d => ∀ z F, Rp ⟨X.K, z⟩ F v d) dvs dds) (h : XA X B (a :: es) ta da)
    (hg : Gl X x := by rfl) (hdb : (x == ("__debug__" : Str)) = false := by decide) (he : starEach (a :: es) X.env = (false, eval a X.env) :: starEach es X.env := by rfl) (hpl : (backTo pos (starEach es X.env)).any (·.1) = false := by rfl) :
    XE X B (.Call (.Name x p) (a :: es) [] pos) (tMake (ctOf K C) (spOf K n fs) dvs E0 ta) (dMakeL C n fs dds da) := by
  subst hK
  exact ⟨pe_make M G hr hg hm hb hd pass0 h.pa hdb he hpl, se_makeL h.sa od⟩
end
end DL

set_option Elab.async false
set_option linter.all false
set_option maxRecDepth 100000
set_option maxHeartbeats 2000000
namespace DL
open PySem PySem.Spec PyProof.Rows L2
open Evl (Ex ex_l ex_t)
/-! ### raise C(), an own class without an __init__ -/
theorem pmk_own0 {X : Cx} {C : Addr} {bmB : List Value} {B newId initId : String} {x : Str} {p pos : Pos} (F : ExcBaseFacts B newId initId bmB) (q : PySem.W.excIn X.K C bmB newId = true) (gC : X.mg x = some (.ref C)) (kC : PySem.W.keepIn X.K (.ref C) = true) (r : Raises X (.ref C)) (hg : Gl X x)
    (hdb : (x == ("__debug__" : Str)) = false := by decide) : L2N.PMk X (.Call (.Name x p) [] [] pos) (fun _ H Q => Q (.ref C) none H) := by
  intro pins s σ H Q I h
  refine wpAny_Call_Name_kw (ld_glob I hg gC ?_ hdb)
  refine PySem.W.callWith_K0 I.kIn kC ?_
  show wpAny _ _ (call (.ref C) []) _ _ _
  obtain ⟨bm, N, nm, qn, bs, hdct, sn, sub, ab, col, dd, k0, k1, k2, k3, k5, mN, hC, hN, hni, T⟩ := exc_obj I.kIn q
  refine wpAny_call_exc_subT F T hC hN hni (fun h' e hm => ?_) (by show 0 ≤ sizeLine; rw [sizeLine_eq]; omega)
  exact L2N.mk_of I hm r h (I.hok.gone hm.new)
def dRaise0 (xc : DX) (nm : Nat) (d : DEnds) (γ : Env) : Prop := xc nm none γ
theorem s_raise0 {X : Cx} {B : Bs} {ct : Nat → Addr} {W : WX} {xc : DX} {nm : Nat} {x : Str} {p pos pos2 : Pos} {bmB : List Value} {BB newId initId : String} (hc : X.calm = true) (xo : XOk X.K ct B W xc) (tk : L2N.Takes X W) (F : ExcBaseFacts BB newId initId bmB) (q : PySem.W.excIn X.K (ct nm) bmB newId = true) (gC : X.mg x = some (.ref (ct nm))) (kC : PySem.W.keepIn X.K (.ref (ct nm)) = true) (r : Raises X (.ref (ct nm))) (hg : Gl X x := by rfl)
    (hdb : (x == ("__debug__" : Str)) = false := by decide) : XS X B (.Raise (some (.Call (.Name x p) [] [] pos)) none pos2) (fun _ σ H => W (.ref (ct nm)) none σ H) (dRaise0 xc nm) := ⟨L2N.ps_raise hc tk (pmk_own0 F q gC kC r hg hdb), fun F H σ γ E d R hq k => xo F H σ γ nm none none R trivial hq⟩
/-! ### a number of the module -/
theorem x_gint {X : Cx} {B : Bs} {x : Str} {i : Int} {t : Tok} {pos : Pos} (hm : X.mg x = some (.int i t)) (hg : Gl X x := by rfl) (hd : (x == ("__debug__" : Str)) = false := by decide) : XE X B (.Name x pos) (tC (.int i)) (dC (.int i)) := x_glob hg hm ⟨_, rfl⟩ (fun _ _ => .int i) hd
end DL

set_option Elab.async false
set_option linter.all false
set_option maxRecDepth 100000
set_option maxHeartbeats 2000000
namespace DL
open PySem PySem.Spec PyProof.Rows L2
open Evl (Ex ex_l ex_t)
/-! ### [e for .. in .. for .. in ..] -/
def dLc2 (di : DI) (dg : DG) (dt : DT) (di1 : DI) (dg1 : DG) (dt1 : DT) (de : DE) (vs vs1 : List Nat) (γ : Env) (q : RS → Env → Prop) : Prop := di γ fun n y γ1 => ∃ I : Nat → List D → Env → Prop, I 0 [] (wipeG γ1 vs) ∧
  (∀ i acc γ2, i < n → I i acc γ2 → ∀ x, y i x → dg x γ2 fun γ3 => dt γ3 fun b γ4 => (b = true → di1 γ4 fun n1 y1 γ5 => ∃ I1 : Nat → List D → Env → Prop, I1 0 acc (wipeG γ5 vs1) ∧
    (∀ j acc1 γ6, j < n1 → I1 j acc1 γ6 → ∀ x1, y1 j x1 → dg1 x1 γ6 fun γ7 => dt1 γ7 fun b1 γ8 => (b1 = true → de γ8 fun s γ9 => s.kept ∧ acc1.length < 1000000 ∧ I1 (j + 1) (acc1 ++ [s.data]) (wipeG γ9 vs1)) ∧ (b1 = false → I1 (j + 1) acc1 (wipeG γ8 vs1))) ∧
    ∀ acc1 γ6, I1 n1 acc1 γ6 → I (i + 1) acc1 (wipeG γ6 vs)) ∧ (b = false → I (i + 1) acc (wipeG γ4 vs))) ∧
  ∀ acc γ2, I n acc γ2 → q (.new (.lst acc)) (restore γ1 γ2 vs)
/-- between turns: the list at L holds acc -/
structure LSt (K : PySem.W.Frag) (B : Bs) (F1 : Hp) (L : Addr) (σ : L2.St) (acc : List D) (γ : Env) (H : Hp) (F : Hp) (va : List V) : Prop where
  R : Rep K B F H σ γ
  e : Ex F1 F
  h : H L = some (.lst va)
  f : F L = none
  r : RpAll (B.kz K) F va acc
  na : ∀ (j : Nat) p c, γ[j]? = some (.own p c) → σ[j]? ≠ some (some (.ref L))
section
variable {K : PySem.W.Frag} {B : Bs} {F1 H F : Hp} {L : Addr} {σ : L2.St} {acc : List D} {γ : Env} {va : List V}
theorem LSt.off (S : LSt K B F1 L σ acc γ H F va) : L ∉ ownsOf σ γ H := fun z => by
  obtain ⟨j, a, p, c, h1, h2, h3⟩ := mem_owns.mp z
  rcases h3 with rfl | ⟨C, fs, h3⟩
  · exact S.na j p c h2 h1
  · obtain ⟨_, ok⟩ := S.R.ownObj h2 h1
    cases c with
    | lst ds => obtain ⟨_, q1, _⟩ := ok; rw [h3] at q1; cases q1
    | dct ds => obtain ⟨_, q1, _⟩ := ok; rw [h3] at q1; cases q1
    | ins C' fs' =>
      obtain ⟨dx, fv, q1, q2, _⟩ := ok
      rw [h3] at q1
      injection q1 with q1
      injection q1 with _ q1 _
      rw [← q1, S.h] at q2; cases q2
/-- what goes on over a base taken here keeps the list -/
theorem LSt.keep (S : LSt K B F1 L σ acc γ H F va) {F' H' : Hp} {σ' : L2.St} {γ' : Env} (R' : Rep K (B.re F H σ γ) F' H' σ' γ') (ex : Ex F F') : LSt K B F1 L σ' acc γ' H' F' va := by
  have nL := S.off
  refine ⟨S.R.back R', S.e.trans ex, (R'.b1 L _ S.h).1 nL, (R'.b3 L _ S.h nL).trans S.f, S.r.mono ex, fun j p c h1 h2 => ?_⟩
  rcases R'.b5 j L p c h1 h2 with z | z
  · exact nL z
  · have z' : H L = none := z
    rw [S.h] at z'; cases z'
theorem wipeG_own {vs : List Nat} {j : Nat} {p : Option Nat} {c : OC} (h : (wipeG γ vs)[j]? = some (.own p c)) : γ[j]? = some (.own p c) := by
  induction vs with
  | nil => exact h
  | cons v vs ih =>
    unfold wipeG at h
    rcases get_put h with ⟨_, e⟩ | ⟨_, e⟩
    · cases e
    · exact ih e
theorem LSt.wipe (S : LSt K B F1 L σ acc γ H F va) (vs : List Nat) : LSt K B F1 L (L2.wipe σ vs) acc (wipeG γ vs) H F va := ⟨S.R.wipe vs, S.e, S.h, S.f, S.r, fun j p c h1 h2 => by
  rw [wipe_get] at h2
  split at h2
  · cases h2
  · exact S.na j p c (wipeG_own h1) h2⟩
theorem LSt.add (S : LSt K B F1 L σ acc γ H F va) (bm : B.H L = none) {v : V} {d : D} (rv : Rp (B.kz K) F v d) : LSt K B F1 L σ (acc ++ [d]) γ (upd H L (.lst (va ++ [v]))) F (va ++ [v]) :=
  ⟨S.R.poke (o' := .lst (va ++ [v])) S.h (fun x z => by cases z) S.f (.inr bm) S.na ⟨_, rfl⟩, S.e, upd_same, S.f, RpAll.of (P_app S.r.p (.cons rv .nil)), S.na⟩
theorem wipe_sub {σ : L2.St} {vs vs1 : List Nat} (h : ∀ i ∈ vs1, i ∈ vs) : L2.wipe (L2.wipe σ vs1) vs = L2.wipe σ vs := by
  apply List.ext_getElem?
  intro j
  have hl : (L2.wipe σ vs1).length = σ.length := by
    have := fun k => wipe_get σ k vs1
    rcases Nat.lt_trichotomy (L2.wipe σ vs1).length σ.length with c | c | c
    · have q := this (L2.wipe σ vs1).length
      rw [List.getElem?_eq_none (Nat.le_refl _)] at q
      split at q
      · cases q
      · rw [List.getElem?_eq_getElem c] at q; cases q
    · exact c
    · have q := this σ.length
      rw [List.getElem?_eq_getElem c] at q
      split at q
      · omega
      · rw [List.getElem?_eq_none (Nat.le_refl _)] at q; cases q
  rw [wipe_get, wipe_get, wipe_get, hl]
  by_cases c : j ∈ vs ∧ j < σ.length
  · rw [if_pos c, if_pos c]
  · rw [if_neg c, if_neg c]
    by_cases c1 : j ∈ vs1 ∧ j < σ.length
    · exact absurd ⟨h j c1.1, c1.2⟩ c
    · rw [if_neg c1]
end
theorem se_lc2 {K : PySem.W.Frag} {B : Bs} {wi wi1 : TI} {di di1 : DI} {g g1 : TG} {dg dg1 : DG} {tt tt1 : TT} {dt dt1 : DT} {te : TE} {de : DE} {vs vs1 ix ix1 : List Nat} (hi : SI K B wi di) (hg : ∀ B, SG K B g dg ix) (ht : ∀ B, ST K B tt dt) (hi1 : ∀ B, SI K B wi1 di1) (hg1 : ∀ B, SG K B g1 dg1 ix1) (ht1 : ∀ B, ST K B tt1 dt1) (he : ∀ B, SE K B te de) (hs : ∀ i ∈ ix, i ∈ vs) (hs1 : ∀ i ∈ ix1, i ∈ vs1) (hv : ∀ i ∈ vs1, i ∈ vs) :
    SE K B (tLc2 wi g tt wi1 g1 tt1 te vs vs1) (dLc2 di dg dt di1 dg1 dt1 de vs vs1) := fun F H σ γ Q q R hq k => by
  refine hi F H σ γ _ _ R hq fun J F1 H1 γ1 n y R1 e1 jo ⟨I, i0, it, ie⟩ => ?_
  intro L hL
  obtain ⟨f1, f2, f3, f4⟩ := R1.fresh hL
  have S0 : LSt K B F1 L (L2.wipe σ vs) [] (wipeG γ1 vs) (upd H1 L (.lst [])) F1 [] := LSt.wipe ⟨R1.alloc _ hL, Evl.Ex.refl F1, upd_same, f1, .nil, f4⟩ vs
  refine ⟨fun i m H' => m = n - i ∧ i ≤ n ∧ ∃ F' γ' acc va, LSt K B F1 L (L2.wipe σ vs) acc γ' H' F' va ∧ I i acc γ', ⟨n, by omega, by omega, F1, _, [], [], S0, i0⟩, fun i m H' ⟨hm, hin, F2, γ2, acc, va, S2, i2⟩ => ?_⟩
  by_cases hlt : i < n
  · refine .inr ⟨jo.go B F2 H' _ γ2 i S2.R S2.e hlt, fun H3 => ∃ F' γ' acc va, LSt K B F1 L (L2.wipe σ vs) acc γ' H3 F' va ∧ I (i + 1) acc γ', fun H3 h => ⟨n - (i + 1), by omega, rfl, by omega, h⟩, fun x H3 hy => ?_⟩
    obtain ⟨F3, dd, R3, e3, rx, yx⟩ := jo.yl _ F2 H' _ γ2 i x H3 S2.R.re S2.e hlt hy rfl
    refine hg _ F3 H3 _ γ2 x dd _ _ R3 rx (it i acc γ2 hlt i2 dd yx) fun σ4 γ4 R4 o4 h4 => ?_
    have w4 : L2.wipe σ4 vs = L2.wipe σ vs := wipe_off o4 hs
    refine ⟨w4, ht _ F3 H3 σ4 γ4 _ _ R4 h4 fun b F5 H5 γ5 R5 e5 h5 => ?_⟩
    have S5 := S2.keep R5 (e3.trans e5)
    cases b with
    | false =>
      have S6 := S5.wipe vs
      rw [w4] at S6
      exact ⟨F5, _, acc, va, S6, h5.2 rfl⟩
    | true =>
      show wi1 σ4 H5 _
      refine hi1 _ F5 H5 σ4 γ5 _ _ S5.R.re (h5.1 rfl) fun J1 F6 H6 γ6 n1 y1 R6 e6 jo1 ⟨I1, j0, jt, je⟩ => ?_
      have S6 := S5.keep R6 e6
      have z6 : (B.re F5 H5 σ4 γ5).z = B.z := rfl
      refine ⟨fun j k' H7 => k' = n1 - j ∧ j ≤ n1 ∧ ∃ F' γ' acc va, LSt K B F6 L (L2.wipe σ4 vs1) acc γ' H7 F' va ∧ Ex F1 F6 ∧ I1 j acc γ', ⟨n1, by omega, by omega, F6, _, acc, va, LSt.wipe ⟨S6.R, Evl.Ex.refl F6, S6.h, S6.f, S6.r, S6.na⟩ vs1, S6.e, j0⟩, fun j k' H7 ⟨hk', hj, F7, γ7, acc7, va7, S7, e17, i7⟩ => ?_⟩
      by_cases hlt1 : j < n1
      · refine .inr ⟨jo1.go B F7 H7 _ γ7 j S7.R S7.e hlt1, fun H8 => ∃ F' γ' acc va, LSt K B F6 L (L2.wipe σ4 vs1) acc γ' H8 F' va ∧ Ex F1 F6 ∧ I1 (j + 1) acc γ', fun H8 h => ⟨n1 - (j + 1), by omega, rfl, by omega, h⟩, fun x1 H8 hy1 => ?_⟩
        obtain ⟨F8, d8, R8, e8, rx8, yx8⟩ := jo1.yl _ F7 H7 _ γ7 j x1 H8 S7.R.re S7.e hlt1 hy1 rfl
        refine hg1 _ F8 H8 _ γ7 x1 d8 _ _ R8 rx8 (jt j acc7 γ7 hlt1 i7 d8 yx8) fun σ9 γ9 R9 o9 h9 => ?_
        have w9 : L2.wipe σ9 vs1 = L2.wipe σ4 vs1 := wipe_off o9 hs1
        refine ⟨w9, ht1 _ F8 H8 σ9 γ9 _ _ R9 h9 fun b1 F10 H10 γ10 R10 e10 h10 => ?_⟩
        cases b1 with
        | false =>
          have S11 := (S7.keep R10 (e8.trans e10)).wipe vs1
          rw [w9] at S11
          exact ⟨F10, _, acc7, va7, S11, e17, h10.2 rfl⟩
        | true =>
          show te σ9 H10 _
          refine he _ F10 H10 σ9 γ10 _ _ R10 (h10.1 rfl) fun v F11 H11 γ11 s R11 e11 o11 ⟨hk, hlen, h12⟩ => ?_
          obtain ⟨F12, R12, e12, o12⟩ := o11.fz R11
          have rv := o12.kp hk
          have S12 := S7.keep R12 (((e8.trans e10).trans e11).trans e12)
          refine ⟨va7, S12.h, Nat.lt_of_lt_of_le (show va7.length < 1000001 by rw [S12.r.length]; omega) (by decide), ?_⟩
          have S13 := (S12.add f2 rv).wipe vs1
          rw [w9] at S13
          exact ⟨F12, _, _, _, S13, e17, h12⟩
      · obtain rfl : j = n1 := by omega
        refine .inl ⟨jo1.st B F7 H7 _ γ7 j S7.R S7.e (Nat.le_refl _), ?_⟩
        have S14 := S7.wipe vs
        rw [wipe_sub hv, w4] at S14
        exact ⟨F7, _, acc7, va7, ⟨S14.R, e17.trans S14.e, S14.h, S14.f, S14.r, S14.na⟩, je acc7 γ7 i7⟩
  · obtain rfl : i = n := by omega
    refine .inl ⟨jo.st B F2 H' _ γ2 i S2.R S2.e (Nat.le_refl _), ?_⟩
    have R3 : Rep K B F2 H' σ (restore γ1 γ2 vs) := Rep.rest R1 S2.R S2.e rfl
    refine k _ F2 H' _ (.new (.lst acc)) R3 (e1.trans S2.e) ⟨L, rfl, S2.f, ⟨va, S2.h, S2.r⟩, f3, .inr f2, fun j p c h1 h2 => ?_⟩ (ie acc γ2 i2)
    rcases restore_get h1 with ⟨_, z⟩ | ⟨nj, z⟩
    · unfold keepV at z
      split at z <;> cases z
    · exact S2.na j p c z (by rw [wipe_get, if_neg fun q => nj q.1]; exact h2)
section
variable {X : Cx} {B : Bs} {elt tg iter tg1 iter1 : Expr} {ifs ifs1 : List Expr} {scope : Scope} {pos spos : Pos} {wi wi1 : TI} {di di1 : DI} {g g1 : TG} {dg dg1 : DG} {tt tt1 : TT} {dt dt1 : DT} {te : TE} {de : DE} {ix ix1 : List Nat}
theorem x_lc2 (own : List (Str × Nat)) (vs1 : List Nat) (hc : X.calm = true) (hN : X.N.Nodup) (hi : XI X B tg iter wi di) (ok : BlkOk X.N X.env.scope scope own)
    (hg : ∀ (B : Bs) (s : Shared) (H : Hp) (C : Addr) (cl : List (Str × Addr)) (fp : List Addr), XG (X.blk s H scope (compEnvC scope cl C X.env) fp) B tg g dg ix) (ht : ∀ (B : Bs) (s : Shared) (H : Hp) (C : Addr) (cl : List (Str × Addr)) (fp : List Addr), XTs (X.blk s H scope (compEnvC scope cl C X.env) fp) B ifs tt dt)
    (hi1 : ∀ (B : Bs) (s : Shared) (H : Hp) (C : Addr) (cl : List (Str × Addr)) (fp : List Addr), XI (X.blk s H scope (compEnvC scope cl C X.env) fp) B tg1 iter1 wi1 di1)
    (hg1 : ∀ (B : Bs) (s : Shared) (H : Hp) (C : Addr) (cl : List (Str × Addr)) (fp : List Addr), XG (X.blk s H scope (compEnvC scope cl C X.env) fp) B tg1 g1 dg1 ix1) (ht1 : ∀ (B : Bs) (s : Shared) (H : Hp) (C : Addr) (cl : List (Str × Addr)) (fp : List Addr), XTs (X.blk s H scope (compEnvC scope cl C X.env) fp) B ifs1 tt1 dt1)
    (he : ∀ (B : Bs) (s : Shared) (H : Hp) (C : Addr) (cl : List (Str × Addr)) (fp : List Addr), XE (X.blk s H scope (compEnvC scope cl C X.env) fp) B elt te de) (hix : ∀ i ∈ ix, i ∈ own.map (·.2)) (hix1 : ∀ i ∈ ix1, i ∈ vs1) (hv : ∀ i ∈ vs1, i ∈ own.map (·.2)) (hs : ∀ x, foldedSetIterable iter X.env x = pure x := by intro _; rfl) (hs1 : ∀ env x, foldedSetIterable iter1 env x = pure x := by intro _ _; rfl) :
    XE X B (.ListComp elt [⟨tg, iter, ifs, 0⟩, ⟨tg1, iter1, ifs1, 0⟩] scope pos) (tLc2 wi g tt wi1 g1 tt1 te (own.map (·.2)) vs1) (dLc2 di dg dt di1 dg1 dt1 de (own.map (·.2)) vs1) :=
  ⟨pe_lc2 hc hN hi.pi ok hv (fun s H C cl fp => (hg B s H C cl fp).pg) (fun s H C cl fp => (ht B s H C cl fp).pt) (fun s H C cl fp => (hi1 B s H C cl fp).pi) (fun s H C cl fp => (hg1 B s H C cl fp).pg) (fun s H C cl fp => (ht1 B s H C cl fp).pt) (fun s H C cl fp => (he B s H C cl fp).pe) hs hs1,
    se_lc2 hi.si (fun B => (hg B X.s_0 X.H_0 0 [] []).sg) (fun B => (ht B X.s_0 X.H_0 0 [] []).st) (fun B => (hi1 B X.s_0 X.H_0 0 [] []).si) (fun B => (hg1 B X.s_0 X.H_0 0 [] []).sg) (fun B => (ht1 B X.s_0 X.H_0 0 [] []).st) (fun B => (he B X.s_0 X.H_0 0 [] []).se) hix hix1 hv⟩
theorem s_setLc2 (i : Nat) (own : List (Str × Nat)) (vs1 : List Nat) {y : Str} {py : Pos} (hc : X.calm = true) (hN : X.N.Nodup) (hi : XI X B tg iter wi di) (ok : BlkOk X.N X.env.scope scope own)
    (hg : ∀ (B : Bs) (s : Shared) (H : Hp) (C : Addr) (cl : List (Str × Addr)) (fp : List Addr), XG (X.blk s H scope (compEnvC scope cl C X.env) fp) B tg g dg ix) (ht : ∀ (B : Bs) (s : Shared) (H : Hp) (C : Addr) (cl : List (Str × Addr)) (fp : List Addr), XTs (X.blk s H scope (compEnvC scope cl C X.env) fp) B ifs tt dt)
    (hi1 : ∀ (B : Bs) (s : Shared) (H : Hp) (C : Addr) (cl : List (Str × Addr)) (fp : List Addr), XI (X.blk s H scope (compEnvC scope cl C X.env) fp) B tg1 iter1 wi1 di1)
    (hg1 : ∀ (B : Bs) (s : Shared) (H : Hp) (C : Addr) (cl : List (Str × Addr)) (fp : List Addr), XG (X.blk s H scope (compEnvC scope cl C X.env) fp) B tg1 g1 dg1 ix1) (ht1 : ∀ (B : Bs) (s : Shared) (H : Hp) (C : Addr) (cl : List (Str × Addr)) (fp : List Addr), XTs (X.blk s H scope (compEnvC scope cl C X.env) fp) B ifs1 tt1 dt1)
    (he : ∀ (B : Bs) (s : Shared) (H : Hp) (C : Addr) (cl : List (Str × Addr)) (fp : List Addr), XE (X.blk s H scope (compEnvC scope cl C X.env) fp) B elt te de) (hix : ∀ i ∈ ix, i ∈ own.map (·.2)) (hix1 : ∀ i ∈ ix1, i ∈ vs1) (hv : ∀ i ∈ vs1, i ∈ own.map (·.2)) (hsw : swapsWith (.ListComp elt [⟨tg, iter, ifs, 0⟩, ⟨tg1, iter1, ifs1, 0⟩] scope pos) (some (.Name y py)) spos.line X.env = pure true)
    (hy : X.N[i]? = some y := by rfl) (hyl : X.env.scope.names.lookup y = some .local := by rfl) (hs : ∀ x, foldedSetIterable iter X.env x = pure x := by intro _; rfl) (hs1 : ∀ env x, foldedSetIterable iter1 env x = pure x := by intro _ _; rfl) :
    XS X B (.Assign [.Name y py] (.ListComp elt [⟨tg, iter, ifs, 0⟩, ⟨tg1, iter1, ifs1, 0⟩] scope pos) spos) (tAsg (tLc2 wi g tt wi1 g1 tt1 te (own.map (·.2)) vs1) (gName i)) (dAsg i (dLc2 di dg dt di1 dg1 dt1 de (own.map (·.2)) vs1)) :=
  ⟨ps_setLc2 hc hN hy hyl hsw hi.pi ok hv (fun s H C cl fp => (hg B s H C cl fp).pg) (fun s H C cl fp => (ht B s H C cl fp).pt) (fun s H C cl fp => (hi1 B s H C cl fp).pi) (fun s H C cl fp => (hg1 B s H C cl fp).pg) (fun s H C cl fp => (ht1 B s H C cl fp).pt) (fun s H C cl fp => (he B s H C cl fp).pe) hs hs1,
    sa_name (se_lc2 hi.si (fun B => (hg B X.s_0 X.H_0 0 [] []).sg) (fun B => (ht B X.s_0 X.H_0 0 [] []).st) (fun B => (hi1 B X.s_0 X.H_0 0 [] []).si) (fun B => (hg1 B X.s_0 X.H_0 0 [] []).sg) (fun B => (ht1 B X.s_0 X.H_0 0 [] []).st) (fun B => (he B X.s_0 X.H_0 0 [] []).se) hix hix1 hv)⟩
end
end DL

set_option Elab.async false
set_option linter.all false
set_option maxRecDepth 100000
set_option maxHeartbeats 2000000
namespace DL
open PySem PySem.Spec PyProof.Rows L2
/-! ### loops told by the few slots that change -/
def puts (γ : Env) : List (Nat × Sx) → Env
  | [] => γ
  | (i, s) :: r => puts (put γ i s) r
theorem for_up {V : Type} (U : V → List (Nat × Sx)) (P : Nat → V → Prop) (v0 : V) {n : Nat} {y : Nat → D → Prop} {γ1 : Env} {dg : DG} {db : DS} {d : DEnds} (e0 : puts γ1 (U v0) = γ1) (h0 : P 0 v0)
    (hs : ∀ i v, i < n → P i v → ∀ x, y i x → dg x (puts γ1 (U v)) fun γ3 => db { nx := fun γ => ∃ v', puts γ1 (U v') = γ ∧ P (i + 1) v', ct := fun γ => ∃ v', puts γ1 (U v') = γ ∧ P (i + 1) v', bk := d.nx, rt := d.rt } γ3)
    (hd : ∀ v, P n v → d.nx (puts γ1 (U v))) : ForOk n y γ1 dg db d :=
  for_ok (fun i γ => ∃ v, puts γ1 (U v) = γ ∧ P i v) ⟨v0, e0, h0⟩ (fun i γ2 hi ⟨v, e, hp⟩ x hx => by subst e; exact hs i v hi hp x hx) (fun γ2 ⟨v, e, hp⟩ => by subst e; exact hd v hp)
/-- a comprehension told by what it has made -/
theorem lc_a {n : Nat} {y : Nat → D → Prop} {γ1 : Env} {dg : DG} {dt : DT} {de : DE} {vs : List Nat} {q : RS → Env → Prop} (hn : n ≤ 1000000) (A : Nat → List D) (h0 : A 0 = [])
    (hs : ∀ i x, i < n → y i x → dg x (wipeG γ1 vs) fun γ3 => dt γ3 fun b γ4 => (b = true → de γ4 fun s γ5 => s.kept ∧ A i ++ [s.data] = A (i + 1) ∧ wipeG γ5 vs = wipeG γ1 vs) ∧ (b = false → A i = A (i + 1) ∧ wipeG γ4 vs = wipeG γ1 vs))
    (hf : q (.new (.lst (A n))) (restore γ1 (wipeG γ1 vs) vs)) : LcOk n y γ1 dg dt de vs q :=
  lc_ok hn (fun i acc γ => acc = A i ∧ γ = wipeG γ1 vs) ⟨h0.symm, rfl⟩ (fun i acc γ hi ⟨e1, e2⟩ x hx => by
    subst e1; subst e2
    exact hs i x hi hx) fun acc γ ⟨e1, e2⟩ => by subst e1; subst e2; exact hf
theorem take_snoc {α : Type} {l : List α} {i : Nat} {x : α} (h : l[i]? = some x) : l.take i ++ [x] = l.take (i + 1) := by
  rw [List.take_add_one, h]; rfl
theorem rev_get {α : Type} {l : List α} {i : Nat} (h : i < l.length) : l.reverse[i]? = l[l.length - 1 - i]? := by
  rw [List.getElem?_reverse h]
theorem deq_lcn {x : D} {xs : List D} : deq (.lst (x :: xs)) (.lst []) = false := by simp [deq, PyData.eqv, D.py, pyAll, PyData.eqvAll]
theorem deq_lnc {x : D} {xs : List D} : deq (.lst []) (.lst (x :: xs)) = false := by simp [deq, PyData.eqv, D.py, pyAll, PyData.eqvAll]
theorem mapD_get {ns : List Int} {i : Nat} {x : D} (h : (ns.map D.int)[i]? = some x) : ∃ a, ns[i]? = some a ∧ x = .int a := by
  rw [List.getElem?_map] at h
  cases e : ns[i]? with
  | none => rw [e] at h; cases h
  | some a => rw [e] at h; cases h; exact ⟨a, rfl, rfl⟩
/-- two clauses -/
def Lc2In (I : List D → Env → Prop) (acc : List D) (n1 : Nat) (y1 : Nat → D → Prop) (γ5 : Env) (dg1 : DG) (dt1 : DT) (de : DE) (vs vs1 : List Nat) : Prop := ∃ I1 : Nat → List D → Env → Prop, I1 0 acc (wipeG γ5 vs1) ∧
    (∀ j acc1 γ6, j < n1 → I1 j acc1 γ6 → ∀ x1, y1 j x1 → dg1 x1 γ6 fun γ7 => dt1 γ7 fun b1 γ8 => (b1 = true → de γ8 fun s γ9 => s.kept ∧ acc1.length < 1000000 ∧ I1 (j + 1) (acc1 ++ [s.data]) (wipeG γ9 vs1)) ∧ (b1 = false → I1 (j + 1) acc1 (wipeG γ8 vs1))) ∧
    ∀ acc1 γ6, I1 n1 acc1 γ6 → I acc1 (wipeG γ6 vs)
def Lc2Ok (n : Nat) (y : Nat → D → Prop) (γ1 : Env) (dg : DG) (dt : DT) (di1 : DI) (dg1 : DG) (dt1 : DT) (de : DE) (vs vs1 : List Nat) (q : RS → Env → Prop) : Prop := ∃ I : Nat → List D → Env → Prop, I 0 [] (wipeG γ1 vs) ∧
  (∀ i acc γ2, i < n → I i acc γ2 → ∀ x, y i x → dg x γ2 fun γ3 => dt γ3 fun b γ4 => (b = true → di1 γ4 fun n1 y1 γ5 => Lc2In (I (i + 1)) acc n1 y1 γ5 dg1 dt1 de vs vs1) ∧ (b = false → I (i + 1) acc (wipeG γ4 vs))) ∧
  ∀ acc γ2, I n acc γ2 → q (.new (.lst acc)) (restore γ1 γ2 vs)
theorem dLc2_eq {di : DI} {dg : DG} {dt : DT} {di1 : DI} {dg1 : DG} {dt1 : DT} {de : DE} {vs vs1 : List Nat} {γ : Env} {q : RS → Env → Prop} : dLc2 di dg dt di1 dg1 dt1 de vs vs1 γ q = di γ fun n y γ1 => Lc2Ok n y γ1 dg dt di1 dg1 dt1 de vs vs1 q := rfl
theorem lc2_a {n : Nat} {y : Nat → D → Prop} {γ1 : Env} {dg : DG} {dt : DT} {di1 : DI} {dg1 : DG} {dt1 : DT} {de : DE} {vs vs1 : List Nat} {q : RS → Env → Prop} (A : Nat → List D) (h0 : A 0 = [])
    (hs : ∀ i x, i < n → y i x → dg x (wipeG γ1 vs) fun γ3 => dt γ3 fun b γ4 => (b = true → di1 γ4 fun n1 y1 γ5 => Lc2In (fun acc γ => acc = A (i + 1) ∧ γ = wipeG γ1 vs) (A i) n1 y1 γ5 dg1 dt1 de vs vs1) ∧ (b = false → A i = A (i + 1) ∧ wipeG γ4 vs = wipeG γ1 vs))
    (hf : q (.new (.lst (A n))) (restore γ1 (wipeG γ1 vs) vs)) : Lc2Ok n y γ1 dg dt di1 dg1 dt1 de vs vs1 q :=
  ⟨fun i acc γ => acc = A i ∧ γ = wipeG γ1 vs, ⟨h0.symm, rfl⟩, fun i acc γ hi ⟨e1, e2⟩ x hx => by
    subst e1; subst e2
    exact hs i x hi hx, fun acc γ ⟨e1, e2⟩ => by subst e1; subst e2; exact hf⟩
theorem lc2_in {I : List D → Env → Prop} {acc : List D} {n1 : Nat} {y1 : Nat → D → Prop} {γ5 : Env} {dg1 : DG} {dt1 : DT} {de : DE} {vs vs1 : List Nat} (A : Nat → List D) (h0 : A 0 = acc)
    (hs : ∀ j x1, j < n1 → y1 j x1 → dg1 x1 (wipeG γ5 vs1) fun γ7 => dt1 γ7 fun b1 γ8 => (b1 = true → de γ8 fun s γ9 => s.kept ∧ (A j).length < 1000000 ∧ A j ++ [s.data] = A (j + 1) ∧ wipeG γ9 vs1 = wipeG γ5 vs1) ∧ (b1 = false → A j = A (j + 1) ∧ wipeG γ8 vs1 = wipeG γ5 vs1))
    (hf : I (A n1) (wipeG (wipeG γ5 vs1) vs)) : Lc2In I acc n1 y1 γ5 dg1 dt1 de vs vs1 :=
  ⟨fun j acc γ => acc = A j ∧ γ = wipeG γ5 vs1, ⟨h0.symm, rfl⟩, fun j acc γ hj ⟨e1, e2⟩ x hx => by
    subst e1; subst e2
    exact hs j x hj hx, fun acc γ ⟨e1, e2⟩ => by subst e1; subst e2; exact hf⟩
theorem ok_bl (b : Bool) : dOkN 0 (.bl b) = true := by
  unfold dOkN
  simp only [D.pure, D.py, PyData.canLay0, PyData.depth, Bool.true_and, decide_eq_true_eq]
  omega
theorem cut_mid {α : Type} {xs : List α} {i j : Nat} (h : i ≤ j) : cut xs (some (i : Int)) (some (j : Int)) = (xs.drop i).take (j - i) := by
  unfold cut
  rw [HT.sIx_nat, HT.sIx_nat]
  by_cases c : i ≤ xs.length
  · rw [Nat.min_eq_left c, List.take_eq_take_iff, List.length_drop]
    omega
  · rw [Nat.min_eq_right (a := i) (by omega), List.drop_of_length_le (Nat.le_refl _), List.drop_of_length_le (by omega), List.take_nil, List.take_nil]
theorem rg_up {n m : Nat} (hm : 0 < m) (h1 : m < 1000000) (h2 : n < 1000000000) : RgC 0 (n : Int) (m : Int) ((n + m - 1) / m) := by
  have e : Builtin.Range.rangeSize 0 (n : Int) (m : Int) = ((n + m - 1) / m : Nat) := by
    unfold Builtin.Range.rangeSize
    rw [if_pos (by omega)]
    by_cases c : n = 0
    · subst c
      rw [if_neg (by omega), Nat.div_eq_of_lt (by omega)]
      rfl
    · rw [if_pos (by omega), show (n : Int) - 0 - 1 = ((n - 1 : Nat) : Int) by omega, show n + m - 1 = (n - 1) + m by omega, Nat.add_div_right _ hm]
      push_cast
      rfl
  refine ⟨by omega, by omega, ?_, e⟩
  have hle : (n + m - 1) / m ≤ n + m - 1 := Nat.div_le_self _ _
  unfold Builtin.Range.small
  rw [e]
  generalize (n + m - 1) / m = k at hle
  simp only [Builtin.Range.rangeFitsLong, Bool.and_eq_true, Bool.or_eq_true, decide_eq_true_eq, beq_iff_eq]
  refine ⟨⟨⟨⟨by omega, by omega⟩, by omega, by omega⟩, by omega, by omega⟩, .inr ?_⟩
  rw [if_pos (by omega)]
  simp only [Bool.and_eq_true, decide_eq_true_eq]
  omega
end DL

set_option Elab.async false
set_option linter.all false
set_option maxRecDepth 100000
set_option maxHeartbeats 2000000
/-! ### sorted(xs), any data that are alike -/
namespace DL
open PySem PySem.Spec PyProof.Rows L2
open Evl (Ex ex_l ex_t)
/-- not above -/
def dle (a b : D) : Bool := !PySem.W.dataLt b.py a.py
/-- they can be sorted -/
structure SrtOk (ds : List D) : Prop where
  pure : pureAll ds = true
  len : ds.length ≤ 1000000
  ak : PySem.W.AllAlike (ds.map D.py)
  srt : PySem.W.Sortable (ds.map D.py)
  dep : ∀ d ∈ ds, d.py.depth ≤ 60
def rSortedD (K : PySem.W.Frag) : List V → Hp → VK → Prop := fun vs H Q => ∃ (a : Addr) (xs : List V) (ds : List D), vs = [V.ref a] ∧ SqL K H a xs ∧ DpAll K H xs (pyAll ds) ∧ SrtOk ds ∧
  ∀ (ys : List V) (p : Addr), (∀ G : V → D → Prop, Paired G xs ds → Paired G ys (ds.mergeSort dle)) → H p = none → Q (.ref p) (upd H p (.lst ys))
theorem pyAll_eq : ∀ ds : List D, pyAll ds = ds.map D.py
  | [] => rfl
  | d :: ds => by rw [pyAll, pyAll_eq ds]; rfl
theorem dpAll_p {K : PySem.W.Frag} {H : Hp} : ∀ {vs : List V} {ds : List D}, DpAll K H vs (pyAll ds) → Paired (fun v (d : D) => Dp K H v d.py) vs ds
  | [], [], _ => .nil
  | [], d :: ds, h => by rw [pyAll] at h; cases h
  | v :: vs, [], h => by rw [pyAll] at h; cases h
  | v :: vs, d :: ds, h => by
    rw [pyAll] at h
    cases h with
    | cons a b => exact .cons a (dpAll_p b)
theorem pr_zip {α β : Type} {G : α → β → Prop} : ∀ {l : List α} {m : List β}, Paired G l m → ∀ p ∈ l.zip m, G p.1 p.2
  | _, _, .nil, p, h => by simp at h
  | _, _, .cons a b, p, h => by
    rcases List.mem_cons.mp h with rfl | h
    · exact a
    · exact pr_zip b p h
theorem pr_of_zip {α β : Type} {G : α → β → Prop} : ∀ {z : List (α × β)}, (∀ p ∈ z, G p.1 p.2) → Paired G (z.map Prod.fst) (z.map Prod.snd)
  | [], _ => .nil
  | p :: z, h => .cons (h p List.mem_cons_self) (pr_of_zip fun q hq => h q (List.mem_cons_of_mem _ hq))
theorem each_zip {α β γ : Type} {R : α → β → Prop} {S : γ → α × β → Prop} : ∀ {us : List γ} {l : List α} {m : List β}, us.length = l.length → l.length = m.length → (∀ (i : Nat) u a b, us[i]? = some u → l[i]? = some a → m[i]? = some b → S u (a, b)) → PySem.W.EachIs S us (l.zip m)
  | [], [], [], _, _, _ => .nil
  | [], [], _ :: _, _, h, _ => by simp at h
  | [], _ :: _, _, h, _, _ => by simp at h
  | _ :: _, [], _, h, _, _ => by simp at h
  | _ :: _, _ :: _, [], _, h, _ => by simp at h
  | u :: us, a :: l, b :: m, h1, h2, k => .cons (k 0 u a b rfl rfl rfl) (each_zip (R := R) (by simpa using h1) (by simpa using h2) fun i x y z e1 e2 e3 => k (i + 1) x y z (by simpa using e1) (by simpa using e2) (by simpa using e3))
theorem each_vals {z : List (V × D)} : ∀ {us : List Value} {zs : List (V × D)}, PySem.W.EachIs (fun u (p : V × D) => RelV p.1 u) us zs → Vals (zs.map Prod.fst) us
  | _, _, .nil => .nil
  | _, _, .cons a b => .cons a (each_vals (z := z) b)
theorem vals_each : ∀ {vs : List V} {us : List Value}, Vals vs us → vs.length = us.length ∧ ∀ (i : Nat) v u, vs[i]? = some v → us[i]? = some u → RelV v u
  | _, _, .nil => ⟨rfl, fun i v u h => by simp at h⟩
  | _, _, .cons a b => by
    obtain ⟨h1, h2⟩ := vals_each b
    refine ⟨by simp [h1], fun i v u e1 e2 => ?_⟩
    cases i with
    | zero => simp at e1 e2; subst e1; subst e2; exact a
    | succ i => exact h2 i v u (by simpa using e1) (by simpa using e2)
theorem cr_sortedD {X : Cx} (hu : X.A.units + 64 < cLine) : CallR X (.builtin "sorted") (rSortedD X.K) := by
  intro pins s σ H vs us Q I r h
  obtain ⟨a, xs, ds, rfl, hs, hd, ok, q⟩ := h
  obtain ⟨its, rv, hl, hz⟩ := I.list hs
  rw [Vals.ref1 r]
  obtain ⟨e1, e2⟩ := vals_each rv
  have pd := dpAll_p hd
  have e3 := P_len pd
  have hlen : (xs.zip ds).length = ds.length := by rw [List.length_zip, e3, Nat.min_self]
  have hmap : (xs.zip ds).map (fun p => p.2.py) = ds.map D.py := by
    have : (xs.zip ds).map Prod.snd = ds := List.map_snd_zip (by omega)
    conv => rhs; rw [← this, List.map_map]
    rfl
  refine PySem.W.sorted_data (R := fun u (p : V × D) => RelV p.1 u) (enc := fun p : V × D => p.2.py) (bs := xs.zip ds) hl.isList
    (each_zip (R := fun _ _ => True) (by rw [← e1]) e3 fun i u a b h1 h2 h3 => e2 i a u h2 h1)
    (each_zip (R := fun _ _ => True) (by rw [← e1]) e3 fun i u a b h1 h2 h3 => ?_) (by rw [hmap]; exact ok.ak) (by rw [hmap]; exact ok.srt) (by rw [hlen]; exact sz_le ok.len) (fun b hb => ?_) fun out h1 h2 => ?_
  · obtain ⟨d', hd', g⟩ := P_getL pd h2
    rw [h3] at hd'
    cases hd'
    exact Dp.reads I _ _ _ g (e2 i a u h2 h1)
  · have := ok.dep b.2 (List.of_mem_zip hb).2
    omega
  · obtain ⟨ep, he'⟩ := PyProof.Rows.sortedAll_at s.heap its out.toArray
    have hsnd : ((xs.zip ds).mergeSort (PySem.W.dataLe false fun p : V × D => p.2.py)).map Prod.snd = ds.mergeSort dle := by
      have e := List.map_mergeSort (r := PySem.W.dataLe false fun p : V × D => p.2.py) (s := dle) (f := Prod.snd) (l := xs.zip ds) (fun a _ b _ => rfl)
      rw [e, List.map_snd_zip (by omega)]
    have hperm := List.mergeSort_perm (xs.zip ds) (PySem.W.dataLe false fun p : V × D => p.2.py)
    generalize (xs.zip ds).mergeSort (PySem.W.dataLe false fun p : V × D => p.2.py) = Z at h2 hsnd hperm
    have hv := each_vals (z := Z) h2
    have hzl : (Z.map Prod.fst).length ≤ sizeLine := by
      rw [List.length_map, hperm.length_eq, hlen]
      exact sz_le ok.len
    refine ⟨.ref _, upd H (s.heap.objs.size + 1) (.lst (Z.map Prod.fst)), I.laid (t' := s.toks) (fun _ _ => PyProof.Rows.sortedAll_old) (Nat.le_succ _) ⟨hzl, out, ep, hv, he'⟩, rfl, q _ _ (fun G g => ?_) (I.hok.fresh (Nat.le_succ _))⟩
    rw [← hsnd]
    exact pr_of_zip fun p hp => pr_zip g p (hperm.mem_iff.mp hp)
def fSorted : List D → (RS → Prop) → Prop
  | [.lst ds], q => SrtOk ds ∧ q (.new (.lst (ds.mergeSort dle)))
  | _, _ => False
theorem cd_sorted {K : PySem.W.Frag} : CallD K (rSortedD K) fSorted := fun B F H σ γ xs ds Q q R rx hf k => by
  unfold fSorted at hf
  split at hf
  · rename_i es
    obtain ⟨x, rfl, r⟩ := one_rs rx
    obtain ⟨a, vs, rfl, ha, ra⟩ := r.lst R.fh
    obtain ⟨ok, hq⟩ := hf
    refine ⟨a, vs, es, rfl, SqL.of ha, ra.dp R.fh ok.pure, ok, fun ys p g hp => ?_⟩
    obtain ⟨R', o⟩ := R.newL hp (RpAll.of (g _ ra.p))
    exact k _ F _ _ R' (Evl.Ex.refl F) o hq
  · exact hf.elim
/-! sorted, in plain words -/
theorem py_map {α : Type} (f : α → D) (xs : List α) : (xs.map f).map D.py = xs.map fun x => (f x).py := List.map_map
theorem sort_map {α : Type} {f : α → D} {le : α → α → Bool} (h : ∀ a b, dle (f a) (f b) = le a b) (xs : List α) : (xs.map f).mergeSort dle = (xs.mergeSort le).map f := (List.map_mergeSort (fun a _ b _ => (h a b).symm)).symm
theorem srtOk_of {α : Type} {f : α → D} {xs : List α} (hp : ∀ x, (f x).pure = true) (hl : xs.length ≤ 1000000) (ha : ∀ x y, PySem.W.alike (f x).py (f y).py = true) (hs : (∀ b, ∃ x r, (f b).py = .tuple (x :: r)) ∨ ∀ b, (f b).py ≠ .none ∧ ∀ xs, (f b).py ≠ .tuple xs) (hd : ∀ x, (f x).py.depth ≤ 60) : SrtOk (xs.map f) := by
  refine ⟨pureAll_map f hp xs, by simpa using hl, by rw [py_map]; exact PySem.W.AllAlike.of ha, ?_, fun d h => ?_⟩
  · rw [py_map]
    rcases hs with h | h
    · exact PySem.W.Sortable.tuples h
    · exact PySem.W.Sortable.others h
  · obtain ⟨x, _, rfl⟩ := List.mem_map.mp h
    exact hd x
theorem srtOk_ints {ns : List Int} (h : ns.length ≤ 1000000) : SrtOk (ns.map D.int) := srtOk_of (fun _ => rfl) h (fun _ _ => rfl) (.inr fun b => ⟨PyData.noConfusion, fun xs => PyData.noConfusion⟩) (fun _ => Nat.zero_le _)
theorem dle_int (a b : Int) : dle (.int a) (.int b) = decide (a ≤ b) := by
  unfold dle
  rw [show (D.int b).py = .int b from rfl, show (D.int a).py = .int a from rfl, PySem.W.dataLt_int]
  exact PySem.W.not_lt_int a b
theorem dle_str (a b : Str) : dle (.str a) (.str b) = decide (a.cps.toList ≤ b.cps.toList) := by
  unfold dle
  rw [show (D.str b).py = .str b from rfl, show (D.str a).py = .str a from rfl, PySem.W.dataLt_str]
  exact PySem.W.not_lt_str _ _
theorem sort_ints (ns : List Int) : (ns.map D.int).mergeSort dle = (ns.mergeSort fun a b => decide (a ≤ b)).map D.int := sort_map dle_int ns
end DL

set_option Elab.async false
set_option linter.all false
set_option maxRecDepth 100000
set_option maxHeartbeats 2000000
/-! ### order of numbers or texts; in -/
namespace DL
open PySem PySem.Spec PyProof.Rows L2
open Evl (Ex ex_l ex_t)
def rOr (r s : R2) : R2 := fun x y H Q => r x y H Q ∨ s x y H Q
theorem op_or2 {X : Cx} {f : Value → Value → Sem Value} {r s : R2} (h1 : OpR X f r) (h2 : OpR X f s) : OpR X f (rOr r s) := by
  intro pins s' σ H x y v u Q I rx ry h
  rcases h with h | h
  · exact h1 pins s' σ H x y v u Q I rx ry h
  · exact h2 pins s' σ H x y v u Q I rx ry h
theorem od_or {K : PySem.W.Frag} {r s : R2} {f g e : D → D → (RS → Prop) → Prop} (h1 : OpD K r f) (h2 : OpD K s g) (h : ∀ a b q, e a b q → f a b q ∨ g a b q) : OpD K (rOr r s) e := fun B F H σ γ x y d e' Q q R rx ry hf k => by
  rcases h _ _ _ hf with z | z
  · exact .inl (h1 B F H σ γ x y d e' Q q R rx ry z k)
  · exact .inr (h2 B F H σ γ x y d e' Q q R rx ry z k)
/-- texts by code points -/
def slt (i j : Str) : Bool := decide (i.cps.toList < j.cps.toList)
def fSS (g : Str → Str → Bool) : D → D → (RS → Prop) → Prop
  | .str i, .str j, q => q (.val (.bl (g i j)))
  | _, _, _ => False
theorem od_SS {K : PySem.W.Frag} {g : Str → Str → Bool} : OpD K (fun x y H Q => ∃ i j, x = .str i ∧ y = .str j ∧ Q (.bl (g i j)) H) (fSS g) := fun B F H σ γ x y d e Q q R rx ry hf k => by
  unfold fSS at hf
  split at hf
  · exact ⟨_, _, rx.str, ry.str, vk R k (.bl _) hf⟩
  · exact hf.elim
def fV2 (g : Int → Int → Bool) (h : Str → Str → Bool) : D → D → (RS → Prop) → Prop
  | .int i, .int j, q => q (.val (.bl (g i j)))
  | .str i, .str j, q => q (.val (.bl (h i j)))
  | _, _, _ => False
theorem od_V2 {K : PySem.W.Frag} {g : Int → Int → Bool} {h : Str → Str → Bool} {r s : R2} (h1 : OpD K r (fI0 fun i j => .bl (g i j))) (h2 : OpD K s (fSS h)) : OpD K (rOr r s) (fV2 g h) := od_or h1 h2 fun a b q e => by
  unfold fV2 at e
  split at e
  · exact .inl e
  · exact .inr e
  · exact e.elim
abbrev fLtV := fV2 (fun i j => decide (i < j)) slt
abbrev fGtV := fV2 (fun i j => decide (j < i)) fun i j => slt j i
abbrev fLeV := fV2 (fun i j => decide (i ≤ j)) fun i j => !slt j i
abbrev fGeV := fV2 (fun i j => decide (j ≤ i)) fun i j => !slt i j
section
variable {X : Cx} {K : PySem.W.Frag}
theorem op_ltV : OpR X (compareOp .Lt) (rOr (rI0 fun i j => .bl (decide (i < j))) fun x y H Q => ∃ i j, x = .str i ∧ y = .str j ∧ Q (.bl (slt i j)) H) := op_or2 op_lt op_lt_str
theorem op_gtV : OpR X (compareOp .Gt) (rOr (rI0 fun i j => .bl (decide (j < i))) fun x y H Q => ∃ i j, x = .str i ∧ y = .str j ∧ Q (.bl (slt j i)) H) := op_or2 op_gt op_gt_str
theorem op_leV : OpR X (compareOp .LtE) (rOr (rI0 fun i j => .bl (decide (i ≤ j))) fun x y H Q => ∃ i j, x = .str i ∧ y = .str j ∧ Q (.bl (!slt j i)) H) := op_or2 op_le op_le_str
theorem op_geV : OpR X (compareOp .GtE) (rOr (rI0 fun i j => .bl (decide (j ≤ i))) fun x y H Q => ∃ i j, x = .str i ∧ y = .str j ∧ Q (.bl (!slt i j)) H) := op_or2 op_ge op_ge_str
theorem od_ltV : OpD K (rOr (rI0 fun i j => .bl (decide (i < j))) fun x y H Q => ∃ i j, x = .str i ∧ y = .str j ∧ Q (.bl (slt i j)) H) fLtV := od_V2 od_lt od_SS
theorem od_gtV : OpD K (rOr (rI0 fun i j => .bl (decide (j < i))) fun x y H Q => ∃ i j, x = .str i ∧ y = .str j ∧ Q (.bl (slt j i)) H) fGtV := od_V2 od_gt od_SS
theorem od_leV : OpD K (rOr (rI0 fun i j => .bl (decide (i ≤ j))) fun x y H Q => ∃ i j, x = .str i ∧ y = .str j ∧ Q (.bl (!slt j i)) H) fLeV := od_V2 od_le od_SS
theorem od_geV : OpD K (rOr (rI0 fun i j => .bl (decide (j ≤ i))) fun x y H Q => ∃ i j, x = .str i ∧ y = .str j ∧ Q (.bl (!slt i j)) H) fGeV := od_V2 od_ge od_SS
end
/-! in a list or tuple of flat things -/
def D.flt : D → Bool
  | .non => true | .bl _ => true | .int _ => true | .str _ => true | _ => false
def fInQ (neg : Bool) (d e : D) (q : RS → Prop) : Prop := d.flt = true ∧ seqD e fun ds => ds.all D.flt = true ∧ q (.val (.bl (if neg then !ds.any (fun x => deq x d) else ds.any fun x => deq x d)))
theorem flt_v {K : KZ} {F : Hp} {v : V} {d : D} (r : Rp K F v d) (h : d.flt = true) : flatV v = true ∧ ∀ {w : V} {e : D}, Rp K F w e → e.flt = true → eqV w v = deq e d := by
  cases r <;> first | (exfalso; simp [D.flt] at h; done) | skip
  all_goals
    refine ⟨rfl, fun {w e} s he => ?_⟩
    cases s <;> first | (exfalso; simp [D.flt] at he; done) | (simp [eqV, deq, D.py, PyData.eqv]; done) | (rename_i a b; cases a <;> simp [eqV, deq, D.py, PyData.eqv]; done) | (rename_i a b; cases a <;> cases b <;> simp [eqV, deq, D.py, PyData.eqv]; done) | (rename_i a b; cases b <;> simp [eqV, deq, D.py, PyData.eqv]; done)
theorem flt_all {K : KZ} {F : Hp} {v : V} {d : D} (r : Rp K F v d) (h : d.flt = true) : ∀ {vs : List V} {ds : List D}, RpAll K F vs ds → ds.all D.flt = true → vs.all flatV = true ∧ inV v vs = ds.any fun x => deq x d
  | _, _, .nil, _ => ⟨rfl, rfl⟩
  | _, _, .cons a b, e => by
    simp only [List.all_cons, Bool.and_eq_true] at e
    obtain ⟨h1, h2⟩ := flt_all r h b e.2
    obtain ⟨h3, _⟩ := flt_v a e.1
    have h4 := (flt_v r h).2 a e.1
    unfold inV at h2 ⊢
    exact ⟨by simp [h1, h3], by simp [h2, h4]⟩
theorem od_inQ {K : PySem.W.Frag} {neg : Bool} : OpD K (rIn K neg) (fInQ neg) := fun B F H σ γ x y d e Q q R rx ry hf k => by
  obtain ⟨hd, hf⟩ := hf
  obtain ⟨ds, he, h1, hq⟩ := seqD_of hf
  obtain ⟨a, vs, rfl, hs, ra⟩ := ry.seq R.fh he
  have rx' : Rp (B.kz K) F x d := by
    rcases rx with r | ⟨a, rfl, ⟨_, _, e, _⟩ | ⟨_, _, _, _, e, _⟩ | ⟨_, _, e, _⟩⟩
    · exact r
    all_goals (subst e; cases hd)
  obtain ⟨h2, h3⟩ := flt_all rx' hd ra h1
  refine ⟨a, vs, rfl, hs, (flt_v rx' hd).1, h2, ?_⟩
  rw [h3]
  exact vk R k (.bl _) hq
/-! one sign in a text -/
def fInC (neg : Bool) : D → D → (RS → Prop) → Prop
  | .str x, .str z, q => ∃ c, x = ⟨#[c]⟩ ∧ q (.val (.bl (if neg then !decide (c ∈ z.cps.toList) else decide (c ∈ z.cps.toList))))
  | _, _, _ => False
theorem od_inC {K : PySem.W.Frag} : OpD K (fun x y H Q => ∃ (c : Nat) (z : Str), x = .str ⟨#[c]⟩ ∧ y = .str z ∧ Q (.bl (decide (c ∈ z.cps.toList))) H) (fInC false) := fun B F H σ γ x y d e Q q R rx ry hf k => by
  unfold fInC at hf
  split at hf
  · obtain ⟨c, rfl, hq⟩ := hf
    exact ⟨c, _, rx.str, ry.str, vk R k (.bl _) hq⟩
  · exact hf.elim
theorem od_ninC {K : PySem.W.Frag} : OpD K (fun x y H Q => ∃ (c : Nat) (z : Str), x = .str ⟨#[c]⟩ ∧ y = .str z ∧ Q (.bl (!decide (c ∈ z.cps.toList))) H) (fInC true) := fun B F H σ γ x y d e Q q R rx ry hf k => by
  unfold fInC at hf
  split at hf
  · obtain ⟨c, rfl, hq⟩ := hf
    exact ⟨c, _, rx.str, ry.str, vk R k (.bl _) hq⟩
  · exact hf.elim
/-! a tuple of the module -/
theorem x_gtup {X : Cx} {B : Bs} {x : Str} {pos : Pos} {a : Addr} {vs : List V} {ds : List D} (hm : X.mg x = some (.ref a)) (ht : SqT X.K (fun _ => none) a vs) (hd : ∀ z F, RpAll ⟨X.K, z⟩ F vs ds) (hg : Gl X x := by rfl) (hdb : (x == ("__debug__" : Str)) = false := by decide) : XE X B (.Name x pos) (tC (.ref a)) (dC (.tup ds)) :=
  x_glob hg hm rfl (fun z F => .tup (ex_t (H := fun _ => none) (fun _ _ h => by cases h) ht) (hd z F)) hdb
end DL

set_option Elab.async false
set_option linter.all false
set_option maxRecDepth 100000
set_option maxHeartbeats 2000000
/-! ### dicts whose keys are numbers or texts -/
namespace DL
open PySem PySem.Spec PyProof.Rows L2
open Evl (Ex ex_l ex_t)
def keyD : D → Option Key
  | .int i => some (.inl i)
  | .str x => some (.inr x)
  | _ => none
def vlk (kd : List (Key × D)) (k : Key) : Option D := (kd.find? fun kv => decide (kv.1 = k)).map (·.2)
def ptk (kd : List (Key × D)) (k : Key) (d : D) : List (Key × D) :=
  if (kd.any fun kv => decide (kv.1 = k)) = true then kd.map (fun kv => if kv.1 = k then (kv.1, d) else kv) else kd ++ [(k, d)]
section
variable {K : KZ} {F F' H : Hp}
theorem ks_any {k : Key} : ∀ {kv : List (Key × V)} {kd : List (Key × D)}, RpKs K F kv kd → (kv.any fun p => decide (p.1 = k)) = kd.any fun p => decide (p.1 = k)
  | _, _, .nil => rfl
  | _, _, .cons a b => by simp only [List.any_cons, ks_any (k := k) b]
theorem ks_val {k : Key} : ∀ {kv : List (Key × V)} {kd : List (Key × D)}, RpKs K F kv kd → (valV kv k = none ∧ vlk kd k = none) ∨ ∃ v d, valV kv k = some v ∧ vlk kd k = some d ∧ Rp K F v d
  | _, _, .nil => .inl ⟨rfl, rfl⟩
  | _, _, @RpKs.cons _ _ n v vs d ds a b => by
    by_cases e : n = k
    · refine .inr ⟨v, d, ?_, ?_, a⟩
      · simp [valV, List.find?_cons, e]
      · simp [vlk, List.find?_cons, e]
    · rcases ks_val (k := k) b with ⟨h1, h2⟩ | ⟨v', d', h1, h2, h3⟩
      · refine .inl ⟨?_, ?_⟩
        · unfold valV at h1 ⊢; simpa [List.find?_cons, e] using h1
        · unfold vlk at h2 ⊢; simpa [List.find?_cons, e] using h2
      · refine .inr ⟨v', d', ?_, ?_, h3⟩
        · unfold valV at h1 ⊢; simpa [List.find?_cons, e] using h1
        · unfold vlk at h2 ⊢; simpa [List.find?_cons, e] using h2
theorem ks_map {k : Key} {v : V} {d : D} (r : Rp K F v d) : ∀ {kv : List (Key × V)} {kd : List (Key × D)}, RpKs K F kv kd → RpKs K F (kv.map fun p => if p.1 = k then (p.1, v) else p) (kd.map fun p => if p.1 = k then (p.1, d) else p)
  | _, _, .nil => .nil
  | _, _, @RpKs.cons _ _ n v vs d ds a b => by
    simp only [List.map_cons]
    by_cases e : n = k
    · rw [if_pos e, if_pos e]; exact .cons r (ks_map r b)
    · rw [if_neg e, if_neg e]; exact .cons a (ks_map r b)
theorem ks_app : ∀ {kv kv' : List (Key × V)} {kd kd' : List (Key × D)}, RpKs K F kv kd → RpKs K F kv' kd' → RpKs K F (kv ++ kv') (kd ++ kd')
  | _, _, _, _, .nil, h => h
  | _, _, _, _, .cons a b, h => .cons a (ks_app b h)
theorem ks_put {k : Key} {v : V} {d : D} {kv : List (Key × V)} {kd : List (Key × D)} (r : Rp K F v d) (h : RpKs K F kv kd) : RpKs K F (putK kv k v) (ptk kd k d) := by
  unfold putK ptk
  rw [ks_any h]
  split
  · exact ks_map r h
  · exact ks_app h (.cons r .nil)
theorem ks_len : ∀ {kv : List (Key × V)} {kd : List (Key × D)}, RpKs K F kv kd → kv.length = kd.length
  | _, _, .nil => rfl
  | _, _, .cons _ t => by rw [List.length_cons, List.length_cons, ks_len t]
theorem key_v {v : V} {d : D} {k : Key} (h : keyD d = some k) (r : Rs K F H v d) : v = kV k := by
  cases d <;> first | (exfalso; simp [keyD] at h; done) | skip
  · cases h; exact r.int
  · cases h; exact r.str
end
def rDGet : R2 := fun x y H Q => ∃ a v, x = .ref a ∧ DGet H a y (some v) ∧ Q v H
def rDIn (neg : Bool) : R2 := fun y x H Q => ∃ a o, x = .ref a ∧ DGet H a y o ∧ Q (.bl (if neg then !o.isSome else o.isSome)) H
def fDGet (d e : D) (q : RS → Prop) : Prop := match d with
  | .dct kd => ∃ k v, keyD e = some k ∧ vlk kd k = some v ∧ q (.val v)
  | _ => False
def fDIn (neg : Bool) (e d : D) (q : RS → Prop) : Prop := match d with
  | .dct kd => ∃ k, keyD e = some k ∧ q (.val (.bl (if neg then !(vlk kd k).isSome else (vlk kd k).isSome)))
  | _ => False
theorem dgetR {H : Hp} {a : Addr} {kvs : List (Key × V)} {k : Key} (e : Rd H a (.dK kvs)) : DGet H a (kV k) (valV kvs k) := .inl ⟨kvs, k, e, rfl, rfl⟩
theorem od_dget {K : PySem.W.Frag} : OpD K rDGet fDGet := fun B F H σ γ x y d e Q q R rx ry hf k => by
  unfold fDGet at hf
  split at hf
  · obtain ⟨kk, v, h1, h2, hq⟩ := hf
    obtain ⟨a, kv, rfl, ha, ra⟩ := rx.dct R.fh
    have hy := key_v h1 ry
    subst hy
    rcases ks_val (k := kk) ra with ⟨_, z⟩ | ⟨u, d', g1, g2, g3⟩
    · rw [h2] at z; cases z
    · rw [h2] at g2; cases g2
      exact ⟨a, u, rfl, by rw [← g1]; exact dgetR ha, vk R k g3 hq⟩
  · exact hf.elim
theorem od_din {K : PySem.W.Frag} {neg : Bool} : OpD K (rDIn neg) (fDIn neg) := fun B F H σ γ x y d e Q q R rx ry hf k => by
  unfold fDIn at hf
  split at hf
  · rename_i kd
    obtain ⟨kk, h1, hq⟩ := hf
    obtain ⟨a, kv, rfl, ha, ra⟩ := ry.dct R.fh
    have hy := key_v h1 rx
    subst hy
    refine ⟨a, _, rfl, dgetR ha, ?_⟩
    have e : (valV kv kk).isSome = (vlk kd kk).isSome := by
      rcases ks_val (k := kk) ra with ⟨z1, z2⟩ | ⟨u, d', g1, g2, g3⟩
      · rw [z1, z2]; rfl
      · rw [g1, g2]; rfl
    rw [e]
    exact vk R k (.bl _) hq
  · exact hf.elim
section
variable {X : Cx} {B : Bs} {a b : Expr} {ta tb : TE} {da db : DE} {pos : Pos}
theorem x_dget (hu : X.A.units + 1 < cLine) (ha : XE X B a ta da) (hb : XE X B b tb db) (hs : NoSl b := by exact fun _ _ => rfl) : XE X B (.Subscript a b pos) (tOp rDGet ta tb) (d2 fDGet da db) := ⟨pe_dget hu ha.pe hb.pe hs, se_op od_dget ha.se hb.se⟩
theorem x_din (hu : X.A.units + 1 < cLine) (ha : XE X B a ta da) (hb : XE X B b tb db) (hm : behindInMarks .In b = false := by first | exact nomark _ | rfl) : XE X B (.Compare a [.In] [b] pos) (tOp (rDIn false) ta tb) (d2 (fDIn false) da db) := ⟨pe_cmp (pc_din hu ha.pe hb.pe) hm, se_op od_din ha.se hb.se⟩
theorem x_dnin (hu : X.A.units + 1 < cLine) (ha : XE X B a ta da) (hb : XE X B b tb db) (hm : behindInMarks .NotIn b = false := by first | exact nomark _ | rfl) : XE X B (.Compare a [.NotIn] [b] pos) (tOp (rDIn true) ta tb) (d2 (fDIn true) da db) := ⟨pe_cmp (pc_dnotin hu ha.pe hb.pe) hm, se_op od_din ha.se hb.se⟩
end
/-! new ones -/
def dDNew (γ : Env) (q : RS → Env → Prop) : Prop := q (.new (.dct [])) γ
theorem Rep.newK {K : PySem.W.Frag} {B : Bs} {F H : Hp} {σ : L2.St} {γ : Env} {p : Addr} {kv : List (Key × V)} {kd : List (Key × D)} (R : Rep K B F H σ γ) (hp : H p = none) (h : RpKs (B.kz K) F kv kd) : Rep K B F (upd H p (.dK kv)) σ γ ∧ RsOk K B F (upd H p (.dK kv)) σ γ (.ref p) (.new (.dct kd)) := by
  obtain ⟨f1, f2, f3, f4⟩ := R.fresh hp
  exact ⟨R.alloc _ hp, p, rfl, f1, ⟨kv, upd_same, h⟩, f3, .inr f2, f4⟩
theorem x_dnew {X : Cx} {B : Bs} {pos : Pos} : XE X B (.Dict [] [] pos) tDNewK dDNew := ⟨pe_dnewK, fun F H σ γ Q q R hq k => fun p hp => by
  obtain ⟨R', o⟩ := R.newK hp .nil
  exact k _ F _ γ _ R' (Evl.Ex.refl F) o hq⟩
def fLenD : List D → (RS → Prop) → Prop
  | [.dct kd], q => q (.val (.int kd.length))
  | _, _ => False
theorem call_lenR {X : Cx} : CallR X (.builtin "len") (fun xs H Q => ∃ a kvs, xs = [V.ref a] ∧ Rd H a (.dK kvs) ∧ Q (.int kvs.length) H) := fun {pins s σ H xs us Q} I r ⟨a, kvs, ex, ha, q⟩ => by
  subst ex
  obtain ⟨u, rfl, ru⟩ := vals1 r
  cases ru
  exact d_len I ha fun t s' I' => ⟨.int kvs.length, H, I', ⟨t, rfl⟩, q⟩
theorem cd_lenD {K : PySem.W.Frag} : CallD K (fun xs H Q => ∃ a kvs, xs = [V.ref a] ∧ Rd H a (.dK kvs) ∧ Q (.int kvs.length) H) fLenD := fun B F H σ γ xs ds Q q R rx hf k => by
  unfold fLenD at hf
  split at hf
  · obtain ⟨x, rfl, r⟩ := one_rs rx
    obtain ⟨a, kv, rfl, ha, ra⟩ := r.dct R.fh
    refine ⟨a, kv, rfl, ha, ?_⟩
    rw [ks_len ra]
    exact vk R k (.int _) hf
  · exact hf.elim
/-! d[k] = e -/
section
variable {K : PySem.W.Frag} {B : Bs} {F F' H H' : Hp} {σ : L2.St} {γ : Env}
theorem Rep.writeK (R : Rep K B F H σ γ) {j : Nat} {p : Option Nat} {ds ds' : List (Key × D)} {a : Addr} {vs vs' : List (Key × V)} (hl : look γ j = .own p (.dct ds)) (hs : σ[j]? = some (some (.ref a))) (ha : H a = some (.dK vs)) (r : RpKs (B.kz K) F vs' ds') :
    Rep K B F (upd H a (.dK vs')) σ (put γ j (.own p (.dct ds'))) := by
  obtain ⟨a', hs', hg, fa, ok⟩ := R.own hl
  obtain rfl : a = a' := by rw [hs] at hs'; cases hs'; rfl
  have ne_own : ∀ {b x : Addr}, H b = some (.own x) → b ≠ a := fun h e => by
    subst e
    rw [ha] at h; cases h
  have key : ∀ {i : Nat} {q : Option Nat} {c : OC}, (put γ j (.own p (.dct ds')))[i]? = some (.own q c) → ∃ c0, γ[i]? = some (.own q c0) ∧ ((i = j ∧ c = .dct ds') ∨ (i ≠ j ∧ c0 = c)) := fun h => by
    rcases get_put h with ⟨rfl, e⟩ | ⟨n, e⟩
    · injection e with e1 e2
      subst e1; subst e2
      exact ⟨_, hg, .inl ⟨rfl, rfl⟩⟩
    · exact ⟨_, e, .inr ⟨n, rfl⟩⟩
  refine ⟨fun b o e => ?_, by rw [put_len]; exact R.len, fun i s t h1 h2 => ?_, fun i i' b q c q' c' h1 h2 h3 h4 => ?_, fun b o e => ?_, R.b2, R.b3, fun i b q c h1 h2 => ?_, fun i b q c h1 h2 => ?_, fun b o e => ?_, fun b o e => ?_⟩
  · have n : b ≠ a := fun z => by subst z; rw [fa] at e; cases e
    rw [upd_ne n]; exact R.fh b o e
  · rcases get_put h2 with ⟨rfl, rfl⟩ | ⟨n, e⟩
    · rw [hs] at h1; cases h1
      exact ⟨a, rfl, fa, vs', upd_same, r⟩
    · have q := R.sl i s t h1 e
      cases t with
      | no => trivial
      | val d => exact q
      | own q' c =>
        obtain ⟨b, e', f, ok'⟩ := q
        subst e'
        have nb : b ≠ a := fun z => by subst z; exact n (R.nd i j b q' c p (.dct ds) e hg h1 hs)
        exact ⟨b, rfl, f, ok'.heap (upd_ne nb) fun dx hd => upd_ne (ne_own hd)⟩
  · obtain ⟨_, y1, _⟩ := key h1
    obtain ⟨_, y2, _⟩ := key h2
    exact R.nd i i' b q _ q' _ y1 y2 h3 h4
  · obtain ⟨x1, o', x2⟩ := R.b1 b o e
    by_cases hb : b = a
    · subst hb
      rw [upd_same]
      refine ⟨fun n => ?_, _, rfl⟩
      rcases R.b5 j b p _ hg hs with z | z
      · exact absurd z n
      · rw [e] at z; cases z
    · rw [upd_ne hb]; exact ⟨x1, o', x2⟩
  · obtain ⟨_, y1, _⟩ := key h1
    exact R.b4 i b q _ y1 h2
  · obtain ⟨_, y1, _⟩ := key h1
    exact R.b5 i b q _ y1 h2
  · obtain ⟨o', x2⟩ := R.bN b o e
    by_cases hb : b = a
    · subst hb; exact ⟨_, upd_same⟩
    · rw [upd_ne hb]; exact ⟨o', x2⟩
  · obtain ⟨o', x2, kn⟩ := R.bd b o e
    by_cases hb : b = a
    · subst hb
      rw [ha] at x2
      cases x2
      exact ⟨_, upd_same, kn.trans (.inl ⟨_, rfl⟩)⟩
    · rw [upd_ne hb]; exact ⟨o', x2, kn⟩end
def dSetK (j : Nat) (de dk : DE) (d : DEnds) (γ : Env) : Prop := de γ fun s γ1 => s.kept ∧ (∃ p kd, look γ1 j = .own p (.dct kd)) ∧ dk γ1 fun t γ2 => match look γ2 j, keyD t.data with
  | .own p (.dct kd), some k => kd.length < 1000000 ∧ d.nx (put γ2 j (.own p (.dct (ptk kd k s.data))))
  | _, _ => False
theorem ss_setK {K : PySem.W.Frag} {B : Bs} {te ti : TE} {de di : DE} {j : Nat} (he : SE K B te de) (hi : SE K B ti di) : SS K B (sDPut (tVar j) ti te) (dSetK j de di) := fun F H σ γ E d R hq k => by
  refine he F H σ γ _ _ R hq fun v F1 H1 γ1 s R1 e1 o1 ⟨hk, ⟨p0, kd0, hl⟩, q⟩ => ?_
  obtain ⟨F2, R2, e2, o2⟩ := o1.fz R1
  have rv : Rp (B.kz K) F2 v s.data := kept_rp o2 hk
  obtain ⟨a, hs, hg, fa, vs, ha, ra⟩ := R2.own hl
  refine ⟨_, hs, hi F2 H1 σ γ1 _ _ R2 q fun v3 F3 H3 γ3 t R3 e3 o3 q3 => ?_⟩
  split at q3
  · rename_i p1 kd1 kk hl1 es
    obtain ⟨a1, hs1, hg1, fa1, vs1, ha1, ra1⟩ := R3.own hl1
    rw [hs] at hs1; cases hs1
    obtain ⟨hlen, q4⟩ := q3
    have hy := key_v es (o3.rs R3)
    subst hy
    exact ⟨a, _, rfl, DPut.k ha1 (Nat.lt_of_lt_of_le (by rw [ks_len ra1]; exact hlen) (by decide)), k.nx F3 _ _ _ (R3.writeK hl1 hs ha1 (ks_put (Rp.mono e3 rv) ra1)) ((e1.trans e2).trans e3) q4⟩
  · exact q3.elim
theorem s_setK {X : Cx} {B : Bs} {e ei : Expr} {te ti : TE} {de di : DE} {p3 apos pos : Pos} {o : Str} (j : Nat) (hu : X.A.units + 1 < cLine) (he : XE X B e te de) (hi : XE X B ei ti di)
    (hN : X.N[j]? = some o := by rfl) (hv : Vis X.env.scope o := by first | exact Or.inl rfl | exact Or.inr (Or.inl rfl) | exact Or.inr (Or.inr rfl)) (hd : (o == ("__debug__" : Str)) = false := by decide) (hcd : (o == ("__classdict__" : Str)) = false := by decide)
    (hs : swapsWith e (some (.Subscript (.Name o apos) ei p3)) pos.line X.env = pure false := by rfl) :
    XS X B (.Assign [.Subscript (.Name o apos) ei p3] e pos) (sDPut (tVar j) ti te) (dSetK j de di) := ⟨ps_dput hu (pe_var hN hv hd hcd) hi.pe he.pe hs, ss_setK he.se hi.se⟩
end DL

set_option Elab.async false
set_option linter.all false
set_option maxRecDepth 100000
set_option maxHeartbeats 2000000
/-! ### own classes: constants, properties, operators, C(..) whose __init__ may raise elsewhere -/
namespace DL
open PySem PySem.Spec PyProof.Rows L2
open Evl (Ex ex_l ex_t)
/-! o.F, a number of the class -/
def ConOk (K : PySem.W.Frag) (f : Str) (tab : String → Option Int) : Prop := ∀ C i, tab C = some i → Cls K (ctOf K C) ∧ ∃ u, Con K (ctOf K C) f (.int i) u
def fCon (f : Str) (tab : String → Option Int) : D → (RS → Prop) → Prop
  | .obj C fs, q => fs.lookup f = none ∧ ∃ i, tab C = some i ∧ q (.val (.int i))
  | _, _ => False
def rCon (K : PySem.W.Frag) (f : Str) : V → Hp → VK → Prop := fun x H Q => ∃ a C dx fs v u, x = .ref a ∧ H a = some (.ins C dx fs) ∧ Cls K C ∧ Con K C f v u ∧ fs.lookup f = none ∧ Q v H
theorem ud_con {K : PySem.W.Frag} {f : Str} {tab : String → Option Int} (ht : ConOk K f tab) : UnD K (rCon K f) (fCon f tab) := fun B F H σ γ x d Q q R rx hf k => by
  unfold fCon at hf
  split at hf
  · rename_i C fs
    obtain ⟨hl, i, hi, hq⟩ := hf
    obtain ⟨a, dx, fv, rfl, h2, h3⟩ := rx.obj R.fh
    obtain ⟨c, u, hc⟩ := ht C i hi
    exact ⟨a, _, dx, fv, _, u, rfl, h2, c, hc, fs_none h3 hl, vk R k (.int i) hq⟩
  · exact hf.elim
theorem x_con {X : Cx} {B : Bs} {e : Expr} {te : TE} {de : DE} {tab : String → Option Int} {pos : Pos} (f : Str) (ht : ConOk X.K f tab) (h : XE X B e te de) (hb : attributeBase e f X.env (eval e X.env) = eval e X.env := by rfl) : XE X B (.Attribute e f pos) (tUn (rCon X.K f) te) (d1 (fCon f tab) de) := ⟨by
    have := pe_con h.pe hb (pos := pos)
    exact this, se_un (ud_con ht) h.se⟩
/-! o.p, a property -/
inductive PDisp (P : Program) (w : World) (K : PySem.W.Frag) (mg : Str → Option Value) (base : Heap) (km : Nat) (f : Str) (C : Addr) (sp : Sp) : Prop
  | mk {k : Nat} {p g : Addr} {fd : FuncData} {ps : List Str} : Cls K C → PropOf K C f p g → FnOk P w K mg base CX0 k g fd ps sp → k + 1 ≤ km → Binds K fd ps [] → PDisp P w K mg base km f C sp
def tPropP (P : Program) (w : World) (K : PySem.W.Frag) (mg : Str → Option Value) (base : Heap) (km : Nat) (f : Str) (ta : TE) : TE := fun σ H Q => ta σ H fun x H1 => ∃ a C dx fs sp, x = .ref a ∧ H1 a = some (.ins C dx fs) ∧ PDisp P w K mg base km f C sp ∧ sp [x] H1 Q E0
theorem pe_propP {X : Cx} {km : Nat} {f : Str} {e : Expr} {pos : Pos} {ta : TE} (he : PE X e ta) (hr : Room km X.A) (hab : attributeBase e f X.env (eval e X.env) = eval e X.env) : PE X (.Attribute e f pos) (tPropP X.prog X.w X.K X.mg X.base km f ta) := by
  refine ⟨fun pins s σ H Q I h => ?_⟩
  refine attr_of hab (thn (he.run pins s σ H _ I h) fun u s1 ⟨x, H1, I1, rx, a, C, dx, fs, sp, ex, ea, dp, q⟩ => ?_)
  subst ex
  obtain rfl : u = Value.ref a := rx
  obtain ⟨c, hp, F, hk, hb⟩ := dp
  exact getprop_ok (dvs := []) (ds := []) I1 ea c hp F (hr.mono hk) hb .nil pass0 q
def dProp (tb : MT) (l : DA) (γ : Env) (q : RS → Env → Prop) : Prop := l γ fun rs γ1 => match rs with
  | [s] => (match s.data with
    | .obj C fl => ∃ fs, tb C = some fs ∧ fs (argsOf 0 [s]) fun r as' => q r (upds γ1 [s] as')
    | _ => False)
  | _ => False
theorem own1 (s : RS) : (ownIx [s]).Nodup := by cases s <;> simp [ownIx]
section
variable {P : Program} {w : World} {K : PySem.W.Frag} {mg : Str → Option Value} {base : Heap} {km : Nat} {B : Bs}
theorem se_prop {f : Str} {te : TE} {de : DE} {tb : MT} (hd : ∀ C fs, tb C = some fs → PDisp P w K mg base km f (ctOf K C) (spOf K 1 fs)) (he : SE K B te de) : SE K B (tPropP P w K mg base km f te) (dProp tb (dCons de dNil)) := fun F H σ γ Q q R hq k => by
  have sl := sa_cons he (sa_nil (K := K) (B := B))
  have := sl F H σ γ (fun vs H1 => ∃ x, vs = [x] ∧ ∃ a C dx fs sp, x = .ref a ∧ H1 a = some (.ins C dx fs) ∧ PDisp P w K mg base km f C sp ∧ sp [x] H1 Q E0) _ R hq fun vs F1 H1 γ1 rs R1 e1 o1 h1 => by
    split at h1
    · rename_i s
      split at h1
      · rename_i C fl es
        obtain ⟨fs, ht, h6⟩ := h1
        cases o1 with
        | cons o2 o3 => cases o3 with
          | nil =>
            rename_i x
            have r := o2.rs R1
            rw [es] at r
            obtain ⟨a, dx, fv, rfl, q2, q3⟩ := r.obj R1.fh
            refine ⟨_, rfl, a, _, dx, fv, _, rfl, q2, hd C fs ht, ?_⟩
            have oo : Paired (RsOk K B F1 H1 σ γ1) [.ref a] [s] := .cons o2 .nil
            obtain ⟨m', hm, RE⟩ := R1.args (dvs := []) (dds := []) oo .nil (own1 s)
            simp only [List.append_nil, List.map_nil] at RE
            refine ⟨rfl, F1, m', _, _, _, RE, h6, fun r as' v F4 H4 hp R4 ok hk => ?_⟩
            obtain ⟨R5, e5, ok5⟩ := R1.called oo (own1 s) (fun i v hv => hv) hm R4
            exact k v F4 H4 _ r R5 (e1.trans e5) (ok5 v r hk ok) hp
      · exact h1.elim
    · exact h1.elim
  unfold tPropP
  refine Eq.mp ?_ this
  unfold tCons tNil
  congr 1
  funext x H1
  simp
end
theorem x_prop {X : Cx} {B : Bs} {e : Expr} {te : TE} {de : DE} {km : Nat} {pos : Pos} (P : Program) (w : World) (K : PySem.W.Frag) (mg : Str → Option Value) (base : Heap) (hX : (X.prog, X.w, X.K, X.mg, X.base) = (P, w, K, mg, base)) (hr : Room km X.A) (f : Str) {tb : MT} (hd : ∀ C fs, tb C = some fs → PDisp P w K mg base km f (ctOf K C) (spOf K 1 fs)) (h : XE X B e te de)
    (hab : attributeBase e f X.env (eval e X.env) = eval e X.env := by rfl) : XE X B (.Attribute e f pos) (tPropP P w K mg base km f te) (dProp tb (dCons de dNil)) := by
  cases hX
  exact ⟨pe_propP h.pe hr hab, se_prop hd h.se⟩
/-! a op b, the class's own -/
structure OpTy (K : PySem.W.Frag) (C : Addr) (op : Operator) (T : String) : Prop where
  h1 : ∃ fo, PySem.W.findIn K (.type T) (PySem.dunder op.info.2) = some fo
  h2 : ∃ ro, PySem.W.findIn K (.type T) (PySem.dunderR op.info.2) = some ro
  sub : PySem.W.subIn K (.type T) (.ref C) = some false
structure OpCl (K : PySem.W.Frag) (C : Addr) (op : Operator) (f : Addr) : Prop where
  self : PySem.W.selfFirst K C = true
  at_ : PySem.W.findIn K (.ref C) (PySem.dunder op.info.2) = some (some (.ref f))
  fn : PySem.W.isFn K (.ref f) = true
  rr : PySem.W.findIn K (.ref C) (PySem.dunderR op.info.2) = some none
inductive ODisp (P : Program) (w : World) (K : PySem.W.Frag) (mg : Str → Option Value) (base : Heap) (CX : CXT) (km : Nat) (op : Operator) (C : Addr) (sp : Sp) : Prop
  | mk {k : Nat} {f : Addr} {fd : FuncData} {ps : List Str} : OpCl K C op f → FnOk P w K mg base CX k f fd ps sp → k ≤ km → Binds K fd ps [] → ODisp P w K mg base CX km op C sp
/-- what stands to the right -/
def Rgt (K : PySem.W.Frag) (C : Addr) (op : Operator) (H : Hp) (y : V) : Prop := ((∃ i, y = .int i) ∧ OpTy K C op "int") ∨ ((∃ x, y = .str x) ∧ OpTy K C op "str") ∨ ∃ b dx fs, y = .ref b ∧ H b = some (.ins C dx fs)
def tOpO (P : Program) (w : World) (K : PySem.W.Frag) (mg : Str → Option Value) (base : Heap) (CX : CXT) (km : Nat) (op : Operator) (E : L2.St → XK) (ta tb : TE) : TE := fun σ H Q => ta σ H fun x H1 => tb σ H1 fun y H2 => ∃ a C dx fs sp, x = .ref a ∧ H2 a = some (.ins C dx fs) ∧ ODisp P w K mg base CX km op C sp ∧ Rgt K C op H2 y ∧ sp [x, y] H2 Q (E σ)
theorem back_of {X : Cx} {pins : List (Addr × Obj)} {σ : L2.St} {Q : VK} {v : Value} {s' : Shared} (h : EP X pins σ Q v s') : PySem.W.CmpBack (EP X pins σ Q) v s' := by
  have h0 := h
  obtain ⟨x, H', I, r, q⟩ := h
  cases x <;> first | (obtain ⟨t, rfl⟩ := r; exact h0) | (cases r; exact h0)
theorem pe_opO {X : Cx} {CX : CXT} {km : Nat} {op : Operator} {E : L2.St → XK} {a b : Expr} {pos : Pos} {ta tb : TE} (ha : PE X a ta) (hb : PE X b tb) (hr : Room km X.A) (hx : ∀ σ, PassesAt CX X σ (E σ)) : PE X (.BinOp a op b pos) (tOpO X.prog X.w X.K X.mg X.base CX km op E ta tb) := by
  refine ⟨fun pins s σ H Q I h => ?_⟩
  refine wpAny_BinOp (binT ha hb I h fun v u s2 x y H2 I2 rx ry ⟨p, C, dx, fs, sp, ex, ea, dp, rg, q⟩ => ?_)
  subst ex
  obtain rfl : v = Value.ref p := rx
  obtain ⟨oc, F, hk, hbd⟩ := dp
  obtain ⟨mA, O, _⟩ := ins_get I2.hok ea
  obtain ⟨od, J, _⟩ := O.look
  obtain ⟨m, fr⟩ := I2.fr
  have cl := wpAny_mono (run_fnS (us := [.ref p, u]) (vs := [.ref p, y]) F (hr.mono hk) hbd hx I2 (.cons rfl (.cons ry .nil)) q) (fun v s' hv => back_of hv) fun _ _ e => e
  rcases rg with ⟨⟨i, rfl⟩, ot⟩ | ⟨⟨i, rfl⟩, ot⟩ | ⟨b', dx', fs', rfl, eb⟩
  · obtain ⟨t, rfl⟩ := ry
    obtain ⟨fo, h1⟩ := ot.h1
    obtain ⟨ro, h2⟩ := ot.h2
    exact PySem.W.ksp_binT (T := "int") fr I2.mod.kin J rfl oc.self oc.at_ oc.fn oc.rr (.inl rfl) h1 h2 ot.sub cl
  · obtain ⟨t, rfl⟩ := ry
    obtain ⟨fo, h1⟩ := ot.h1
    obtain ⟨ro, h2⟩ := ot.h2
    exact PySem.W.ksp_binT (T := "str") fr I2.mod.kin J rfl oc.self oc.at_ oc.fn oc.rr (.inl rfl) h1 h2 ot.sub cl
  · obtain rfl : u = Value.ref b' := ry
    obtain ⟨mB, O2, _⟩ := ins_get I2.hok eb
    obtain ⟨od2, J2, _⟩ := O2.look
    exact PySem.W.binop_K fr I2.mod.kin J J2.type oc.self oc.at_ oc.fn cl
def rgtD (C : String) : D → Prop
  | .int _ => True
  | .str _ => True
  | .obj C' _ => C' = C
  | _ => False
def dOpO (tb : MT) (l : DA) (γ : Env) (q : RS → Env → Prop) : Prop := l γ fun rs γ1 => match rs with
  | [s, t] => (match s.data with
    | .obj C fl => ∃ fs, tb C = some fs ∧ rgtD C t.data ∧ (ownIx [s, t]).Nodup ∧ fs (argsOf 0 [s, t]) fun r as' => q r (upds γ1 [s, t] as')
    | _ => False)
  | _ => False
def dOpOX (xc : DX) (tb : MTX) (l : DA) (γ : Env) (q : RS → Env → Prop) : Prop := l γ fun rs γ1 => match rs with
  | [s, t] => (match s.data with
    | .obj C fl => ∃ fs, tb C = some fs ∧ rgtD C t.data ∧ (ownIx [s, t]).Nodup ∧ fs (argsOf 0 [s, t]) (fun r as' => q r (upds γ1 [s, t] as')) fun nm xs as' => xc nm xs (upds γ1 [s, t] as')
    | _ => False)
  | _ => False
def OpTys (K : PySem.W.Frag) (C : Addr) (op : Operator) : Prop := OpTy K C op "int" ∧ OpTy K C op "str"
theorem rgt_of {K : KZ} {F H : Hp} {C : String} {op : Operator} {y : V} {d : D} (e : Ex F H) (ot : OpTys K.fr (ctOf K.fr C) op) (r : Rs K F H y d) (h : rgtD C d) : Rgt K.fr (ctOf K.fr C) op H y := by
  unfold rgtD at h
  split at h
  · exact .inl ⟨⟨_, r.int⟩, ot.1⟩
  · exact .inr (.inl ⟨⟨_, r.str⟩, ot.2⟩)
  · subst h
    obtain ⟨a, dx, fv, rfl, h2, _⟩ := r.obj e
    exact .inr (.inr ⟨a, dx, fv, rfl, h2⟩)
  · exact h.elim
section
variable {P : Program} {w : World} {K : PySem.W.Frag} {mg : Str → Option Value} {base : Heap} {km : Nat} {B : Bs} {op : Operator} {te tf : TE} {de df : DE}
theorem se_opO {tb : MT} (hd : ∀ C fs, tb C = some fs → ODisp P w K mg base CX0 km op (ctOf K C) (spOf K 2 fs) ∧ OpTys K (ctOf K C) op) (he : SE K B te de) (hf : SE K B tf df) : SE K B (tOpO P w K mg base CX0 km op (fun _ => E0) te tf) (dOpO tb (dCons de (dCons df dNil))) := fun F H σ γ Q q R hq k => by
  have sl := sa_cons he (sa_cons hf (sa_nil (K := K) (B := B)))
  have := sl F H σ γ (fun vs H2 => ∃ x y, vs = [x, y] ∧ ∃ a C dx fs sp, x = .ref a ∧ H2 a = some (.ins C dx fs) ∧ ODisp P w K mg base CX0 km op C sp ∧ Rgt K C op H2 y ∧ sp [x, y] H2 Q E0) _ R hq fun vs F1 H1 γ1 rs R1 e1 o1 h1 => by
    split at h1
    · rename_i s t
      split at h1
      · rename_i C fl es
        obtain ⟨fs, ht, hg, hn, h6⟩ := h1
        cases o1 with
        | cons o2 o3 => cases o3 with
          | cons o3 o4 => cases o4 with
            | nil =>
              rename_i x y
              have r := o2.rs R1
              rw [es] at r
              obtain ⟨a, dx, fv, rfl, q2, q3⟩ := r.obj R1.fh
              obtain ⟨d1, d2⟩ := hd C fs ht
              refine ⟨_, _, rfl, a, _, dx, fv, _, rfl, q2, d1, rgt_of R1.fh d2 (o3.rs R1) hg, ?_⟩
              have oo : Paired (RsOk K B F1 H1 σ γ1) [.ref a, y] [s, t] := .cons o2 (.cons o3 .nil)
              obtain ⟨m', hm, RE⟩ := R1.args (dvs := []) (dds := []) oo .nil hn
              simp only [List.append_nil, List.map_nil] at RE
              refine ⟨rfl, F1, m', _, _, _, RE, h6, fun r as' v F4 H4 hp R4 ok hk => ?_⟩
              obtain ⟨R5, e5, ok5⟩ := R1.called oo hn (fun i v hv => hv) hm R4
              exact k v F4 H4 _ r R5 (e1.trans e5) (ok5 v r hk ok) hp
      · exact h1.elim
    · exact h1.elim
  unfold tOpO
  refine Eq.mp ?_ this
  unfold tCons tNil
  congr 1
  funext x H1
  congr 1
  funext y H2
  exact propext ⟨fun ⟨x', y', e, h⟩ => by cases e; exact h, fun h => ⟨x, y, rfl, h⟩⟩
theorem se_opOX {ct : Nat → Addr} {W : WX} {xc : DX} {tb : MTX} (hd : ∀ C fs, tb C = some fs → ODisp P w K mg base (L2N.CX P w) km op (ctOf K C) (spOfX K ct 2 fs) ∧ OpTys K (ctOf K C) op) (xo : XOk K ct B W xc) (he : SE K B te de) (hf : SE K B tf df) : SE K B (tOpO P w K mg base (L2N.CX P w) km op (WE W) te tf) (dOpOX xc tb (dCons de (dCons df dNil))) := fun F H σ γ Q q R hq k => by
  have sl := sa_cons he (sa_cons hf (sa_nil (K := K) (B := B)))
  have := sl F H σ γ (fun vs H2 => ∃ x y, vs = [x, y] ∧ ∃ a C dx fs sp, x = .ref a ∧ H2 a = some (.ins C dx fs) ∧ ODisp P w K mg base (L2N.CX P w) km op C sp ∧ Rgt K C op H2 y ∧ sp [x, y] H2 Q (WE W σ)) _ R hq fun vs F1 H1 γ1 rs R1 e1 o1 h1 => by
    split at h1
    · rename_i s t
      split at h1
      · rename_i C fl es
        obtain ⟨fs, ht, hg, hn, h6⟩ := h1
        cases o1 with
        | cons o2 o3 => cases o3 with
          | cons o3 o4 => cases o4 with
            | nil =>
              rename_i x y
              have r := o2.rs R1
              rw [es] at r
              obtain ⟨a, dx, fv, rfl, q2, q3⟩ := r.obj R1.fh
              obtain ⟨d1, d2⟩ := hd C fs ht
              refine ⟨_, _, rfl, a, _, dx, fv, _, rfl, q2, d1, rgt_of R1.fh d2 (o3.rs R1) hg, ?_⟩
              have oo : Paired (RsOk K B F1 H1 σ γ1) [.ref a, y] [s, t] := .cons o2 (.cons o3 .nil)
              have cc := call_core (W := WE W σ) (ct := ct) (n := 2) (fs := fs) (dvs := []) (dds := []) (q := q) .nil R1 oo (fun F' H' γ' nm dd fs R' xd hx => xo F' H' σ γ' nm dd fs R' xd hx) hn rfl (by simpa using h6) fun v F' H' γ' s' R' e' o' hq => k v F' H' γ' s' R' (e1.trans e') o' hq
              exact cc
      · exact h1.elim
    · exact h1.elim
  unfold tOpO
  refine Eq.mp ?_ this
  unfold tCons tNil
  congr 1
  funext x H1
  congr 1
  funext y H2
  exact propext ⟨fun ⟨x', y', e, h⟩ => by cases e; exact h, fun h => ⟨x, y, rfl, h⟩⟩
end
section
variable {X : Cx} {B : Bs} {a b : Expr} {te tf : TE} {de df : DE} {km : Nat} {op : Operator} {pos : Pos}
theorem x_opO (P : Program) (w : World) (K : PySem.W.Frag) (mg : Str → Option Value) (base : Heap) (hX : (X.prog, X.w, X.K, X.mg, X.base) = (P, w, K, mg, base)) (hr : Room km X.A) {tb : MT} (hd : ∀ C fs, tb C = some fs → ODisp P w K mg base CX0 km op (ctOf K C) (spOf K 2 fs) ∧ OpTys K (ctOf K C) op) (ha : XE X B a te de) (hb : XE X B b tf df) :
    XE X B (.BinOp a op b pos) (tOpO P w K mg base CX0 km op (fun _ => E0) te tf) (dOpO tb (dCons de (dCons df dNil))) := by
  cases hX
  exact ⟨pe_opO ha.pe hb.pe hr (fun _ _ _ _ _ _ h => pass0 _ _ _ _ _ _ h), se_opO hd ha.se hb.se⟩
theorem x_opOX (P : Program) (w : World) (K : PySem.W.Frag) (mg : Str → Option Value) (base : Heap) (hX : (X.prog, X.w, X.K, X.mg, X.base) = (P, w, K, mg, base)) (hr : Room km X.A) {ct : Nat → Addr} {W : WX} {xc : DX} {tb : MTX} (xo : XOk K ct B W xc) (tk : L2N.Takes X W) (hd : ∀ C fs, tb C = some fs → ODisp P w K mg base (L2N.CX P w) km op (ctOf K C) (spOfX K ct 2 fs) ∧ OpTys K (ctOf K C) op) (ha : XE X B a te de) (hb : XE X B b tf df) :
    XE X B (.BinOp a op b pos) (tOpO P w K mg base (L2N.CX P w) km op (WE W) te tf) (dOpOX xc tb (dCons de (dCons df dNil))) := by
  cases hX
  exact ⟨pe_opO ha.pe hb.pe hr (fun σ => L2N.passAt tk σ), se_opOX hd xo ha.se hb.se⟩
end
/-! C(..), __init__ may raise, not here -/
def dMakeN (C : String) (n : Nat) (fs : FSX) (dds : List D) (da : DA) (γ : Env) (q : RS → Env → Prop) : Prop := da γ fun rs γ1 => allV rs ∧ rs.length + dds.length + 1 = n ∧
  fs (.own (some 0) (.ins C []) :: ((rs.map RS.data).map Sx.val ++ dds.map Sx.val)) (fun r as' => r = .val .non ∧ match as' with
    | .own _ (.ins C' fs') :: _ => C' = C ∧ q (.new (.ins C fs')) γ1
    | _ => False) fun _ _ _ => False
theorem se_makeN {K : PySem.W.Frag} {B : Bs} {ct : Nat → Addr} {C : String} {n : Nat} {fs : FSX} {dvs : List V} {dds : List D} {ta : TA} {da : DA} (h : SA K B ta da) (od : Paired (fun v d => ∀ z F, Rp ⟨K, z⟩ F v d) dvs dds) : SE K B (tMake (ctOf K C) (spOfX K ct n fs) dvs E0 ta) (dMakeN C n fs dds da) := fun F H σ γ Q q R hq k => by
  refine h F H σ γ _ _ R hq fun vs F1 H1 γ1 rs R1 e1 o1 ⟨h0, h2, h3⟩ x dx hx hdx ne => ?_
  have all : RpAll (B.kz K) F1 (vs ++ dvs) (rs.map RS.data ++ dds) := RpAll.of (P_app (allV_rp o1 h0).p (P_mono (fun v d z => z _ _) od))
  let Z : ZN (upd (upd H1 dx (.own x)) x (.ins (ctOf K C) dx [])) := ⟨B.z, fun a ha => by
    obtain ⟨o, e⟩ := R1.znp a ha
    have n1 : a ≠ x := fun z => by subst z; rw [hx] at e; cases e
    have n2 : a ≠ dx := fun z => by subst z; rw [hdx] at e; cases e
    exact ⟨o, by rw [upd_ne n1, upd_ne n2]; exact e⟩⟩
  have RE := make_entry (C := C) R1.fh all hx hdx ne Z rfl
  rw [List.map_append] at RE
  refine ⟨by simp only [List.length_cons, List.length_append]; rw [P_len o1, P_len od]; omega, F1, _, Z, _, _, _, RE, h3, fun r as' v F3 H3 ⟨hr, hp⟩ R3 ok hk => ?_, fun nm xs dd as' F2 H2 hx => hx.elim⟩
  subst hr
  split at hp
  · rename_i p C' fs' rest
    obtain ⟨rfl, hp⟩ := hp
    obtain ⟨R4, e4, o4⟩ := make_exit R1 hx hdx ne rfl R3
    have ok' : Rp _ F3 v .non := ok
    cases ok'
    exact ⟨rfl, k _ F3 H3 γ1 _ R4 (e1.trans e4) o4 hp⟩
  · exact hp.elim
theorem x_makeN {X : Cx} {B : Bs} {ct : Nat → Addr} {a : Expr} {es : List Expr} {ta : TA} {da : DA} {k n : Nat} {C : String} {f : Addr} {fd : FuncData} {ps : List Str} {fs : FSX} {x : Str} {p pos : Pos} (K : PySem.W.Frag) (hK : X.K = K) (M : Mk X.K (ctOf X.K C) f) (G : FnOk X.prog X.w X.K X.mg X.base (L2N.CX X.prog X.w) k f fd ps (spOfX X.K ct n fs)) (hr : Room (k + 1) X.A) (hm : X.mg x = some (.ref (ctOf X.K C))) (hb : Binds X.K fd ps []) (h : XA X B (a :: es) ta da)
    (hg : Gl X x := by rfl) (hdb : (x == ("__debug__" : Str)) = false := by decide) (he : starEach (a :: es) X.env = (false, eval a X.env) :: starEach es X.env := by rfl) (hpl : (backTo pos (starEach es X.env)).any (·.1) = false := by rfl) :
    XE X B (.Call (.Name x p) (a :: es) [] pos) (tMake (ctOf K C) (spOfX K ct n fs) [] E0 ta) (dMakeN C n fs [] da) := by
  subst hK
  exact ⟨pe_make M G hr hg hm hb .nil passN h.pa hdb he hpl, se_makeN h.sa .nil⟩
end DL

set_option Elab.async false
set_option linter.all false
set_option maxRecDepth 100000
set_option maxHeartbeats 2000000
/-! ### enumerate(a tuple) -/
namespace PySem
open Sem (wp)
theorem dl_enum_new {v : Value} {ob : Obj} {Hh : Heap → Prop} (B : Begins v ob Hh) : Meets (Builtin.«enumerate.__new__» ⟨[.type "enumerate", v], []⟩) fun _ R s' => Hh s'.heap ∧
    R (.ok (.ret (.ref (s'.heap.push ob).objs.size))) { s' with heap := (s'.heap.push ob).push ⟨.type "enumerate", none, .fields #[.none, .bool false, .ref s'.heap.objs.size, rawInt 0, .none, .none], #[]⟩ } := .of_wp fun P w A R s' hh => by
  obtain ⟨hp, gs, dr, tk, os⟩ := s'
  obtain ⟨h1, hh⟩ := hh
  have hsub := sub_enumerate
  have go : ∀ {A' : Around} {E' Q' : Value → Shared → Prop}, Q' (.ref hp.objs.size) ⟨hp.push ob, gs, dr, tk, os⟩ → wpAny (model P w) A' (pyIter v) Q' E' ⟨hp, gs, dr, tk, os⟩ := fun q => B.iter P w _ _ ⟨hp, gs, dr, tk, os⟩ _ h1 q
  wp_walk using go
  refine wpAny_stack_any fun _ => wpAny_pure ?_
  split
  · rename_i cc _ _ _ _ _
    cases (cc == Value.type "enumerate") <;> (wp_walk using go; exact ⟨_, rfl, hh⟩)
  · wp_walk using go
    exact ⟨_, rfl, hh⟩
theorem dl_enum_call {P : Program} {w : World} {A : Around} {E : Value → Shared → Prop} {s' : Shared} {v : Value} {ob : Obj} {Hh : Heap → Prop} {Q : Value → Shared → Prop} (B : Begins v ob Hh) (h1 : Hh s'.heap)
    (k : ∀ g : Heap, IsEnum g (s'.heap.objs.size + 1) s'.heap.objs.size 0 .none → g.get? s'.heap.objs.size = some ob → g.objs.size = s'.heap.objs.size + 2 → (∀ b o, s'.heap.get? b = some o → g.get? b = some o) → Q (.ref (s'.heap.objs.size + 1)) { s' with heap := g }) :
    wpAny (model P w) A (call (.type "enumerate") [v]) Q E s' := by
  have z1 : (s'.heap.push ob).objs.size = s'.heap.objs.size + 1 := Heap.size_push ..
  refine callType_new F.called_enumerate (by decide) (F.typeCall_enumerate_1 v) (F.newCall_enumerate_1 v) (fun x => F.args_object_init_2 x v) F.entry_enumerate_new (dl_enum_new B) ⟨h1, ?_⟩
  show _ ∧ _
  have at1 := Heap.get?_push_size (s'.heap.push ob) (o := ⟨.type "enumerate", none, .fields #[.none, .bool false, .ref s'.heap.objs.size, rawInt 0, .none, .none], #[]⟩) rfl
  rw [z1] at at1 ⊢
  exact ⟨⟨_, at1, rfl⟩, k _ at1 (Heap.get?_push_of_some _ (Heap.get?_push_size _ B.free)) (by rw [Heap.size_push, z1]) fun b o x => Heap.get?_push_of_some _ (Heap.get?_push_of_some _ x)⟩
end PySem
namespace DL
open PySem PySem.Spec PyProof.Rows L2
open Evl (Ex ex_l ex_t)
/-- the items of the tuple at a, counted -/
def ItT (K : PySem.W.Frag) (a : Addr) : It :=
  ⟨fun i H => ∃ (ws : List V) (y : V), SqT K H a ws ∧ ws[i]? = some y, fun i H v H' => ∃ t y, v = .ref t ∧ H t = none ∧ H' = upd H t (.tup [.int (i : Nat), y]) ∧ ∀ ws, SqT K H a ws → ws[i]? = some y, fun i H => ∃ ws : List V, SqT K H a ws ∧ ws.length ≤ i⟩
theorem turn_enT {P : Program} {w : World} {K : PySem.W.Frag} {els : List Expr} {k0 : Nat} {tp : Pos} (a e j : Addr) :
    Turn P w K (.Tuple els k0 tp) (ItT K a) [e, j] e (fun i h => (∃ u, IsEnum h e j ((i : Nat) : Int) u) ∧ h.IsTupleIter j a i ∧ e ≠ j ∧ a ≠ j ∧ a ≠ e) where
  mem := List.mem_cons_self
  obj := fun i h st b hb => by
    obtain ⟨⟨u, he⟩, ⟨o, ho, _, hd⟩, _⟩ := st
    have hb2 : b = e ∨ b = j := by simpa using hb
    rcases hb2 with rfl | rfl
    · exact ⟨_, he, fun v q => nomatch q⟩
    · exact ⟨o, ho, fun v q => by rw [hd] at q; cases q⟩
  keep := fun i h h' st kk => by
    obtain ⟨⟨u, he⟩, hj, n1, n2, n3⟩ := st
    exact ⟨⟨u, kk e (by simp) _ he⟩, hj.at fun o q => kk j (by simp) o q, n1, n2, n3⟩
  item := by
    rintro X rfl rfl rfl hc i pins s σ H E I hf ⟨⟨u, he⟩, hj, n1, n2, n3⟩ ⟨ws, y, hq, hy⟩
    obtain ⟨its, rv, tp', _⟩ := I.tuple hq
    obtain ⟨z, hz, rz⟩ := rv.get hy
    have iz : i < its.length := (List.getElem?_eq_some_iff.mp hz).1
    have he1 : e < s.heap.objs.size := Heap.lt_size he
    have hj1 : j < s.heap.objs.size := let ⟨_, q, _⟩ := hj; Heap.lt_size q
    have D := Draws.tuple (prog := X.prog) (w := X.w) (A := X.A.in1) (I.ok.hd hc) j a n2 its.toArray
    refine wpAny_pyNext_enum_itemC D he ⟨hj, tp'⟩ (by simpa using iz) n1 (by simp; exact ⟨n1, Ne.symm n3⟩) fun x g tk hx ho st1 hT hsz hk => ?_
    have ex : x = z := by
      have hx' : its[i]? = some x := by simpa using hx
      rw [hz] at hx'
      exact (Option.some.inj hx').symm
    subst ex
    refine ⟨_, rfl, wpAny_letOwnedTupleGo_enum (s := { s with heap := g, toks := tk + 1 }) ho fun g2 he2 sb => ?_⟩
    have hT2 : g2.get? s.heap.objs.size = some { cls := .type "tuple", data := .seq #[.int i tk, x] } := (sb.2 _ (Nat.ne_of_gt he1)).trans hT
    have nw : ObjOk X.prog X.w (upd H s.heap.objs.size (.tup [.int (i : Nat), y])) g2 s.heap.objs.size (.tup [.int (i : Nat), y]) := ⟨by show 2 ≤ sizeLine; decide, [.int i tk, x], .cons ⟨_, rfl⟩ (.cons rz .nil), ⟨_, hT2, rfl, _, rfl⟩⟩
    have I2 : Inv X pins σ (upd H s.heap.objs.size (.tup [.int (i : Nat), y])) { s with heap := g2, toks := tk + 1 } := I.turnedNew (ch := [e, j]) (fun b ob hb q => by
      have m1 : b ≠ e := fun r => hb (by simp [r])
      have m2 : b ≠ j := fun r => hb (by simp [r])
      exact (sb.2 b m1).trans (hk b ob m1 m2 q)) hf (Nat.le_refl _) nw
    refine ⟨.ref s.heap.objs.size, _, I2, rfl, ⟨_, y, rfl, I.hok.fresh (Nat.le_refl _), rfl, fun vs hv => by rw [I.tuple_inj hv hq]; exact hy⟩, ⟨⟨x, ?_⟩, st1.1.at fun o q => (sb.2 j (Ne.symm n1)).trans q, n1, n2, n3⟩, fun b hb => ?_⟩
    · rw [show ((i + 1 : Nat) : Int) = (i : Int) + 1 by omega]
      exact he2
    · have hb1 : b < s.heap.objs.size := by
        have hb2 : b = e ∨ b = j := by simpa using hb
        rcases hb2 with rfl | rfl
        · exact he1
        · exact hj1
      rw [upd_ne (Nat.ne_of_lt hb1)]
      exact (hf b hb).1
  done := by
    rintro X rfl rfl rfl hc i pins s σ H E I hf ⟨⟨u, he⟩, hj, n1, n2, n3⟩ ⟨ws, hq, hy⟩
    obtain ⟨its, rv, tp', _⟩ := I.tuple hq
    obtain ⟨f0, f1, f2, f3, f4, f5⟩ := hf j (by simp)
    have lw := rv.length
    have none_ : its.toArray[i]? = none := by simp; omega
    have D : Draws X.prog X.w X.A.in1 j [j, a] i (fun _ _ => True) (fun k h => k = i ∧ h.IsTupleIter j a i ∧ h.IsTuple a its.toArray) := {
      live := fun _ _ st => let ⟨o, ho, _⟩ := st.2.1; ⟨o, ho⟩
      frame := fun _ _ _ st hk => ⟨st.1, st.2.1.at fun o q => hk j (by simp) o q, st.2.2.at fun o q => hk a (by simp) o q⟩
      item := fun k s' Q' E' hk st _ => absurd hk (by have := st.1; omega)
      done := fun s' Q' E' st hE => wpAny_nextOf_tuple_end (I.ok.hd hc) st.2.1 st.2.2 none_ hE }
    exact wpAny_pyNext_enum_endD D he ⟨rfl, hj, tp'⟩ fun g xb => ⟨rfl, I.turned (t' := s.toks) (fun b o hb q => xb b o hb q) f0 f1 f3 f4 f5⟩
  self := fun A i s Q E st h => by
    obtain ⟨⟨u, he⟩, _⟩ := st
    exact wpAny_pyIter_enum he h
def iEnT (K : PySem.W.Frag) (ta : TA) : TI := fun σ H R => ta σ H fun vs H1 => ∃ a ws, vs = [.ref a] ∧ SqT K H1 a ws ∧ R (ItT K a) H1
theorem pi_enT {X : Cx} {e : Expr} {ta : TA} {p pos tp : Pos} {els : List Expr} {k0 : Nat} (hg : Gl X "enumerate") (hm : X.mg "enumerate" = none) (ha : PA X [e] ta) (hs : starEach [e] X.env = [(false, eval e X.env)] := by rfl) :
    PI X (.Tuple els k0 tp) (.Call (.Name "enumerate" p) [e] [] pos) (iEnT X.K ta) := ⟨fun pins s σ H R I h => by
  refine Call_ (ld_blt I hg hm boot_enumerate (PyProof.Rows.callWith_type1 (thn (ha.run pos pins s σ H _ I h) fun us s1 ⟨vs, H1, I1, r1, a, ws, ev, hq, q⟩ => ?_) hs rfl))
  subst ev
  rw [Vals.ref1 r1]
  obtain ⟨its, rv, tp', _⟩ := I1.tuple hq
  have la : a < s1.heap.objs.size := let ⟨_, x, _⟩ := tp'; Heap.lt_size x
  refine dl_enum_call (begins_tuple a its.toArray) tp' fun g he hi hz hk => wpAny_pyIter_enum he ?_
  refine ⟨s1.heap.objs.size + 1, [s1.heap.objs.size + 1, s1.heap.objs.size], _, _, H1, rfl, I1.kept (t' := s1.toks) hk, turn_enT a (s1.heap.objs.size + 1) s1.heap.objs.size, ⟨⟨.none, he⟩, ⟨_, hi, rfl, rfl⟩, Nat.succ_ne_self _, Nat.ne_of_lt la, Nat.ne_of_lt (Nat.lt_succ_of_lt la)⟩, fun b hb => ?_, q⟩
  have lb : s1.heap.objs.size ≤ b := by
    have hb2 : b = s1.heap.objs.size + 1 ∨ b = s1.heap.objs.size := by simpa using hb
    rcases hb2 with rfl | rfl
    · exact Nat.le_succ _
    · exact Nat.le_refl _
  exact I1.fpOk lb (I1.hok.fresh lb)⟩
def dIET (da : DA) (γ : Env) (r : Nat → (Nat → D → Prop) → Env → Prop) : Prop := da γ fun rs γ1 => allV rs ∧ match rs.map RS.data with
  | [.tup xs] => r xs.length (fun i d => ∃ x, xs[i]? = some x ∧ d = .tup [.int i, x]) γ1
  | _ => False
theorem si_enT {K : PySem.W.Frag} {B : Bs} {ta : TA} {da : DA} (h : SA K B ta da) : SI K B (iEnT K ta) (dIET da) := fun F H σ γ W r R hq k => by
  refine h F H σ γ _ _ R hq fun vs F1 H1 γ1 rs R1 e1 o1 ⟨hv, h1⟩ => ?_
  split at h1
  · rename_i xs es
    have ra := allV_rp o1 hv
    rw [es] at ra
    cases ra with
    | cons r1 t => cases t with
      | nil =>
        cases r1 with
        | @tup a va _ ha ra =>
          refine ⟨_, va, rfl, ex_t R1.fh ha, k _ F1 H1 γ1 _ _ R1 e1 ⟨fun B F H σ γ i R e hi => ?_, fun B F H σ γ i x H' R e hi ⟨T, x1, hx, hT, hH, f1⟩ hz => ?_, fun B F H σ γ i R e hi => ?_⟩ h1⟩
          · have l1 : i < va.length := by rw [ra.length]; omega
            exact ⟨va, _, ex_t (e.trans R.fh) ha, List.getElem?_eq_getElem l1⟩
          · subst hx; subst hH
            obtain ⟨d1, q1, s1⟩ := P_getL ra.p (f1 va (ex_t (e.trans R.fh) ha))
            obtain ⟨R', ex, rp⟩ := R.newT hT (.cons (.int (i : Nat)) (.cons ((s1.mono e).zz hz) .nil))
            exact ⟨_, _, R', ex, rp, d1, q1, rfl⟩
          · exact ⟨va, ex_t (e.trans R.fh) ha, by rw [ra.length]; omega⟩
  · exact h1.elim
theorem i_enT {X : Cx} {B : Bs} {a : Expr} {ta : TA} {da : DA} {p pos : Pos} {elts : List Expr} {kk : Nat} {tpos : Pos} (hm : X.mg "enumerate" = none) (h : XA X B [a] ta da) (hg : Gl X "enumerate" := by rfl) (hs : starEach [a] X.env = [(false, eval a X.env)] := by rfl) :
    XI X B (.Tuple elts kk tpos) (.Call (.Name "enumerate" p) [a] [] pos) (iEnT X.K ta) (dIET da) := ⟨pi_enT hg hm h.pa hs, si_enT h.sa⟩
end DL

set_option Elab.async false
set_option linter.all false
set_option maxRecDepth 100000
set_option maxHeartbeats 2000000
/-! ### texts: the module's own, walked, joined; tests of dicts -/
namespace DL
open PySem PySem.Spec PyProof.Rows L2
open Evl (Ex ex_l ex_t)
theorem x_gstr {X : Cx} {B : Bs} {x z : Str} {t : Tok} {pos : Pos} (hm : X.mg x = some (.str z t)) (hg : Gl X x := by rfl) (hd : (x == ("__debug__" : Str)) = false := by decide) : XE X B (.Name x pos) (tC (.str z)) (dC (.str z)) := x_glob hg hm ⟨_, rfl⟩ (fun _ _ => .str z) hd
/-! for c in a text -/
def dIS (de : DE) (γ : Env) (r : Nat → (Nat → D → Prop) → Env → Prop) : Prop := de γ fun s γ1 => match s.data with
  | .str x => r x.cps.size (fun i d => ∃ c, x.cps[i]? = some c ∧ d = .str ⟨#[c]⟩) γ1
  | _ => False
theorem si_str {K : PySem.W.Frag} {B : Bs} {te : TE} {de : DE} (he : SE K B te de) : SI K B (iStr te) (dIS de) := fun F H σ γ W r R hq k => by
  refine he F H σ γ _ _ R hq fun v F1 H1 γ1 s R1 e1 o1 h1 => ?_
  split at h1
  · rename_i x es
    have rv := o1.rs R1
    rw [es] at rv
    refine ⟨x, rv.str, k _ F1 H1 γ1 _ _ R1 e1 ⟨fun B F H σ γ i R e hi => hi, fun B F H σ γ i y H' R e hi ⟨hH, c, hc, hy⟩ hz => ?_, fun B F H σ γ i R e hi => hi⟩ h1⟩
    subst hH; subst hy
    exact ⟨F, _, R, Evl.Ex.refl F, .str _, c, hc, rfl⟩
  · exact h1.elim
theorem i_str {X : Cx} {B : Bs} {tg e : Expr} {te : TE} {de : DE} (h : XE X B e te de) : XI X B tg e (iStr te) (dIS de) := ⟨pi_str h.pe, si_str h.se⟩
/-! sep.join(list) -/
def strsD : List D → Option (List Str)
  | [] => some []
  | .str x :: r => (strsD r).map (x :: ·)
  | _ :: _ => none
theorem strsD_map (xs : List Str) : strsD (xs.map D.str) = some xs := by
  induction xs with
  | nil => rfl
  | cons x xs ih => simp [strsD, ih]
theorem strsD_of : ∀ {ds : List D} {xs : List Str}, strsD ds = some xs → ds = xs.map D.str
  | [], xs, h => by cases h; rfl
  | d :: ds, xs, h => by
    cases d <;> first | (exfalso; simp [strsD] at h; done) | skip
    rename_i x
    simp only [strsD] at h
    obtain ⟨ys, h1, rfl⟩ := Option.map_eq_some_iff.mp h
    rw [strsD_of h1]
    rfl
def dJoin (de da : DE) (γ : Env) (q : RS → Env → Prop) : Prop := de γ fun s γ1 => match s.data with
  | .str a => da γ1 fun t γ2 => seqD t.data fun ds => ∃ ys, strsD ds = some ys ∧ (ys.map (·.length)).sum + ys.length * a.length ≤ 1000000 ∧ q (.val (.str (Txt.join a ys))) γ2
  | _ => False
def rJoin (K : PySem.W.Frag) : V → List V → Hp → VK → Prop := fun x xs H Q => ∃ a p, ∃ ys : List Str, x = .str a ∧ xs = [.ref p] ∧ (SqL K H p (ys.map V.str) ∨ SqT K H p (ys.map V.str)) ∧ (ys.map (·.length)).sum + ys.length * a.length ≤ 16777216 ∧ Q (.str (Txt.join a ys)) H
theorem se_join {K : PySem.W.Frag} {B : Bs} {te ta : TE} {de da : DE} (he : SE K B te de) (ha : SE K B ta da) : SE K B (tM1 (rJoin K) te ta) (dJoin de da) := fun F H σ γ Q q R hq k => by
  refine he F H σ γ _ _ R hq fun x F1 H1 γ1 s R1 e1 o1 h1 => ?_
  split at h1
  · rename_i a es
    have rx := o1.rs R1
    rw [es] at rx
    have hx := rx.str
    subst hx
    refine ⟨⟨a, rfl⟩, ha F1 H1 σ γ1 _ _ R1 h1 fun y F2 H2 γ2 t R2 e2 o2 h2 => ?_⟩
    obtain ⟨ds, hd, ys, hy, hl, hq⟩ := seqD_of h2
    obtain ⟨p, vs, rfl, hs, ra⟩ := (o2.rs R2).seq R2.fh hd
    rw [strsD_of hy] at ra
    rw [rp_strs ra] at hs
    exact ⟨a, p, ys, rfl, rfl, hs, Nat.le_trans hl (by decide), k _ F2 H2 γ2 (.val (.str (Txt.join a ys))) R2 (e1.trans e2) (Rp.str _) hq⟩
  · exact h1.elim
theorem x_join {X : Cx} {B : Bs} {o e : Expr} {te ta : TE} {de da : DE} {apos pos : Pos} (ho : XE X B o te de) (he : XE X B e ta da) (hs : starEach [e] X.env = [(false, eval e X.env)] := by rfl) (hbase : attributeBase o "join" X.env (eval o X.env) = eval o X.env := by rfl) (hline : (apos.endLine == pos.line) = true := by rfl) :
    XE X B (.Call (.Attribute o "join" apos) [e] [] pos) (tM1 (rJoin X.K) te ta) (dJoin de da) := ⟨pe_join ho.pe he.pe hs hbase hline, se_join ho.se he.se⟩
/-! tests -/
section
variable {X : Cx} {B : Bs} {a b : Expr} {ta tb : TE} {da db : DE} {pos : Pos}
theorem t_din (hu : X.A.units + 1 < cLine) (ha : XE X B a ta da) (hb : XE X B b tb db) (hm : behindInMarks .In b = false := by first | exact nomark _ | rfl) : XT X B (.Compare a [.In] [b] pos) (tB (tOp (rDIn false) ta tb)) (dB (d2 (fDIn false) da db)) := ⟨pt_cmp (pc_din hu ha.pe hb.pe) hm, st_B (se_op od_din ha.se hb.se)⟩
theorem t_dnin (hu : X.A.units + 1 < cLine) (ha : XE X B a ta da) (hb : XE X B b tb db) (hm : behindInMarks .NotIn b = false := by first | exact nomark _ | rfl) : XT X B (.Compare a [.NotIn] [b] pos) (tB (tOp (rDIn true) ta tb)) (dB (d2 (fDIn true) da db)) := ⟨pt_cmp (pc_dnotin hu ha.pe hb.pe) hm, st_B (se_op od_din ha.se hb.se)⟩
end
end DL
namespace DL
theorem hu1 {n : Nat} (h : n + 64 < PySem.cLine) : n + 1 < PySem.cLine := by omega
end DL

set_option Elab.async false
set_option linter.all false
set_option maxRecDepth 100000
set_option maxHeartbeats 2000000
/-! ### o.f where the place's K shows only by looking (inside a comprehension) -/
namespace DL
open PySem PySem.Spec PyProof.Rows L2
theorem x_fldK {X : Cx} {B : Bs} {e : Expr} {te : TE} {de : DE} {tab : FT} {pos : Pos} (f : Str) {K : PySem.W.Frag} (ht : FtOk K tab) (h : XE X B e te de) (hK : X.K = K := by rfl) (hb : attributeBase e f X.env (eval e X.env) = eval e X.env := by rfl) : XE X B (.Attribute e f pos) (tFld K te f) (d1 (fFld tab f) de) := by
  subst hK; exact x_fld f ht h hb
/-! ### defs with defaults, called with every parameter given -/
structure FunV (K : PySem.W.Frag) (x qual : Str) (st : Stmt) (f : Addr) (fd : FuncData) : Prop where
  ex : ∃ (oc : Value) (od : Option Addr) (dV kV doc pm : Value) (an : Option Addr) (cdv ct : Value) (osl : Array (Option Value)),
    fd = PySem.W.fnOf x qual (defArgs st) (defBody st) (defScope st) dV kV doc pm an cdv ct ∧ K.lookup f = some ⟨oc, od, .func fd, osl⟩ ∧ PySem.W.codeIn K cdv qual = true
  kp : PySem.W.keepIn K (.ref f) = true
theorem funV_mk {K : PySem.W.Frag} {x qual : Str} {st : Stmt} {f : Addr} {oc : Value} {od an : Option Addr} {osl : Array (Option Value)} {dV kV doc pm cdv ct : Value} (l : K.lookup f = some ⟨oc, od, .func (PySem.W.fnOf x qual (defArgs st) (defBody st) (defScope st) dV kV doc pm an cdv ct), osl⟩)
    (c : PySem.W.codeIn K cdv qual = true) (k : PySem.W.keepIn K (.ref f) = true) : FunV K x qual st f (PySem.W.fnOf x qual (defArgs st) (defBody st) (defScope st) dV kV doc pm an cdv ct) := ⟨⟨oc, od, dV, kV, doc, pm, an, cdv, ct, osl, rfl, l, c⟩, k⟩
theorem bindsV {K : PySem.W.Frag} {ps : List Str} {fd : FuncData} {T : Addr} {ocT : Value} {odT : Option Addr} {its : Array Value} {n : Nat} {slT : Array (Option Value)} (lT : K.lookup T = some ⟨ocT, odT, .seq its n, slT⟩)
    (h : ∀ us : List Value, us.length = ps.length → ∃ k, bindArgs fd ⟨us, []⟩ = seqItems? (.ref T) >>= k ∧ k (some its) = pure (ps.zip us)) : Binds K fd ps [] := fun s us X hl => by
  rw [List.append_nil] at hl ⊢
  obtain ⟨k, e1, e2⟩ := h us hl
  refine L2.BindsTo.of_looks fun M => ?_
  rw [e1]
  exact looks_items X lT rfl (.of_pure e2)
section
variable {P : Program} {w : World} {K : PySem.W.Frag} {mg : Str → Option Value} {base : Heap} {ct : Nat → Addr}
theorem FunV.ok {x qual : Str} {st : Stmt} {f : Addr} {fd : FuncData} {N ps : List Str} {k : Nat} {sp : Sp} (F : FunV K x qual st f fd) (S : FnScope N ps (defScope st)) (len : ∀ vs H Q E, sp vs H Q E → vs.length = ps.length)
    (hbody : ∀ (cdv : Value) (A : Around) (outer : List PySem.Env) (s : Shared) (H : Hp) (vs : List V) (Q : VK) (E : XK), Room k (A.deeper (envOfC qual (defScope st) s.heap.objs.size f cdv)) → sp vs H Q E →
      ∃ t, PSs (cxOf CX0 P w K mg base N qual (defScope st) f cdv A outer s H E).nox (defBody st) t ∧ t { nx := fun _ H' => Q .non H', rt := Q } (L2.start N vs) H) : FnOk P w K mg base CX0 (k + 1) f fd ps sp := by
  obtain ⟨oc, od, dV, kV, doc, pm, an, cdv, ct, osl, rfl, lk, hcd⟩ := F.ex
  refine fn_of lk hcd S len fun A outer s H vs Q E hr hsp => ?_
  obtain ⟨t, h, q⟩ := hbody cdv A outer s H vs Q E hr hsp
  exact ⟨t, h.nox, q⟩
theorem fn_cxV {x qual : Str} {st : Stmt} {f : Addr} {fd : FuncData} {N ps : List Str} {k : Nat} {sp : Sp} (F : FunV K x qual st f fd) (S : FnScope N ps (defScope st)) (len : ∀ vs H Q E, sp vs H Q E → vs.length = ps.length)
    (body : ∀ (cd : Value) (A : Around) (o : List PySem.Env) (s : Shared) (H : Hp) (vs : List V) (Q : VK) (E : XK), Room k (A.deeper (envOfC qual (defScope st) s.heap.objs.size f cd)) → sp vs H Q E →
      ∃ t, PSs (cxOf (L2N.CX P w) P w K mg base N qual (defScope st) f cd A o s H E) (defBody st) t ∧ t { nx := fun _ H' => Q .non H', rt := Q } (L2.start N vs) H) : FnOk P w K mg base (L2N.CX P w) (k + 1) f fd ps sp := by
  obtain ⟨_, _, _, _, _, _, _, cd, _, _, e, lk, hc⟩ := F.ex
  subst e
  exact fn_of lk hc S len fun A o s H vs Q E r h => body cd A o s H vs Q E r h
/-- a def that may raise -/
theorem fn_okXV {x qual : Str} {st : Stmt} {f : Addr} {fd : FuncData} {N ps : List Str} {k n : Nat} {fs : FSX} {ds : DX → DS} (F : FunV K x qual st f fd) (S : FnScope N ps (defScope st)) (hn : ps.length = n) (hN : n ≤ N.length)
    (body : ∀ (B : Bs) (W : WX) (xc : DX) (cdv : Value) (A : Around) (outer : List PySem.Env) (s : Shared) (H : Hp) (E : XK), Room k (A.deeper (envOfC qual (defScope st) s.heap.objs.size f cdv)) → XOk K ct B W xc →
      L2N.Takes (cxOf (L2N.CX P w) P w K mg base N qual (defScope st) f cdv A outer s H E) W → ∃ ts, XSs (cxOf (L2N.CX P w) P w K mg base N qual (defScope st) f cdv A outer s H E) B (defBody st) ts (ds xc))
    (h : ∀ as p x, as.length = n → fs as p x → ds (xcOf as x) (endsOf as p) (startG N.length as)) : FnOk P w K mg base (L2N.CX P w) (k + 1) f fd ps (spOfX K ct n fs) := by
  refine fn_cxV F S (fun vs H Q E h => h.1.trans hn.symm) fun cdv A outer s H vs Q E hr hsp => ?_
  obtain ⟨hl, F0, m, z, as, p, x, R0, hf, hq, he⟩ := hsp
  have ha : as.length = n := by have := R0.len; rw [List.length_map] at this; omega
  have xo : XOk K ct (entry F0 H m z vs) (fun cls d _ H => E cls d H) (xcOf as x) := fun F' H' σ' γ' nm dd xs R' xd h1 => by
    obtain ⟨zs, ho, hp⟩ := outP h1
    exact he nm xs dd zs F' H' hp (R0.outs R' ho) xd
  obtain ⟨ts, b⟩ := body (entry F0 H m z vs) _ _ cdv A outer s H E hr xo (L2N.takes_of rfl rfl rfl rfl)
  refine ⟨ts, b.ps, ?_⟩
  refine b.ss F0 H _ _ _ (endsOf as p) (R0.start (by rw [hl]; exact hN)) (h as p x ha hf) ⟨fun F' H' σ' γ' R' _ h1 => ?_, fun F' H' σ' γ' v r R' _ o ⟨hk, h1⟩ => ?_, fun _ _ _ _ _ _ z => z, fun _ _ _ _ _ _ z => z⟩
  · obtain ⟨zs, ho, hp⟩ := outP h1
    exact hq (.val .non) zs .non F' H' hp (R0.outs R' ho) .non trivial
  · obtain ⟨zs, ho, hp⟩ := outP h1
    have R2 := R0.outs R' ho
    refine hq r zs v F' H' hp R2 ?_ hk
    cases r with
    | val d => exact o
    | own j c => exact hk.elim
    | new c =>
      obtain ⟨a, rfl, N⟩ := o
      refine ⟨a, rfl, N.fa, N.ok, N.bn, N.bm, fun i p' c' h1 h2 => ?_⟩
      obtain ⟨_, ok⟩ := R2.ownObj h1 h2
      have e1 : H a = none := N.bn
      obtain ⟨_, h3⟩ := outs_get ho
      rcases h3 i _ h1 with ⟨p2, c0, c2, e2, _, _⟩ | ⟨_, n2⟩
      · obtain ⟨_, ok2⟩ := R0.ownObj e2 h2
        obtain ⟨o, ho, _⟩ := ok2.obj
        rw [e1] at ho; cases ho
      · exact n2 p' c' rfl
theorem fn_okV {x qual : Str} {st : Stmt} {f : Addr} {fd : FuncData} {N ps : List Str} {k n : Nat} {fs : FS} {ds : DS} (F : FunV K x qual st f fd) (S : FnScope N ps (defScope st)) (hn : ps.length = n) (hN : n ≤ N.length)
    (body : ∀ (B : Bs) (cdv : Value) (A : Around) (outer : List PySem.Env) (s : Shared) (H : Hp) (E : XK), Room k (A.deeper (envOfC qual (defScope st) s.heap.objs.size f cdv)) → ∃ ts, XSs (cxOf CX0 P w K mg base N qual (defScope st) f cdv A outer s H E).nox B (defBody st) ts ds)
    (h : ∀ as p, as.length = n → fs as p → ds (endsOf as p) (startG N.length as)) : FnOk P w K mg base CX0 (k + 1) f fd ps (spOf K n fs) := by
  refine F.ok S (fun vs H Q E h => h.1.trans hn.symm) fun cdv A outer s H vs Q E hr hsp => ?_
  obtain ⟨hl, F0, m, z, as, p, R0, hf, hq⟩ := hsp
  obtain ⟨ts, b⟩ := body (entry F0 H m z vs) cdv A outer s H E hr
  refine ⟨ts, b.ps, ?_⟩
  have ha : as.length = n := by have := R0.len; rw [List.length_map] at this; omega
  refine b.ss F0 H _ _ _ (endsOf as p) (R0.start (by rw [hl]; exact hN)) (h as p ha hf) ⟨fun F' H' σ' γ' R' _ h1 => ?_, fun F' H' σ' γ' v r R' _ o ⟨hk, h1⟩ => ?_, fun _ _ _ _ _ _ z => z, fun _ _ _ _ _ _ z => z⟩
  · obtain ⟨zs, ho, hp⟩ := outP h1
    exact hq (.val .non) zs .non F' H' hp (R0.outs R' ho) .non trivial
  · obtain ⟨zs, ho, hp⟩ := outP h1
    have R2 := R0.outs R' ho
    refine hq r zs v F' H' hp R2 ?_ hk
    cases r with
    | val d => exact o
    | own j c => exact hk.elim
    | new c =>
      obtain ⟨a, rfl, N⟩ := o
      refine ⟨a, rfl, N.fa, N.ok, N.bn, N.bm, fun i p' c' h1 h2 => ?_⟩
      obtain ⟨_, ok⟩ := R2.ownObj h1 h2
      have e1 : H a = none := N.bn
      obtain ⟨_, h3⟩ := outs_get ho
      rcases h3 i _ h1 with ⟨p2, c0, c2, e2, _, _⟩ | ⟨_, n2⟩
      · obtain ⟨_, ok2⟩ := R0.ownObj e2 h2
        obtain ⟨o, ho, _⟩ := ok2.obj
        rw [e1] at ho; cases ho
      · exact n2 p' c' rfl
end
end DL

set_option Elab.async false
set_option linter.all false
set_option maxRecDepth 100000
set_option maxHeartbeats 2000000
/-! ### x in o, by the class's own __contains__; promises that nobody asks -/
namespace DL
open PySem PySem.Spec PyProof.Rows L2
open Evl (Ex ex_l ex_t)
inductive CDisp (P : Program) (w : World) (K : PySem.W.Frag) (mg : Str → Option Value) (base : Heap) (km : Nat) (C : Addr) (sp : Sp) : Prop
  | mk {k : Nat} {f : Addr} {fd : FuncData} {ps : List Str} : PySem.W.findIn K (.ref C) "__contains__" = some (some (.ref f)) → PySem.W.isFn K (.ref f) = true → FnOk P w K mg base CX0 k f fd ps sp → k ≤ km → Binds K fd ps [] → CDisp P w K mg base km C sp
def tInO (P : Program) (w : World) (K : PySem.W.Frag) (mg : Str → Option Value) (base : Heap) (km : Nat) (neg : Bool) (ta tb : TE) : TE := fun σ H Q => ta σ H fun y H1 => tb σ H1 fun x H2 => ∃ a C dx fs sp, x = .ref a ∧ H2 a = some (.ins C dx fs) ∧ CDisp P w K mg base km C sp ∧
  sp [x, y] H2 (fun r H3 => ∃ b, r = .bl b ∧ Q (.bl (if neg then !b else b)) H3) E0
section
variable {X : Cx} {km : Nat} {a b : Expr} {ta tb : TE}
theorem pc_inO (ha : PE X a ta) (hb : PE X b tb) (hr : Room km X.A) : PC X .In a b (tInO X.prog X.w X.K X.mg X.base km false ta tb) := by
  refine ⟨fun pins s σ H Q I h => ?_⟩
  refine thn (ha.run pins s σ H _ I h) fun iv s1 ⟨y, H1, I1, ry, q1⟩ => thn (hb.run pins s1 σ H1 _ I1 q1) fun u s2 ⟨x, H2, I2, rx, p, C, dx, fs, sp, ex, ea, dp, q⟩ => ?_
  subst ex
  obtain rfl : u = Value.ref p := rx
  obtain ⟨hs, hf, F, hk, hbd⟩ := dp
  obtain ⟨mA, O, _⟩ := ins_get I2.hok ea
  obtain ⟨od, J, _⟩ := O.look
  obtain ⟨m, fr⟩ := I2.fr
  have cl := run_fnS (us := [.ref p, iv]) (vs := [.ref p, y]) F (hr.mono hk) hbd (fun _ _ _ _ _ h => pass0 _ _ _ _ _ h) I2 (.cons rfl (.cons ry .nil)) q
  refine PySem.W.in_K fr I2.mod.kin J hs hf (wpAny_mono cl (fun v s' ⟨x', H', I', r', b, eb, hq⟩ => ?_) fun _ _ e => e)
  subst eb
  obtain rfl : v = Value.bool b := r'
  exact wpAny_pure ⟨.bl b, H', I', rfl, hq⟩
theorem pc_ninO (ha : PE X a ta) (hb : PE X b tb) (hr : Room km X.A) : PC X .NotIn a b (tInO X.prog X.w X.K X.mg X.base km true ta tb) := by
  refine ⟨fun pins s σ H Q I h => ?_⟩
  refine thn (ha.run pins s σ H _ I h) fun iv s1 ⟨y, H1, I1, ry, q1⟩ => thn (hb.run pins s1 σ H1 _ I1 q1) fun u s2 ⟨x, H2, I2, rx, p, C, dx, fs, sp, ex, ea, dp, q⟩ => ?_
  subst ex
  obtain rfl : u = Value.ref p := rx
  obtain ⟨hs, hf, F, hk, hbd⟩ := dp
  obtain ⟨mA, O, _⟩ := ins_get I2.hok ea
  obtain ⟨od, J, _⟩ := O.look
  obtain ⟨m, fr⟩ := I2.fr
  have cl := run_fnS (us := [.ref p, iv]) (vs := [.ref p, y]) F (hr.mono hk) hbd (fun _ _ _ _ _ h => pass0 _ _ _ _ _ h) I2 (.cons rfl (.cons ry .nil)) q
  refine PySem.W.notIn_K fr I2.mod.kin J hs hf (wpAny_mono cl (fun v s' ⟨x', H', I', r', b, eb, hq⟩ => ?_) fun _ _ e => e)
  subst eb
  obtain rfl : v = Value.bool b := r'
  exact wpAny_pure ⟨.bl (!b), H', I', rfl, hq⟩
end
/-- the value first, then the thing -/
def dInO (neg : Bool) (tb : MT) (l : DA) (γ : Env) (q : RS → Env → Prop) : Prop := l γ fun rs γ1 => match rs with
  | [t, s] => (match s.data with
    | .obj C fl => ∃ fs, tb C = some fs ∧ (ownIx [s, t]).Nodup ∧ fs (argsOf 0 [s, t]) fun r as' => ∃ b, r = .val (.bl b) ∧ q (.val (.bl (if neg then !b else b))) (upds γ1 [s, t] as')
    | _ => False)
  | _ => False
theorem se_inO {P : Program} {w : World} {K : PySem.W.Frag} {mg : Str → Option Value} {base : Heap} {km : Nat} {B : Bs} {neg : Bool} {te tf : TE} {de df : DE} {tb : MT} (hd : ∀ C fs, tb C = some fs → CDisp P w K mg base km (ctOf K C) (spOf K 2 fs)) (he : SE K B te de) (hf : SE K B tf df) :
    SE K B (tInO P w K mg base km neg te tf) (dInO neg tb (dCons de (dCons df dNil))) := fun F H σ γ Q q R hq k => by
  have sl := sa_cons he (sa_cons hf (sa_nil (K := K) (B := B)))
  have := sl F H σ γ (fun vs H2 => ∃ y x, vs = [y, x] ∧ ∃ a C dx fs sp, x = .ref a ∧ H2 a = some (.ins C dx fs) ∧ CDisp P w K mg base km C sp ∧ sp [x, y] H2 (fun r H3 => ∃ b, r = .bl b ∧ Q (.bl (if neg then !b else b)) H3) E0) _ R hq fun vs F1 H1 γ1 rs R1 e1 o1 h1 => by
    split at h1
    · rename_i t s
      split at h1
      · rename_i C fl es
        obtain ⟨fs, ht, hn, h6⟩ := h1
        cases o1 with
        | cons o3 o2 => cases o2 with
          | cons o2 o4 => cases o4 with
            | nil =>
              rename_i y x
              have r := o2.rs R1
              rw [es] at r
              obtain ⟨a, dx, fv, rfl, q2, q3⟩ := r.obj R1.fh
              refine ⟨_, _, rfl, a, _, dx, fv, _, rfl, q2, hd C fs ht, ?_⟩
              have oo : Paired (RsOk K B F1 H1 σ γ1) [.ref a, y] [s, t] := .cons o2 (.cons o3 .nil)
              obtain ⟨m', hm, RE⟩ := R1.args (dvs := []) (dds := []) oo .nil hn
              simp only [List.append_nil, List.map_nil] at RE
              refine ⟨rfl, F1, m', _, _, _, RE, h6, fun r as' v F4 H4 ⟨b, rb, hp⟩ R4 ok hk => ?_⟩
              obtain ⟨R5, e5, ok5⟩ := R1.called oo hn (fun i v hv => hv) hm R4
              subst rb
              obtain rfl : v = .bl b := by
                have z := ok.rs R4
                exact z.bl
              exact ⟨b, rfl, k _ F4 H4 _ (.val (.bl (if neg then !b else b))) R5 (e1.trans e5) (Rp.bl _) hp⟩
      · exact h1.elim
    · exact h1.elim
  unfold tInO
  refine Eq.mp ?_ this
  unfold tCons tNil
  congr 1
  funext y H1
  congr 1
  funext x H2
  exact propext ⟨fun ⟨x', y', e, h⟩ => by cases e; exact h, fun h => ⟨y, x, rfl, h⟩⟩
section
variable {X : Cx} {B : Bs} {a b : Expr} {te tf : TE} {de df : DE} {km : Nat} {pos : Pos}
theorem x_inO (P : Program) (w : World) (K : PySem.W.Frag) (mg : Str → Option Value) (base : Heap) (hX : (X.prog, X.w, X.K, X.mg, X.base) = (P, w, K, mg, base)) (hr : Room km X.A) {tb : MT} (hd : ∀ C fs, tb C = some fs → CDisp P w K mg base km (ctOf K C) (spOf K 2 fs)) (ha : XE X B a te de) (hb : XE X B b tf df) (hm : behindInMarks .In b = false := by first | exact nomark _ | rfl) :
    XE X B (.Compare a [.In] [b] pos) (tInO P w K mg base km false te tf) (dInO false tb (dCons de (dCons df dNil))) := by
  cases hX
  exact ⟨pe_cmp (pc_inO ha.pe hb.pe hr) hm, se_inO hd ha.se hb.se⟩
theorem x_ninO (P : Program) (w : World) (K : PySem.W.Frag) (mg : Str → Option Value) (base : Heap) (hX : (X.prog, X.w, X.K, X.mg, X.base) = (P, w, K, mg, base)) (hr : Room km X.A) {tb : MT} (hd : ∀ C fs, tb C = some fs → CDisp P w K mg base km (ctOf K C) (spOf K 2 fs)) (ha : XE X B a te de) (hb : XE X B b tf df) (hm : behindInMarks .NotIn b = false := by first | exact nomark _ | rfl) :
    XE X B (.Compare a [.NotIn] [b] pos) (tInO P w K mg base km true te tf) (dInO true tb (dCons de (dCons df dNil))) := by
  cases hX
  exact ⟨pe_cmp (pc_ninO ha.pe hb.pe hr) hm, se_inO hd ha.se hb.se⟩
theorem t_inO (P : Program) (w : World) (K : PySem.W.Frag) (mg : Str → Option Value) (base : Heap) (hX : (X.prog, X.w, X.K, X.mg, X.base) = (P, w, K, mg, base)) (hr : Room km X.A) {tb : MT} (hd : ∀ C fs, tb C = some fs → CDisp P w K mg base km (ctOf K C) (spOf K 2 fs)) (ha : XE X B a te de) (hb : XE X B b tf df) (hm : behindInMarks .In b = false := by first | exact nomark _ | rfl) :
    XT X B (.Compare a [.In] [b] pos) (tB (tInO P w K mg base km false te tf)) (dB (dInO false tb (dCons de (dCons df dNil)))) := by
  cases hX
  exact ⟨pt_cmp (pc_inO ha.pe hb.pe hr) hm, st_B (se_inO hd ha.se hb.se)⟩
theorem t_ninO (P : Program) (w : World) (K : PySem.W.Frag) (mg : Str → Option Value) (base : Heap) (hX : (X.prog, X.w, X.K, X.mg, X.base) = (P, w, K, mg, base)) (hr : Room km X.A) {tb : MT} (hd : ∀ C fs, tb C = some fs → CDisp P w K mg base km (ctOf K C) (spOf K 2 fs)) (ha : XE X B a te de) (hb : XE X B b tf df) (hm : behindInMarks .NotIn b = false := by first | exact nomark _ | rfl) :
    XT X B (.Compare a [.NotIn] [b] pos) (tB (tInO P w K mg base km true te tf)) (dB (dInO true tb (dCons de (dCons df dNil)))) := by
  cases hX
  exact ⟨pt_cmp (pc_ninO ha.pe hb.pe hr) hm, st_B (se_inO hd ha.se hb.se)⟩
end
/-- nobody asks -/
theorem fn_void {P : Program} {w : World} {K : PySem.W.Frag} {mg : Str → Option Value} {base : Heap} {CX : CXT} {k n : Nat} {f : Addr} {fd : FuncData} {ps : List Str} : FnOk P w K mg base CX k f fd ps (spOf K n fun _ _ => False) where
  len := fun vs H Q E h => by
    obtain ⟨_, _, _, _, _, _, _, z, _⟩ := h
    exact z.elim
  run := fun A outer s H args us vs Q E _ _ _ _ h => by
    obtain ⟨_, _, _, _, _, _, _, z, _⟩ := h
    exact z.elim
/-! xs.count(i) -/
def mCount (ds as : List D) (q : D → Prop) : Prop := match as with
  | [.int y] => ∃ ns : List Int, ds = ns.map D.int ∧ q (.int (ns.count y : Nat))
  | _ => False
theorem rd_count {K : PySem.W.Frag} : RdD K (rCntI K) mCount := fun z F H a vs ds xs as Q q eFH ha ra rx hf k => by
  unfold mCount at hf
  split at hf
  · obtain ⟨x, rfl, r1⟩ := one_rs rx.p
    cases r1
    obtain ⟨ns, rfl, h3⟩ := hf
    have ev := rp_ints ra
    subst ev
    exact ⟨a, _, _, rfl, rfl, Evl.sq_of ha, k _ _ (.int _) h3⟩
  · exact hf.elim
end DL

set_option Elab.async false
set_option linter.all false
set_option maxRecDepth 100000
set_option maxHeartbeats 2000000
/-! ### C.m(..), a classmethod that may raise -/
namespace DL
open PySem PySem.Spec PyProof.Rows L2
open Evl (Ex ex_l ex_t)
def tCM (C : Addr) (sp : Sp) (E : L2.St → XK) (t : TA) : TE := fun σ H Q => t σ H fun vs H2 => sp (.ref C :: vs) H2 Q (E σ)
section
variable {X : Cx} {CX : CXT} {k : Nat} {C p g : Addr} {mc : Value} {fd : FuncData} {ps : List Str} {sp : Sp} {E : L2.St → XK} {e : Expr} {es : List Expr} {x m : Str} {pos apos np : Pos} {t : TA} {pl : Sem Bool}
theorem run_fnC {f : Addr} {pins : List (Addr × Obj)} {σ : L2.St} {H : Hp} {s : Shared} {Q : VK} {us : List Value} {vs : List V} (F : FnOk X.prog X.w X.K X.mg X.base CX k f fd ps sp) (hr : Room k X.A) (hb : Binds X.K fd ps []) (hx : ∀ σ, PassesAt CX X σ (E σ))
    (I : Inv X pins σ H s) (r : Vals vs us) (h : sp vs H Q (E σ)) : codeAny (model X.prog X.w) X.A (.call (.ref f) ⟨us, []⟩) (fun r s' => match r with | .ok (.ret v) => EP X pins σ Q v s' | .ok _ => False | .error e => X.xe e s') s := by
  have hl : (us ++ []).length = ps.length := by rw [List.append_nil, ← r.length]; exact F.len _ _ _ _ h
  have hb' := hb s us I.kIn hl
  rw [List.append_nil] at hb'
  refine codeAny_mono (F.run X.A X.stack s H ⟨us, []⟩ us vs Q (E σ) hr I.env0 hb' r h) fun r s' hq => ?_
  cases r with
  | error e => exact hx σ pins H s e s' I hq
  | ok fl =>
    cases fl with
    | ret u => exact I.after hq
    | next => exact False.elim hq
    | brk => exact False.elim hq
    | cont => exact False.elim hq
theorem run_cmS {q : Addr} {pins : List (Addr × Obj)} {σ : L2.St} {H : Hp} {s : Shared} {Q : VK} {us : List Value} {vs : List V} (F : FnOk X.prog X.w X.K X.mg X.base CX k g fd ps sp) (hr : Room k X.A) (hb : Binds X.K fd ps []) (hx : ∀ σ, PassesAt CX X σ (E σ))
    (I : Inv X ((q, PySem.W.methodObj (.ref g) (.ref C)) :: pins) σ H s) (r : Vals vs us) (h : sp (.ref C :: vs) H Q (E σ)) : wpAny (model X.prog X.w) X.A (call (.ref q) us) (EP X pins σ Q) X.xe s := by
  have z : wpAny (model X.prog X.w) X.A (call (.ref q) us) (EP X ((q, PySem.W.methodObj (.ref g) (.ref C)) :: pins) σ Q) X.xe s :=
    wpAny_call (PySem.W.method_call (ClX.pin_at I) (run_fnC (us := .ref C :: us) (vs := .ref C :: vs) F hr hb hx I (.cons rfl r) h))
  exact thn z fun _ _ y => ClX.unpinE y
theorem pe_cmS {te : TE} {o : Expr} (he : PE X o te) (r : ClX.CRead X.K C mc) (c : ClX.CMet X.K C mc m p g) (F : FnOk X.prog X.w X.K X.mg X.base CX k g fd ps sp) (hr : Room k X.A) (hb : Binds X.K fd ps []) (hx : ∀ σ, PassesAt CX X σ (E σ)) (ha : PA X (e :: es) t)
    (hst : starEach (e :: es) X.env = (false, eval e X.env) :: starEach es X.env := by rfl) (hpl : (backTo pos (starEach es X.env)).any (·.1) = false := by rfl)
    (ht : eval (.Call (.Attribute o m apos) (e :: es) [] pos) X.env = (do
      let ov ← eval o X.env
      standAt apos.atName
      let (f, first) ← holding [ov] (getMethod ov m pl)
      callWith pos f first (backTo pos (starEach (e :: es) X.env)) (backToKw pos (keywordEach [] X.env))) := by rfl) :
    PE X (.Call (.Attribute o m apos) (e :: es) [] pos) (fun σ H Q => te σ H fun x H1 => x = .ref C ∧ tCM C sp E t σ H1 Q) := by
  refine ⟨fun pins s σ H Q I h => ?_⟩
  refine PySem.W.methodCall_KW (pl := pl) (thn (he.run pins s σ H _ I h) fun u s1 ⟨x, H1, I1, rx, ex, q⟩ => ?_) ht
  subst ex
  obtain rfl : u = Value.ref C := rx
  refine ClX.getmethcm_ok I1 r c fun s2 I2 => ?_
  refine ClX.callwith_cm I2 (ClX.base_none I1 (Nat.le_refl _)) c.fi (thn (ha.run pos _ s2 σ H1 _ I2 q) fun us s3 ⟨vs, H2, I3, rv, q2⟩ => ⟨⟨ClX.pin_at I3, I3.kIn⟩, ?_⟩) hst hpl
  exact run_cmS F hr hb hx I3 rv q2
end
def dCMX (xc : DX) (C : String) (n : Nat) (fs : FSX) (da : DA) (γ : Env) (q : RS → Env → Prop) : Prop := da γ fun rs γ1 => (ownIx rs).Nodup ∧ rs.length + 1 = n ∧
  fs (argsOf 0 (RS.val (.kls C) :: rs)) (fun r as' => q r (upds γ1 (RS.val (.kls C) :: rs) as')) fun nm xs as' => xc nm xs (upds γ1 (RS.val (.kls C) :: rs) as')
theorem se_cmX {K : PySem.W.Frag} {B : Bs} {ct : Nat → Addr} {C : String} {n : Nat} {fs : FSX} {W : WX} {xc : DX} {ta : TA} {da : DA} (h : SA K B ta da) (xo : XOk K ct B W xc) :
    SE K B (fun σ H Q => tC (.ref (ctOf K C)) σ H fun x H1 => x = .ref (ctOf K C) ∧ tCM (ctOf K C) (spOfX K ct n fs) (WE W) ta σ H1 Q) (dCMX xc C n fs da) := fun F H σ γ Q q R hq k => by
  refine ⟨rfl, h F H σ γ _ _ R hq fun vs F1 H1 γ1 rs R1 e1 o1 ⟨h1, h2, h3⟩ => ?_⟩
  have oo : Paired (RsOk K B F1 H1 σ γ1) (.ref (ctOf K C) :: vs) (RS.val (.kls C) :: rs) := .cons (Rp.kls C) o1
  have cc := call_core (W := WE W σ) (ct := ct) (n := n) (fs := fs) (dvs := []) (dds := []) (q := q) (Q := Q) .nil R1 oo (fun F' H' γ' nm dd fs R' xd hx => xo F' H' σ γ' nm dd fs R' xd hx) (by simpa [ownIx] using h1) (by simpa using h2) (by simpa using h3) fun v F' H' γ' s' R' e' o' hq => k v F' H' γ' s' R' (e1.trans e') o' hq
  rw [List.append_nil] at cc
  exact cc
section
variable {X : Cx} {B : Bs} {ct : Nat → Addr} {a : Expr} {es : List Expr} {ta : TA} {da : DA} {k n : Nat} {C : String} {mc : Value} {p g : Addr} {fd : FuncData} {ps : List Str} {fs : FSX} {x m : Str} {np apos pos : Pos} {W : WX} {xc : DX} {pl : Sem Bool}
theorem x_cmX (K : PySem.W.Frag) (hK : X.K = K) (xo : XOk X.K ct B W xc) (tk : L2N.Takes X W) (r : ClX.CRead X.K (ctOf X.K C) mc) (c : ClX.CMet X.K (ctOf X.K C) mc m p g) (G : FnOk X.prog X.w X.K X.mg X.base (L2N.CX X.prog X.w) k g fd ps (spOfX X.K ct n fs)) (hr : Room k X.A) (hb : Binds X.K fd ps []) (hm : X.mg x = some (.ref (ctOf X.K C))) (h : XA X B (a :: es) ta da)
    (hg : Gl X x := by rfl) (hdb : (x == ("__debug__" : Str)) = false := by decide) (hst : starEach (a :: es) X.env = (false, eval a X.env) :: starEach es X.env := by rfl) (hpl : (backTo pos (starEach es X.env)).any (·.1) = false := by rfl)
    (ht : eval (.Call (.Attribute (.Name x np) m apos) (a :: es) [] pos) X.env = (do
      let ov ← eval (.Name x np) X.env
      standAt apos.atName
      let (f, first) ← holding [ov] (getMethod ov m pl)
      callWith pos f first (backTo pos (starEach (a :: es) X.env)) (backToKw pos (keywordEach [] X.env))) := by rfl) :
    XE X B (.Call (.Attribute (.Name x np) m apos) (a :: es) [] pos) (fun σ H Q => tC (.ref (ctOf K C)) σ H fun x H1 => x = .ref (ctOf K C) ∧ tCM (ctOf K C) (spOfX K ct n fs) (WE W) ta σ H1 Q) (dCMX xc C n fs da) := by
  subst hK
  have o : XE X B (.Name x np) (tC (.ref (ctOf X.K C))) (dC (.kls C)) := x_glob hg hm rfl (fun z F => Rp.kls (K := ⟨X.K, z⟩) C) hdb
  exact ⟨pe_cmS (pl := pl) o.pe r c G hr hb (fun σ => L2N.passAt tk σ) h.pa hst hpl ht, se_cmX h.sa xo⟩
theorem se_cmN {K : PySem.W.Frag} {B : Bs} {ct : Nat → Addr} {C : String} {n : Nat} {fs : FSX} {ta : TA} {da : DA} (h : SA K B ta da) :
    SE K B (fun σ H Q => tC (.ref (ctOf K C)) σ H fun x H1 => x = .ref (ctOf K C) ∧ tCM (ctOf K C) (spOfX K ct n fs) (fun _ => E0) ta σ H1 Q) (dCMX (fun _ _ _ => False) C n fs da) := fun F H σ γ Q q R hq k => by
  refine ⟨rfl, h F H σ γ _ _ R hq fun vs F1 H1 γ1 rs R1 e1 o1 ⟨h1, h2, h3⟩ => ?_⟩
  have oo : Paired (RsOk K B F1 H1 σ γ1) (.ref (ctOf K C) :: vs) (RS.val (.kls C) :: rs) := .cons (Rp.kls C) o1
  have cc := call_core (W := E0) (ct := ct) (n := n) (fs := fs) (dvs := []) (dds := []) (q := q) (Q := Q) (xc := fun _ _ _ => False) .nil R1 oo (fun F' H' γ' nm dd fs R' xd hx => hx) (by simpa [ownIx] using h1) (by simpa using h2) (by simpa using h3) fun v F' H' γ' s' R' e' o' hq => k v F' H' γ' s' R' (e1.trans e') o' hq
  rw [List.append_nil] at cc
  exact cc
theorem x_cmN (K : PySem.W.Frag) (hK : X.K = K) (r : ClX.CRead X.K (ctOf X.K C) mc) (c : ClX.CMet X.K (ctOf X.K C) mc m p g) (G : FnOk X.prog X.w X.K X.mg X.base (L2N.CX X.prog X.w) k g fd ps (spOfX X.K ct n fs)) (hr : Room k X.A) (hb : Binds X.K fd ps []) (hm : X.mg x = some (.ref (ctOf X.K C))) (h : XA X B (a :: es) ta da)
    (hg : Gl X x := by rfl) (hdb : (x == ("__debug__" : Str)) = false := by decide) (hst : starEach (a :: es) X.env = (false, eval a X.env) :: starEach es X.env := by rfl) (hpl : (backTo pos (starEach es X.env)).any (·.1) = false := by rfl)
    (ht : eval (.Call (.Attribute (.Name x np) m apos) (a :: es) [] pos) X.env = (do
      let ov ← eval (.Name x np) X.env
      standAt apos.atName
      let (f, first) ← holding [ov] (getMethod ov m pl)
      callWith pos f first (backTo pos (starEach (a :: es) X.env)) (backToKw pos (keywordEach [] X.env))) := by rfl) :
    XE X B (.Call (.Attribute (.Name x np) m apos) (a :: es) [] pos) (fun σ H Q => tC (.ref (ctOf K C)) σ H fun x H1 => x = .ref (ctOf K C) ∧ tCM (ctOf K C) (spOfX K ct n fs) (fun _ => E0) ta σ H1 Q) (dCMX (fun _ _ _ => False) C n fs da) := by
  subst hK
  have o : XE X B (.Name x np) (tC (.ref (ctOf X.K C))) (dC (.kls C)) := x_glob hg hm rfl (fun z F => Rp.kls (K := ⟨X.K, z⟩) C) hdb
  exact ⟨pe_cmS (pl := pl) o.pe r c G hr hb (fun σ pins H s e s' => passN pins σ H s e s') h.pa hst hpl ht, se_cmN h.sa⟩
end
end DL

set_option Elab.async false
set_option linter.all false
set_option maxRecDepth 100000
set_option maxHeartbeats 2000000
/-! ### C(..) whose __init__ may raise, the class by its name or in a slot -/
namespace DL
open PySem PySem.Spec PyProof.Rows L2
open Evl (Ex ex_l ex_t)
def tMakeX (C : Addr) (sp : Sp) (dvs : List V) (E : L2.St → XK) (t : TA) : TE := fun σ H Q => t σ H fun vs H1 => ∀ x dx, H1 x = none → H1 dx = none → dx ≠ x →
  sp (.ref x :: (vs ++ dvs)) (upd (upd H1 dx (.own x)) x (.ins C dx [])) (fun v H2 => v = .non ∧ Q (.ref x) H2) (E σ)
section
variable {X : Cx} {CX : CXT} {k i : Nat} {C f : Addr} {fd : FuncData} {ps : List Str} {sp : Sp} {dvs : List V} {ds : List Value} {E : L2.St → XK} {e : Expr} {es : List Expr} {x : Str} {p pos : Pos} {t : TA}
theorem run_makeS {pins : List (Addr × Obj)} {σ : L2.St} {H : Hp} {s : Shared} {Q : VK} {us : List Value} {vs : List V} (M : Mk X.K C f) (F : FnOk X.prog X.w X.K X.mg X.base CX k f fd ps sp) (hr : Room (k + 1) X.A) (hb : Binds X.K fd ps ds) (hd : Vals dvs ds)
    (hx : ∀ σ, PassesAt CX X σ (E σ)) (I : Inv X pins σ H s) (r : Vals vs us)
    (h : ∀ x dx, H x = none → H dx = none → dx ≠ x → sp (.ref x :: (vs ++ dvs)) (upd (upd H dx (.own x)) x (.ins C dx [])) (fun v H2 => v = .non ∧ Q (.ref x) H2) (E σ)) :
    wpAny (model X.prog X.w) X.A (call (.ref C) us) (EP X pins σ Q) X.xe s := by
  have hq := h (s.heap.objs.size + 1) s.heap.objs.size (I.hok.fresh (Nat.le_succ _)) (I.hok.fresh (Nat.le_refl _)) (Nat.ne_of_lt (Nat.lt_succ_self _))
  have I2 := Inv.made (C := C) I
  have r2 : Vals (V.ref (s.heap.objs.size + 1) :: (vs ++ dvs)) (Value.ref (s.heap.objs.size + 1) :: (us ++ ds)) := .cons rfl (r.append hd)
  have hl : (Value.ref (s.heap.objs.size + 1) :: us ++ ds).length = ps.length := by
    have e := r2.length
    rw [F.len _ _ _ _ hq] at e
    exact e.symm
  refine wpAny_call (make_map (f := f) I.kIn M.makes M.init (beq_iff_eq.mp M.fn) (codeAny_mono (F.run _ X.stack _ _ ⟨Value.ref (s.heap.objs.size + 1) :: us, []⟩ (Value.ref (s.heap.objs.size + 1) :: (us ++ ds)) _ _ (E σ) (hr.make C us [])
    (I2.env0.make C us []) (hb _ (Value.ref (s.heap.objs.size + 1) :: us) I2.kIn hl) r2 hq) fun r s' hq' => ?_))
  cases r with
  | error e => exact hx σ pins _ _ e s' I2 hq'
  | ok fl =>
    cases fl with
    | ret u =>
      obtain ⟨v, H', I3, rv, ev, q3⟩ := I2.after hq'
      subst ev
      exact ⟨rv, ⟨V.ref (s.heap.objs.size + 1), H', I3, rfl, q3⟩⟩
    | next => exact False.elim hq'
    | brk => exact False.elim hq'
    | cont => exact False.elim hq'
theorem pe_makeS (M : Mk X.K C f) (F : FnOk X.prog X.w X.K X.mg X.base CX k f fd ps sp) (hr : Room (k + 1) X.A) (hg : Gl X x) (hm : X.mg x = some (.ref C)) (hb : Binds X.K fd ps ds) (hd : Vals dvs ds) (hx : ∀ σ, PassesAt CX X σ (E σ))
    (ha : PA X (e :: es) t) (hdb : (x == ("__debug__" : Str)) = false := by decide) (he : starEach (e :: es) X.env = (false, eval e X.env) :: starEach es X.env := by rfl) (hpl : (backTo pos (starEach es X.env)).any (·.1) = false := by rfl) :
    PE X (.Call (.Name x p) (e :: es) [] pos) (tMakeX C sp dvs E t) := by
  refine ⟨fun pins s σ H Q I h => ?_⟩
  refine wpAny_Call_Name_kw (ld_glob I hg hm ?_ hdb)
  refine PySem.W.callWith_K (h₀ := X.base) I.ok.mod.kin M.kp (thn (ha.run pos pins s σ H _ I h) fun us s1 ⟨vs, H1, I1, r, q⟩ => ⟨I1.kIn, ?_⟩) he hpl
  exact run_makeS M F hr hb hd hx I1 r q
/-- the class stands in the i-th slot -/
theorem pe_makeL (M : Mk X.K C f) (F : FnOk X.prog X.w X.K X.mg X.base CX k f fd ps sp) (hr : Room (k + 1) X.A) (hN : X.N[i]? = some x) (hv : Vis X.env.scope x) (hb : Binds X.K fd ps ds) (hd : Vals dvs ds) (hx : ∀ σ, PassesAt CX X σ (E σ))
    (ha : PA X (e :: es) t) (hdb : (x == ("__debug__" : Str)) = false := by decide) (hcd : (x == ("__classdict__" : Str)) = false := by decide) (he : starEach (e :: es) X.env = (false, eval e X.env) :: starEach es X.env := by rfl) (hpl : (backTo pos (starEach es X.env)).any (·.1) = false := by rfl) :
    PE X (.Call (.Name x p) (e :: es) [] pos) (fun σ H Q => σ[i]? = some (some (.ref C)) ∧ tMakeX C sp dvs E t σ H Q) := by
  refine ⟨fun pins s σ H Q I h => ?_⟩
  obtain ⟨hs, ht⟩ := h
  refine wpAny_Call_Name_kw (thn ((pe_var (pos := p) hN hv hdb hcd).run pins s σ H (fun v H1 => v = .ref C ∧ H1 = H) I ⟨.ref C, hs, rfl, rfl⟩) fun u s1 ⟨v, H1, I1, r1, q1⟩ => ?_)
  obtain ⟨rfl, rfl⟩ := q1
  cases r1
  refine PySem.W.callWith_K (h₀ := X.base) I.ok.mod.kin M.kp (thn (ha.run pos pins s1 σ _ _ I1 ht) fun us s2 ⟨vs, H2, I2, r, q⟩ => ⟨I2.kIn, ?_⟩) he hpl
  exact run_makeS M F hr hb hd hx I2 r q
end
def dMakeX (xc : DX) (C : String) (n : Nat) (fs : FSX) (dds : List D) (da : DA) (γ : Env) (q : RS → Env → Prop) : Prop := da γ fun rs γ1 => allV rs ∧ rs.length + dds.length + 1 = n ∧
  fs (.own (some 0) (.ins C []) :: ((rs.map RS.data).map Sx.val ++ dds.map Sx.val)) (fun r as' => r = .val .non ∧ match as' with
    | .own _ (.ins C' fs') :: _ => C' = C ∧ q (.new (.ins C fs')) γ1
    | _ => False) fun nm xs as' => match as' with
    | .own _ (.ins C' fs') :: _ => C' = C ∧ xc nm xs γ1
    | _ => False
theorem se_makeX {K : PySem.W.Frag} {B : Bs} {ct : Nat → Addr} {C : String} {n : Nat} {fs : FSX} {dvs : List V} {dds : List D} {W : WX} {xc : DX} {ta : TA} {da : DA} (h : SA K B ta da) (od : Paired (fun v d => ∀ z F, Rp ⟨K, z⟩ F v d) dvs dds) (xo : XOk K ct B W xc) : SE K B (tMakeX (ctOf K C) (spOfX K ct n fs) dvs (WE W) ta) (dMakeX xc C n fs dds da) := fun F H σ γ Q q R hq k => by
  refine h F H σ γ _ _ R hq fun vs F1 H1 γ1 rs R1 e1 o1 ⟨h0, h2, h3⟩ x dx hx hdx ne => ?_
  have all : RpAll (B.kz K) F1 (vs ++ dvs) (rs.map RS.data ++ dds) := RpAll.of (P_app (allV_rp o1 h0).p (P_mono (fun v d z => z _ _) od))
  let Z : ZN (upd (upd H1 dx (.own x)) x (.ins (ctOf K C) dx [])) := ⟨B.z, fun a ha => by
    obtain ⟨o, e⟩ := R1.znp a ha
    have n1 : a ≠ x := fun z => by subst z; rw [hx] at e; cases e
    have n2 : a ≠ dx := fun z => by subst z; rw [hdx] at e; cases e
    exact ⟨o, by rw [upd_ne n1, upd_ne n2]; exact e⟩⟩
  have RE := make_entry (C := C) R1.fh all hx hdx ne Z rfl
  rw [List.map_append] at RE
  refine ⟨by simp only [List.length_cons, List.length_append]; rw [P_len o1, P_len od]; omega, F1, _, Z, _, _, _, RE, h3, fun r as' v F3 H3 ⟨hr, hp⟩ R3 ok hk => ?_, fun nm xs dd as' F2 H2 hp R2 xd => ?_⟩
  · subst hr
    split at hp
    · rename_i p C' fs' rest
      obtain ⟨rfl, hp⟩ := hp
      obtain ⟨R4, e4, o4⟩ := make_exit R1 hx hdx ne rfl R3
      have ok' : Rp _ F3 v .non := ok
      cases ok'
      exact ⟨rfl, k _ F3 H3 γ1 _ R4 (e1.trans e4) o4 hp⟩
    · exact hp.elim
  · split at hp
    · rename_i p C' fs' rest
      obtain ⟨rfl, hp⟩ := hp
      obtain ⟨R4, e4, o4⟩ := make_exit R1 hx hdx ne rfl R2
      exact xo F2 H2 σ γ1 nm dd xs R4 xd hp
    · exact hp.elim
section
variable {X : Cx} {B : Bs} {ct : Nat → Addr} {a : Expr} {es : List Expr} {ta : TA} {da : DA} {k n i : Nat} {C : String} {f : Addr} {fd : FuncData} {ps : List Str} {fs : FSX} {x : Str} {p pos : Pos} {dvs : List V} {dds : List D} {ds : List Value} {W : WX} {xc : DX}
theorem x_makeX (K : PySem.W.Frag) (hK : X.K = K) (xo : XOk X.K ct B W xc) (tk : L2N.Takes X W) (M : Mk X.K (ctOf X.K C) f) (G : FnOk X.prog X.w X.K X.mg X.base (L2N.CX X.prog X.w) k f fd ps (spOfX X.K ct n fs)) (hr : Room (k + 1) X.A) (hm : X.mg x = some (.ref (ctOf X.K C))) (hb : Binds X.K fd ps ds) (hd : Vals dvs ds) (od : Paired (fun v d => ∀ z F, Rp ⟨X.K, z⟩ F v d) dvs dds) (h : XA X B (a :: es) ta da)
    (hg : Gl X x := by rfl) (hdb : (x == ("__debug__" : Str)) = false := by decide) (he : starEach (a :: es) X.env = (false, eval a X.env) :: starEach es X.env := by rfl) (hpl : (backTo pos (starEach es X.env)).any (·.1) = false := by rfl) :
    XE X B (.Call (.Name x p) (a :: es) [] pos) (tMakeX (ctOf K C) (spOfX K ct n fs) dvs (WE W) ta) (dMakeX xc C n fs dds da) := by
  subst hK
  exact ⟨pe_makeS M G hr hg hm hb hd (fun σ => L2N.passAt tk σ) h.pa hdb he hpl, se_makeX h.sa od xo⟩
end
def dMakeLX (i : Nat) (xc : DX) (C : String) (n : Nat) (fs : FSX) (dds : List D) (da : DA) (γ : Env) (q : RS → Env → Prop) : Prop := look γ i = .val (.kls C) ∧ dMakeX xc C n fs dds da γ q
theorem se_makeLX {K : PySem.W.Frag} {B : Bs} {ct : Nat → Addr} {C : String} {n i : Nat} {fs : FSX} {dvs : List V} {dds : List D} {W : WX} {xc : DX} {ta : TA} {da : DA} (h : SA K B ta da) (od : Paired (fun v d => ∀ z F, Rp ⟨K, z⟩ F v d) dvs dds) (xo : XOk K ct B W xc) :
    SE K B (fun σ H Q => σ[i]? = some (some (.ref (ctOf K C))) ∧ tMakeX (ctOf K C) (spOfX K ct n fs) dvs (WE W) ta σ H Q) (dMakeLX i xc C n fs dds da) := fun F H σ γ Q q R ⟨hl, hq⟩ k => by
  obtain ⟨v, hs, r⟩ := R.val hl
  cases r
  exact ⟨hs, se_makeX h od xo F H σ γ Q q R hq k⟩
section
variable {X : Cx} {B : Bs} {ct : Nat → Addr} {a : Expr} {es : List Expr} {ta : TA} {da : DA} {k n i : Nat} {C : String} {f : Addr} {fd : FuncData} {ps : List Str} {fs : FSX} {x : Str} {p pos : Pos} {dvs : List V} {dds : List D} {ds : List Value} {W : WX} {xc : DX}
theorem x_makeLX (i : Nat) (K : PySem.W.Frag) (hK : X.K = K) (xo : XOk X.K ct B W xc) (tk : L2N.Takes X W) (M : Mk X.K (ctOf X.K C) f) (G : FnOk X.prog X.w X.K X.mg X.base (L2N.CX X.prog X.w) k f fd ps (spOfX X.K ct n fs)) (hr : Room (k + 1) X.A) (hb : Binds X.K fd ps ds) (hd : Vals dvs ds) (od : Paired (fun v d => ∀ z F, Rp ⟨X.K, z⟩ F v d) dvs dds) (h : XA X B (a :: es) ta da)
    (hN : X.N[i]? = some x := by rfl) (hv : Vis X.env.scope x := by first | exact Or.inl rfl | exact Or.inr (Or.inl rfl) | exact Or.inr (Or.inr rfl)) (hdb : (x == ("__debug__" : Str)) = false := by decide) (hcd : (x == ("__classdict__" : Str)) = false := by decide) (he : starEach (a :: es) X.env = (false, eval a X.env) :: starEach es X.env := by rfl) (hpl : (backTo pos (starEach es X.env)).any (·.1) = false := by rfl) :
    XE X B (.Call (.Name x p) (a :: es) [] pos) (fun σ H Q => σ[i]? = some (some (.ref (ctOf K C))) ∧ tMakeX (ctOf K C) (spOfX K ct n fs) dvs (WE W) ta σ H Q) (dMakeLX i xc C n fs dds da) := by
  subst hK
  exact ⟨pe_makeL M G hr hN hv hb hd (fun σ => L2N.passAt tk σ) h.pa hdb hcd he hpl, se_makeLX h.sa od xo⟩
end
/-- the defaults ds fill up -/
theorem bindsD {K : PySem.W.Frag} {ps : List Str} {fd : FuncData} {T : Addr} {ocT : Value} {odT : Option Addr} {its : Array Value} {n : Nat} {slT : Array (Option Value)} {ds : List Value} (lT : K.lookup T = some ⟨ocT, odT, .seq its n, slT⟩)
    (h : ∀ us : List Value, (us ++ ds).length = ps.length → ∃ k, bindArgs fd ⟨us, []⟩ = seqItems? (.ref T) >>= k ∧ k (some its) = pure (ps.zip (us ++ ds))) : Binds K fd ps ds := fun s us X hl => by
  obtain ⟨k, e1, e2⟩ := h us hl
  refine L2.BindsTo.of_looks fun M => ?_
  rw [e1]
  exact looks_items X lT rfl (.of_pure e2)
/-- a kept empty tuple -/
theorem nilT {K : PySem.W.Frag} {a : Addr} (h : SqT K (fun _ => none) a []) : ∀ z F, Rp ⟨K, z⟩ F (.ref a) (.tup []) := fun z F => .tup (ex_t (H := fun _ => none) (fun _ _ h => by cases h) h) .nil
section
variable {X : Cx} {B : Bs} {ct : Nat → Addr} {a : Expr} {es : List Expr} {ta : TA} {da : DA} {k n : Nat} {C : String} {f : Addr} {fd : FuncData} {ps : List Str} {fs : FSX} {x : Str} {p pos : Pos} {dvs : List V} {dds : List D} {ds : List Value}
theorem x_makeND (K : PySem.W.Frag) (hK : X.K = K) (M : Mk X.K (ctOf X.K C) f) (G : FnOk X.prog X.w X.K X.mg X.base (L2N.CX X.prog X.w) k f fd ps (spOfX X.K ct n fs)) (hr : Room (k + 1) X.A) (hm : X.mg x = some (.ref (ctOf X.K C))) (hb : Binds X.K fd ps ds) (hd : Vals dvs ds) (od : Paired (fun v d => ∀ z F, Rp ⟨X.K, z⟩ F v d) dvs dds) (h : XA X B (a :: es) ta da)
    (hg : Gl X x := by rfl) (hdb : (x == ("__debug__" : Str)) = false := by decide) (he : starEach (a :: es) X.env = (false, eval a X.env) :: starEach es X.env := by rfl) (hpl : (backTo pos (starEach es X.env)).any (·.1) = false := by rfl) :
    XE X B (.Call (.Name x p) (a :: es) [] pos) (tMake (ctOf K C) (spOfX K ct n fs) dvs E0 ta) (dMakeN C n fs dds da) := by
  subst hK
  exact ⟨pe_make M G hr hg hm hb hd passN h.pa hdb he hpl, se_makeN h.sa od⟩
end
end DL

set_option Elab.async false
set_option linter.all false
set_option maxRecDepth 100000
set_option maxHeartbeats 2000000
/-! ### a list or a tuple walked -/
namespace DL
open PySem PySem.Spec PyProof.Rows L2
open Evl (Ex ex_l ex_t)
def iSeq (K : PySem.W.Frag) (tl : TE) : TI := fun σ H R => tl σ H fun x H1 => ∃ a, x = .ref a ∧ (((∃ xs, SqL K H1 a xs) ∧ R (Itl K a) H1) ∨ ((∃ xs, SqT K H1 a xs) ∧ R (Itt K a) H1))
theorem pi_seq {X : Cx} {tg l : Expr} {tl : TE} (hl : PE X l tl) : PI X tg l (iSeq X.K tl) := by
  refine ⟨fun pins s σ H R I h => ?_⟩
  refine thn (hl.run pins s σ H _ I h) fun v s1 ⟨x, H1, I1, r1, q1⟩ => ?_
  obtain ⟨a, e, q1⟩ := q1
  subst e
  cases r1
  rcases q1 with ⟨⟨xs, hq⟩, q⟩ | ⟨⟨xs, hq⟩, q⟩
  · obtain ⟨its, rv, p, hz⟩ := I1.list hq
    refine wpAny_pyIter_list p.isList ?_
    refine ⟨s1.heap.objs.size, [s1.heap.objs.size], _, _, H1, rfl, I1.kept (t' := s1.toks) fun b o e => Heap.get?_push_of_some _ e, turn_list a _, ⟨_, Heap.get?_push_size _ rfl, rfl, rfl⟩, fun b hb => ?_, q⟩
    have e : b = s1.heap.objs.size := by simpa using hb
    subst e
    exact I1.fpOk (Nat.le_refl _) (I1.hok.fresh (Nat.le_refl _))
  · obtain ⟨its, rv, p, hz⟩ := I1.tuple hq
    refine wpAny_pyIter_tuple (show s1.heap.IsTuple a its.toArray from p) ?_
    refine ⟨s1.heap.objs.size, [s1.heap.objs.size], _, _, H1, rfl, I1.kept (t' := s1.toks) fun b o e => Heap.get?_push_of_some _ e, turn_tuple a _, ⟨_, Heap.get?_push_size _ rfl, rfl, rfl⟩, fun b hb => ?_, q⟩
    have e : b = s1.heap.objs.size := by simpa using hb
    subst e
    exact I1.fpOk (Nat.le_refl _) (I1.hok.fresh (Nat.le_refl _))
def dIQ (de : DE) (γ : Env) (r : Nat → (Nat → D → Prop) → Env → Prop) : Prop := de γ fun s γ1 => s.kept ∧ match s.data with
  | .lst ds => r ds.length (fun i d => ds[i]? = some d) γ1
  | .tup ds => r ds.length (fun i d => ds[i]? = some d) γ1
  | _ => False
theorem si_seq {K : PySem.W.Frag} {B : Bs} {te : TE} {de : DE} (he : SE K B te de) : SI K B (iSeq K te) (dIQ de) := fun F H σ γ W r R hq k => by
  refine he F H σ γ _ _ R hq fun x F1 H1 γ1 s R1 e1 o1 ⟨hk, h1⟩ => ?_
  obtain ⟨F2, R2, e2, o2⟩ := o1.fz R1
  have rp := o2.kp hk
  split at h1
  · rename_i ds es
    rw [es] at rp
    cases rp with
    | lst ha ra => exact ⟨_, rfl, .inl ⟨⟨_, Evl.sq_of (R2.fh _ _ ha)⟩, k _ F2 H1 γ1 _ _ R2 (e1.trans e2) (jo_list (Evl.sq_of ha) ra) h1⟩⟩
  · rename_i ds es
    rw [es] at rp
    cases rp with
    | tup ha ra => exact ⟨_, rfl, .inr ⟨⟨_, ex_t R2.fh ha⟩, k _ F2 H1 γ1 _ _ R2 (e1.trans e2) (jo_tup ha ra) h1⟩⟩
  · exact h1.elim
theorem i_seq {X : Cx} {B : Bs} {tg e : Expr} {te : TE} {de : DE} (h : XE X B e te de) : XI X B tg e (iSeq X.K te) (dIQ de) := ⟨pi_seq h.pe, si_seq h.se⟩
/-- statements that are never reached -/
def dVoid : DS := fun _ _ => False
theorem ss_void {X : Cx} {B : Bs} {ss : List Stmt} : XSs X B ss (fun _ _ _ => False) dVoid := ⟨⟨fun _ _ _ _ _ _ h => h.elim⟩, fun _ _ _ _ _ _ _ h _ => h.elim⟩
theorem _root_.L2H.RoomH.units {k : Nat} {A : Around} (r : L2H.RoomH k A) : A.units + 64 < PySem.cLine := by have := r.un; omega
end DL

set_option Elab.async false
set_option linter.all false
set_option maxRecDepth 100000
set_option maxHeartbeats 2000000
/-! ### o(..), o an own class's instance -/
namespace DL
open PySem PySem.Spec PyProof.Rows L2
open Evl (Ex ex_l ex_t)
theorem Fun_fi {K : PySem.W.Frag} {x qual : Str} {st : Stmt} {f : Addr} {fd : FuncData} (F : Fun K x qual st f fd) : PySem.W.fnIn K f = true := by
  obtain ⟨oc, od, kV, doc, pm, an, cdv, ct, osl, rfl, lk, hcd⟩ := F.ex
  unfold PySem.W.fnIn
  rw [lk]
inductive ODispC (P : Program) (w : World) (K : PySem.W.Frag) (mg : Str → Option Value) (base : Heap) (CX : CXT) (km : Nat) (C : Addr) (sp : Sp) : Prop
  | mk {k : Nat} {f : Addr} {fd : FuncData} {ps : List Str} : Meth K C "__call__" f → PySem.W.fnIn K f = true → FnOk P w K mg base CX k f fd ps sp → k ≤ km → Binds K fd ps [] → ODispC P w K mg base CX km C sp
def tCallOP (P : Program) (w : World) (K : PySem.W.Frag) (mg : Str → Option Value) (base : Heap) (CX : CXT) (km : Nat) (E : L2.St → XK) (tf : TE) (t : TA) : TE := fun σ H Q => tf σ H fun y H1 => ∃ a, y = V.ref a ∧ t σ H1 fun vs H2 => ∃ C dx fs sp, H2 a = some (.ins C dx fs) ∧ ODispC P w K mg base CX km C sp ∧ sp (V.ref a :: vs) H2 Q (E σ)
section
variable {X : Cx} {CX : CXT} {km : Nat} {fe e : Expr} {es : List Expr} {pos : Pos} {tf : TE} {t : TA} {E : L2.St → XK}
theorem pe_callOP (hf : PE X fe tf) (hr : Room km X.A) (hx : ∀ σ, PassesAt CX X σ (E σ)) (ha : PA X (e :: es) t)
    (ht : eval (.Call fe (e :: es) [] pos) X.env = (do callWith pos (← eval fe X.env) [] (backTo pos (starEach (e :: es) X.env)) (backToKw pos (keywordEach [] X.env))) := by rfl)
    (he : starEach (e :: es) X.env = (false, eval e X.env) :: starEach es X.env := by rfl) (hpl : (backTo pos (starEach es X.env)).any (·.1) = false := by rfl) : PE X (.Call fe (e :: es) [] pos) (tCallOP X.prog X.w X.K X.mg X.base CX km E tf t) := by
  refine ⟨fun pins s σ H Q I h => ?_⟩
  refine Call_ (thn (hf.run pins s σ H _ I h) fun u s1 ⟨y, H1, I1, ry, a, ey, q⟩ => ?_) ht
  subst ey
  obtain rfl : u = Value.ref a := ry
  refine StX.callO_with (thn (ha.run pos pins s1 σ H1 _ I1 q) fun us s2 ⟨vs, H2, I2, r, C, dx, fs, sp, hi, dp, q2⟩ => ?_) he hpl
  obtain ⟨m, fi, F, hk, hb⟩ := dp
  obtain ⟨mA, O, _⟩ := ins_get I2.hok hi
  obtain ⟨od, J, _⟩ := O.look
  exact ⟨⟨C, _, _, J, rfl⟩, wpAny_call (PySem.W.kco_code I2.kIn J rfl m.at_ m.fn fi (run_fnC (us := .ref a :: us) (vs := .ref a :: vs) F (hr.mono hk) hb hx I2 (.cons rfl r) q2))⟩
end
def dCallOX (xc : DX) (n : Nat) (tb : MTX) (de : DE) (da : DA) (γ : Env) (q : RS → Env → Prop) : Prop := de γ fun s γ1 => match s with
  | .val (.obj C fl) => ∃ fs, tb C = some fs ∧ da γ1 fun rs γ2 => (ownIx rs).Nodup ∧ rs.length + 1 = n ∧ fs (argsOf 0 (.val (.obj C fl) :: rs)) (fun r as' => q r (upds γ2 (.val (.obj C fl) :: rs) as')) fun nm xs as' => xc nm xs (upds γ2 (.val (.obj C fl) :: rs) as')
  | _ => False
theorem se_callOX {P : Program} {w : World} {K : PySem.W.Frag} {mg : Str → Option Value} {base : Heap} {CX : CXT} {km : Nat} {B : Bs} {n : Nat} {te : TE} {de : DE} {ta : TA} {da : DA} {ct : Nat → Addr} {W : L2.St → XK} {xc : DX} {tb : MTX} (hd : ∀ C fs, tb C = some fs → ODispC P w K mg base CX km (ctOf K C) (spOfX K ct n fs))
    (xo : ∀ (F' H' : Hp) (σ : L2.St) (γ' : Env) nm dd fs, Rep K B F' H' σ γ' → XdOk K B F' dd fs → xc nm fs γ' → W σ (.ref (ct nm)) dd H') (he : SE K B te de) (ha : SA K B ta da) : SE K B (tCallOP P w K mg base CX km W te ta) (dCallOX xc n tb de da) := fun F H σ γ Q q R hq k => by
  refine he F H σ γ _ _ R hq fun x F1 H1 γ1 s R1 e1 o1 h1 => ?_
  split at h1
  · rename_i C fl
    obtain ⟨fs, ht, h1⟩ := h1
    have o1 : Rp (B.kz K) F1 x (.obj C fl) := o1
    obtain ⟨a, ea, _⟩ : ∃ a, x = .ref a ∧ True := by cases o1; exact ⟨_, rfl, trivial⟩
    subst ea
    refine ⟨a, rfl, ?_⟩
    refine ha F1 H1 σ γ1 _ _ R1 h1 fun vs F3 H3 γ3 rs R3 e3 o3 ⟨h4, h5, h6⟩ => ?_
    have o4 : RsOk K B F3 H3 σ γ3 (.ref a) (.val (.obj C fl)) := o1.mono e3
    obtain ⟨a', dx, fv, ea, q2, q3⟩ := (o4.rs R3).obj R3.fh
    cases ea
    have oo : Paired (RsOk K B F3 H3 σ γ3) (.ref a :: vs) (RS.val (.obj C fl) :: rs) := .cons o4 o3
    have cc := call_core (W := W σ) (ct := ct) (n := n) (fs := fs) (dvs := []) (dds := []) (q := q) .nil R3 oo (fun F' H' γ' nm dd fs R' xd hx => xo F' H' σ γ' nm dd fs R' xd hx) (by simpa [ownIx] using h4) (by simp; omega) (by simpa using h6) fun v F' H' γ' s' R' e' o' hq => k v F' H' γ' s' R' ((e1.trans e3).trans e') o' hq
    rw [List.append_nil] at cc
    exact ⟨_, dx, fv, _, q2, hd C fs ht, cc⟩
  · exact h1.elim
section
variable {X : Cx} {km : Nat} {B : Bs} {o a : Expr} {es : List Expr} {pos : Pos} {te : TE} {de : DE} {ta : TA} {da : DA} {n : Nat}
theorem x_callOX (P : Program) (w : World) (K : PySem.W.Frag) (mg : Str → Option Value) (base : Heap) (hX : (X.prog, X.w, X.K, X.mg, X.base) = (P, w, K, mg, base)) (hr : Room km X.A) {ct : Nat → Addr} {W : WX} {xc : DX} {tb : MTX} (xo : XOk K ct B W xc) (tk : L2N.Takes X W) (hd : ∀ C fs, tb C = some fs → ODispC P w K mg base (L2N.CX P w) km (ctOf K C) (spOfX K ct n fs)) (ho : XE X B o te de) (h : XA X B (a :: es) ta da)
    (ht : eval (.Call o (a :: es) [] pos) X.env = (do callWith pos (← eval o X.env) [] (backTo pos (starEach (a :: es) X.env)) (backToKw pos (keywordEach [] X.env))) := by rfl)
    (hst : starEach (a :: es) X.env = (false, eval a X.env) :: starEach es X.env := by rfl) (hpl : (backTo pos (starEach es X.env)).any (·.1) = false := by rfl) :
    XE X B (.Call o (a :: es) [] pos) (tCallOP P w K mg base (L2N.CX P w) km (WE W) te ta) (dCallOX xc n tb de da) := by
  cases hX
  exact ⟨pe_callOP ho.pe hr (fun σ => L2N.passAt tk σ) h.pa ht hst hpl, se_callOX hd (fun F' H' σ γ' nm dd fs R' xd hx => xo F' H' σ γ' nm dd fs R' xd hx) ho.se h.sa⟩
end
end DL

set_option Elab.async false
set_option linter.all false
set_option maxRecDepth 100000
set_option maxHeartbeats 2000000
namespace DL
open PySem PySem.Spec PyProof.Rows L2
open Evl (Ex ex_l ex_t)
/-! ### slices of texts -/
def fSlS : D → Option Int → Option Int → (RS → Prop) → Prop
  | .str z, lo, hi, q => z.length ≤ 1000000 ∧ q (.val (.str (Txt.slice z lo hi)))
  | _, _, _, _ => False
theorem sd_str {K : PySem.W.Frag} : SlD K C8.rSlX fSlS := fun B F H σ γ x d lo hi Q q R rx hf k => by
  unfold fSlS at hf
  split at hf
  · exact ⟨_, rx.str, sz_le hf.1, vk R k (.str _) hf.2⟩
  · exact hf.elim
/-! ### xs.count(b), xs.index(b): truth values -/
def rCntB (K : PySem.W.Frag) : V → List V → Hp → VK → Prop := fun x xs H Q => ∃ (p : Addr) (bs : List Bool) (b : Bool), x = .ref p ∧ xs = [.bl b] ∧ SqL K H p (bs.map V.bl) ∧ Q (.int (bs.count b : Nat)) H
theorem bl_flat (bs : List Bool) : (bs.map V.bl).all flatV = true := by induction bs <;> simp_all [flatV]
theorem cntU {b : Bool} : ∀ {us : List Value} {bs : List Bool}, Vals (bs.map V.bl) us → us.countP (eqU (.bl b)) = bs.count b
  | _, [], .nil => rfl
  | u :: us, c :: bs, .cons r t => by
    have ih := cntU (b := b) t
    have e : eqU (.bl b) u = (c == b) := eqU_of r rfl
    rw [List.countP_cons, List.count_cons, ih, e]
theorem mt_lcountB {X : Cx} : MtR X "list.count" (rCntB X.K) := by
  intro pins s σ H x xs v us Q I rx rxs h
  obtain ⟨p, bs, b, ex, exs, hs, q⟩ := h
  subst ex exs
  obtain rfl : v = Value.ref p := rx
  obtain ⟨u, rfl, ru⟩ := rxs.one
  obtain ⟨its, rv, ⟨o, n, ho, hc, hdn, hd⟩, hlen⟩ := I.list hs
  obtain ⟨cls, dd, data, sl⟩ := o
  have hc : cls = .type "list" := hc
  have hd : data = .seq its.toArray n := hd
  subst hc hd
  have ec : its.toArray.toList.countP (eqU (.bl b)) = bs.count b := cntU rv
  refine call_meets PySem.F.slot_list_count ⟨_, ho, rfl⟩ PySem.F.entry_list_count (PySem.F.args_list_count_2 _ _) (SeqAt.list_countAt p its.toArray n dd sl u (eqU (.bl b))) ⟨ho, fun y hy => ?_, ?_⟩
  · exact mem_eqAt ru rfl rv (bl_flat bs) y (by simpa using hy)
  · rw [ec]
    exact ⟨.int (bs.count b : Nat), H, I.tok _, ⟨_, rfl⟩, q⟩
def mCountB (ds as : List D) (q : D → Prop) : Prop := match as with
  | [.bl y] => ∃ bs : List Bool, ds = bs.map D.bl ∧ q (.int (bs.count y : Nat))
  | _ => False
theorem rd_countB {K : PySem.W.Frag} : RdD K (rCntB K) mCountB := fun z F H a vs ds xs as Q q eFH ha ra rx hf k => by
  unfold mCountB at hf
  split at hf
  · obtain ⟨x, rfl, r1⟩ := one_rs rx.p
    cases r1
    obtain ⟨bs, rfl, h3⟩ := hf
    have ev := rp_bls ra
    subst ev
    exact ⟨a, _, _, rfl, rfl, Evl.sq_of ha, k _ _ (.int _) h3⟩
  · exact hf.elim
def mIndexB (ds as : List D) (q : D → Prop) : Prop := match as with
  | [.bl y] => ∃ (bs : List Bool) (j : Nat), ds = bs.map D.bl ∧ bs[j]? = some y ∧ (∀ m, m < j → bs[m]? ≠ some y) ∧ q (.int (j : Nat))
  | _ => False
theorem rd_indexB {K : PySem.W.Frag} : RdD K (rIndex K) mIndexB := fun z F H a vs ds xs as Q q eFH ha ra rx hf k => by
  unfold mIndexB at hf
  split at hf
  · rename_i y
    obtain ⟨x, rfl, r1⟩ := one_rs rx.p
    cases r1
    obtain ⟨bs, j, rfl, h1, h2, h3⟩ := hf
    have ev := rp_bls ra
    subst ev
    refine ⟨a, _, .bl y, j, .bl y, rfl, rfl, Evl.sq_of ha, rfl, bl_flat bs, by rw [List.getElem?_map, h1]; rfl, by simp [eqV], fun m z' hm hz => ?_, k _ _ (.int _) h3⟩
    rw [List.getElem?_map] at hz
    obtain ⟨c, hc, rfl⟩ := Option.map_eq_some_iff.mp hz
    have ne : c ≠ y := fun e => h2 m hm (by rw [hc, e])
    simpa [eqV] using ne
  · exact hf.elim
theorem x_countB {X : Cx} {B : Bs} {o e : Expr} {es : List Expr} {te : TE} {de : DE} {ta : TA} {da : DA} {apos cpos : Pos} (K : PySem.W.Frag) (hK : X.K = K) (ho : XE X B o te de) (h : XA X B (e :: es) ta da)
    (hbase : attributeBase o "count" X.env (eval o X.env) = eval o X.env := by rfl)
    (hfew : ((backTo cpos (starEach (e :: es) X.env)).all (fun x => !x.1) && (backToKw cpos (keywordEach [] X.env)).all (fun x => x.1.isSome) && decide ((e :: es).length + ([] : List Keyword).length + (if ([] : List Keyword).isEmpty then 0 else 1) < 30)) = true := by rfl)
    (hline : (apos.endLine == cpos.line) = true := by rfl) (hs : starEach (e :: es) X.env = (false, eval e X.env) :: starEach es X.env := by rfl) (hplain : (backTo cpos (starEach es X.env)).any (·.1) = false := by rfl) :
    XE X B (.Call (.Attribute o "count" apos) (e :: es) [] cpos) (tBM K "list" (rCntB K) te ta) (dRd mCountB de da) := by
  subst hK
  exact x_rd (fun p q => pe_bm PySem.F.plainAttrs_list PySem.F.slot_list_count PySem.F.type_list_count mt_lcountB p q hbase hfew hline hs hplain) rd_countB ho h
theorem x_indexB {X : Cx} {B : Bs} {o e : Expr} {es : List Expr} {te : TE} {de : DE} {ta : TA} {da : DA} {apos cpos : Pos} (K : PySem.W.Frag) (hK : X.K = K) (ho : XE X B o te de) (h : XA X B (e :: es) ta da)
    (hbase : attributeBase o "index" X.env (eval o X.env) = eval o X.env := by rfl)
    (hfew : ((backTo cpos (starEach (e :: es) X.env)).all (fun x => !x.1) && (backToKw cpos (keywordEach [] X.env)).all (fun x => x.1.isSome) && decide ((e :: es).length + ([] : List Keyword).length + (if ([] : List Keyword).isEmpty then 0 else 1) < 30)) = true := by rfl)
    (hline : (apos.endLine == cpos.line) = true := by rfl) (hs : starEach (e :: es) X.env = (false, eval e X.env) :: starEach es X.env := by rfl) (hplain : (backTo cpos (starEach es X.env)).any (·.1) = false := by rfl) :
    XE X B (.Call (.Attribute o "index" apos) (e :: es) [] cpos) (tBM K "list" (rIndex K) te ta) (dRd mIndexB de da) := by
  subst hK
  exact x_rd (fun p q => pe_bm PySem.F.plainAttrs_list PySem.F.slot_list_index PySem.F.type_list_index mt_index p q hbase hfew hline hs hplain) rd_indexB ho h
/-! ### C.F, a number of the class, by the class's name -/
def dCCon (C : String) (i : Int) (γ : Env) (q : RS → Env → Prop) : Prop := q (.val (.int i)) γ
theorem x_ccon {X : Cx} {B : Bs} {x : Str} {p pos : Pos} {C : String} {f : Str} {i : Int} {u : Value} (r : ClX.CRead X.K (ctOf X.K C) (.type "type")) (k : ClX.CVal X.K (ctOf X.K C) (.type "type") f (.int i) u) (hm : X.mg x = some (.ref (ctOf X.K C)))
    (hg : Gl X x := by rfl) (hdb : (x == ("__debug__" : Str)) = false := by decide) (hb : attributeBase (.Name x p) f X.env (eval (.Name x p) X.env) = eval (.Name x p) X.env := by rfl) :
    XE X B (.Attribute (.Name x p) f pos) (ClX.tCVal X.K (tC (.ref (ctOf X.K C))) f) (dCCon C i) := by
  have o : XE X B (.Name x p) (tC (.ref (ctOf X.K C))) (dC (.kls C)) := x_glob hg hm rfl (fun z F => Rp.kls (K := ⟨X.K, z⟩) C) hdb
  exact ⟨ClX.pe_cval o.pe hb, fun F H σ γ Q q R hq kk => ⟨_, _, _, _, rfl, r, k, kk _ F H γ (.val (.int i)) R (Evl.Ex.refl F) (Rp.int i) hq⟩⟩
/-! ### isinstance(e, ValueError) -/
theorem kit_tyV {K : PySem.W.Frag} {D : Addr} (h : PySem.W.subIn K (.ref D) (.type "ValueError") = some true) : PySem.W.kitOne K (.ref D) (.type "ValueError") = some true := by
  unfold PySem.W.kitOne
  rw [if_neg (by simp)]
  unfold PySem.W.kitCls
  have m : PySem.W.kitMeta "ValueError" = true := by decide +kernel
  simp only [m, if_true]
  exact h
def rIsXT (K : PySem.W.Frag) (a : Addr) (cls : Value) (d : Option Addr) : List V → Hp → VK → Prop := fun xs H Q => ∃ (D : Addr), xs = [.ref a, .ty "ValueError"] ∧ cls = .ref D ∧ ExcC K D ∧ (d = none ∨ ∃ dd fv, d = some dd ∧ H dd = some (.xd fv)) ∧ PySem.W.kitOne K (.ref D) (.type "ValueError") = some true ∧ Q (.bl true) H
theorem call_isXT {X : Cx} {a : Addr} {oe : Obj} {cls : Value} {d : Option Addr} {pn : List (Addr × Obj)} (hz : L2N.Zn cls d oe) (hf : ∃ vs, oe.data = .fields vs) : CallR (X.suite a ((a, oe) :: pn)) (.builtin "isinstance") (rIsXT X.K a cls d) := fun {pins s σ H xs us Q} I r h => by
  obtain ⟨D, rfl, hD, C, hd, e, q⟩ := h
  cases r with
  | cons rx rr => cases rr with
    | cons rt rr =>
      cases rr
      cases rx
      cases rt
      obtain ⟨hget, _⟩ := I.pin (a, oe) (List.mem_append_left _ List.mem_cons_self)
      obtain ⟨vs, hv⟩ := hf
      obtain ⟨cdD, hcD, _⟩ := PySem.W.any_some C.hd
      have hcl : (PySem.W.clsIn X.K D).isSome = true := by rw [hcD]; rfl
      have nc : PySem.W.notCls oe = true := by unfold PySem.W.notCls; rw [hv] <;> rfl
      have fin : ∀ {od : Option Obj}, PySem.W.InstAt s.heap a oe D od → wpAny (model (X.suite a ((a, oe) :: pn)).prog (X.suite a ((a, oe) :: pn)).w) (X.suite a ((a, oe) :: pn)).A (call (.builtin "isinstance") [.ref a, .type "ValueError"]) (EP (X.suite a ((a, oe) :: pn)) pins σ Q) (X.suite a ((a, oe) :: pn)).xe s := fun J =>
        PySem.W.kia_one (PySem.W.kitx_exc hcl C.hg C.hk C.hs C.ha C.hn C.ht C.hm) I.kIn J e (fun z => nomatch z) fun tk => ⟨.bl true, H, I.kept (t' := tk) fun _ _ z => z, rfl, q⟩
      rcases hd with hd | ⟨dd, fv, hd, hx⟩
      · exact fin (od := none) ⟨hget, hz.zc.1.trans hD, nc, by rw [hz.zc.2, hd]; trivial⟩
      · have ok : ObjOk X.prog X.w H s.heap dd (.xd fv) := I.hok dd _ hx
        obtain ⟨mA, hns, _⟩ := ok
        obtain ⟨od, ho, _⟩ := lookIn_ns hns
        exact fin (od := some od) ⟨hget, hz.zc.1.trans hD, nc, by rw [hz.zc.2, hd]; exact ho⟩
def dIsEV (kit : Nat → Nat → Option Bool) (i : Nat) (a : Addr) (nm : Nat) (γ : Env) (q : RS → Env → Prop) : Prop := look γ i = .val (.ref a) ∧ (kit nm 0).isSome = true ∧ q (.val (.bl true)) γ
theorem x_isEV {X : Cx} {B : Bs} {ct : Nat → Addr} {a : Addr} {oe : Obj} {cls : Value} {d : Option Addr} {pn : List (Addr × Obj)} {nm : Nat} {x : Str} {fs : Xf} {kit : Nat → Nat → Option Bool} {p p1 p2 pos : Pos} (i : Nat) (hz : L2N.Zn cls d oe) (hf : ∃ vs, oe.data = .fields vs) (hcls : cls = .ref (ct nm)) (xd : XdOk X.K B B.F d fs)
    (hkit : ∀ nm, (kit nm 0).isSome = true → ExcC X.K (ct nm) ∧ PySem.W.kitOne X.K (.ref (ct nm)) (.type "ValueError") = some true) (hm : X.mg "isinstance" = none) (ht : X.mg "ValueError" = none)
    (hN : X.N[i]? = some x := by rfl) (hv : Vis X.env.scope x := by first | exact Or.inl rfl | exact Or.inr (Or.inl rfl) | exact Or.inr (Or.inr rfl)) (hd : (x == ("__debug__" : Str)) = false := by decide) (hcd : (x == ("__classdict__" : Str)) = false := by decide)
    (hg : Gl X "isinstance" := by rfl) (hgt : Gl X "ValueError" := by rfl) (hbt : bootBuiltins "ValueError" = some (.type "ValueError") := by decide +kernel)
    (s1 : starEach (.Name x p1 :: [.Name "ValueError" p2]) X.env = (false, eval (.Name x p1) X.env) :: starEach [.Name "ValueError" p2] X.env := by rfl) (s2 : starEach (.Name "ValueError" p2 :: []) X.env = (false, eval (.Name "ValueError" p2) X.env) :: starEach [] X.env := by rfl) (hpl : (backTo pos (starEach [.Name "ValueError" p2] X.env)).any (·.1) = false := by rfl) :
    XE (X.suite a ((a, oe) :: pn)) B (.Call (.Name "isinstance" p) [.Name x p1, .Name "ValueError" p2] [] pos) (tCB (rIsXT X.K a cls d) (tCons (tVar i) (tCons (tC (.ty "ValueError")) tNil))) (dIsEV kit i a nm) :=
  ⟨pe_callB (X := X.suite a ((a, oe) :: pn)) (call_isXT hz hf) hg hm (by decide +kernel) (pa_cons (pe_var (X := X.suite a ((a, oe) :: pn)) hN hv hd hcd) (pa_cons (pe_bltn (X := X.suite a ((a, oe) :: pn)) hgt ht hbt rfl (by decide) (by decide)) pa_nil s2) s1) (by decide) (by decide) s1 hpl, fun F H σ γ Q q R ⟨h1, h2, h3⟩ k => by
  obtain ⟨T, hk⟩ := hkit nm h2
  obtain ⟨v, hs, r⟩ := R.val h1
  cases r
  have hx : d = none ∨ ∃ dd fv, d = some dd ∧ H dd = some (.xd fv) := by
    cases d with
    | none => exact .inl rfl
    | some dd =>
      cases fs with
      | none => exact xd.elim
      | some l =>
        obtain ⟨fv, x1, _⟩ := xd
        exact .inr ⟨dd, fv, rfl, R.fh _ _ (R.b2 _ _ x1)⟩
  exact ⟨_, hs, ct nm, rfl, hcls, T, hx, hk, k _ F H γ (.val (.bl true)) R (Evl.Ex.refl F) (.bl true) h3⟩⟩
end DL

set_option Elab.async false
set_option linter.all false
set_option maxRecDepth 100000
set_option maxHeartbeats 2000000
/-! A comprehension without tests, and all(..), where an exception is handled. Own work. -/
namespace DL
open PySem PySem.Spec PyProof.Rows L2
open L2H (Hot1 HotC PIH TurnH)
/-- a comprehension's block where an exception is handled: what is pinned stays pinned -/
abbrev hotBlk (X : Cx) (s : Shared) (H : Hp) (sc : Scope) (ce : PySem.Env) (fp : List Addr) : Cx := { X.blk s H sc ce fp with pn := X.pn }
section
variable {X : Cx} {s0 : Shared} {H0 : Hp} {sc : Scope} {ce : PySem.Env} {fp : List Addr} {τ : L2.St}
theorem hot_pins {H : Hp} {s : Shared} (J : Inv (X.blk s0 H0 sc ce fp) [] τ H s)
    (h : ∀ p ∈ X.pn, s.heap.get? p.1 = some p.2 ∧ H p.1 = none ∧ p.1 ≠ ce.locals ∧ p.1 ∉ frs X.stack ∧ ∀ v, p.2.data ≠ .cell v) : Inv (hotBlk X s0 H0 sc ce fp) [] τ H s where
  ok := by have k := J.ok; cases k; constructor <;> assumption
  os := J.os
  bare := J.bare
  base := J.base
  loc := J.loc
  cell := J.cell
  free := J.free
  freeC := J.freeC
  pin := fun p hp => h p (by simpa using hp)
  hok := J.hok
  len := J.len
/-- between two turns: the block, the iterator's place, its objects untracked -/
structure Mid (X : Cx) (s0 : Shared) (H0 : Hp) (sc : Scope) (ce : PySem.Env) (fp : List Addr) (τ : L2.St) (tn : Nat → Heap → Prop) (i : Nat) (H : Hp) (s : Shared) : Prop where
  here : Inv (hotBlk X s0 H0 sc ce fp) [] τ H s
  turn : tn i s.heap
  off : ∀ b ∈ fp, H b = none
/-- the iterator's objects are none of the pinned ones -/
def Apart (X : Cx) (fp : List Addr) : Prop := ∀ b ∈ fp, ∀ p ∈ X.pn, p.1 ≠ b
theorem foot {H : Hp} {s : Shared} (J : Inv (hotBlk X s0 H0 sc ce fp) [] τ H s) (ap : Apart X fp) (off : ∀ b ∈ fp, H b = none) : ∀ b ∈ fp, FpOk (hotBlk X s0 H0 sc ce fp) [] H b := by
  intro b hb
  have k := J.ok.exf b hb
  refine ⟨off b hb, k.1, J.ok.exfs b hb, .inl hb, k.2, fun p hp => ap b hb p (by simpa using hp)⟩
/-- a turn's end is a new middle -/
theorem Mid.next {H' : Hp} {s s' : Shared} {τ' : L2.St} {vs : List Nat} {tg : Expr} {It' : It} {it : Addr} {tn : Nat → Heap → Prop} {i : Nat} (T : TurnH X.prog X.w X.K tg It' fp it tn) (st : tn i s.heap)
    (J : Inv (hotBlk X s0 H0 sc ce fp) ([] ++ pinsAt fp s.heap) τ' H' s') (hw : wipe τ' vs = τ) : Mid X s0 H0 sc ce fp τ tn i H' s' := by
  have held : ∀ b ∈ fp, ∀ o, s.heap.get? b = some o → s'.heap.get? b = some o ∧ H' b = none := fun b hb o e => by
    have q := J.pin (b, o) (List.mem_append.mpr (.inr (by simpa using mem_pinsAt hb e)))
    exact ⟨q.1, q.2.1⟩
  have free : Inv (hotBlk X s0 H0 sc ce fp) [] τ' H' s' := J.unpinned
  refine ⟨free.weak (by rw [← hw, wipe_length]) fun j v e => ?_, T.keep i _ _ st fun b hb o e => (held b hb o e).1, fun b hb => ?_⟩
  · rw [← hw] at e
    exact (wipe_some e).1
  · obtain ⟨o, e, _⟩ := T.obj i _ st b hb
    exact (held b hb o e).2
/-- the end of the walk: the block is left -/
theorem Mid.leave {pins : List (Addr × Obj)} {σ : L2.St} {H1 : Hp} {s1 : Shared} (I : Inv X pins σ H0 s0) (hf : ∀ b ∈ fp, FpOk X pins H0 b) (hL : ce.locals = s0.heap.objs.size)
    (J : Inv (hotBlk X s0 H0 sc ce fp) [] τ H1 s1) : Inv X pins σ H1 s1 ∧ (∃ m, s1.heap.Ns s0.heap.objs.size m) ∧ FpOk X pins H1 s0.heap.objs.size := by
  have fr : H1 s0.heap.objs.size = none := by
    have q : H1 ce.locals = none := J.free
    rwa [hL] at q
  obtain ⟨m, hm, _⟩ := J.loc
  have hm : s1.heap.Ns ce.locals m := hm
  rw [hL] at hm
  refine ⟨I.call' (ch := fp) J.os J.base J.hok J.bare fun b hb => ?_, ⟨m, hm⟩, I.fpOk (Nat.le_refl _) fr⟩
  obtain ⟨_, a, _, c, d, e⟩ := hf b hb
  exact ⟨c, a, d, e⟩
variable {elt tg iter : Expr} {pos : Pos} {g : TG} {te : TE}
/-- the walk of the block: from a middle to the end -/
theorem hot_walk {D it : Addr} {It' : It} {tn : Nat → Heap → Prop} {vs : List Nat} {W : Nat → Nat → Hp → Prop} {P : Hp → Prop} {R : Result → Shared → Prop} {i m : Nat} {H : Hp} {s : Shared}
    (hc : HotC X) (T : TurnH X.prog X.w X.K tg It' fp it tn) (ap : Apart X fp) (hg : PG (hotBlk X s0 H0 sc ce fp) tg g) (he : PE (hotBlk X s0 H0 sc ce fp) elt te)
    (turns : ∀ i m H, W i m H → (It'.stop i H ∧ P H) ∨ (It'.go i H ∧ ∃ Nx : Hp → Prop, (∀ H', Nx H' → ∃ m', m' < m ∧ W (i + 1) m' H') ∧ ∀ x H', It'.yld i H x H' → g x τ H' fun σ2 H2 => wipe σ2 vs = τ ∧ tYes σ2 H2 fun b H3 =>
      if b = true then te σ2 H3 fun y H4 => ∃ acc, H4 D = some (.lst acc) ∧ acc.length < sizeLine ∧ Nx (upd H4 D (.lst (acc ++ [y]))) else Nx H3))
    (done : ∀ H1 s1, Inv (hotBlk X s0 H0 sc ce fp) [] τ H1 s1 → P H1 → R (.ok .next) s1)
    (start : Mid X s0 H0 sc ce fp τ tn i H s) (w : W i m H) : codeAny (model X.prog X.w) X.A (.compLoop (.ListComp elt [⟨tg, iter, [], 0⟩] sc pos) 0 (.ref it) (.ref D) ce) R s := by
  have hcb : HotC (hotBlk X s0 H0 sc ce fp) := hc
  refine compLoop_any (fun m s => ∃ i H, Mid X s0 H0 sc ce fp τ tn i H s ∧ W i m H) (fun m s hm => ?_) m ⟨i, H, start, w⟩
  clear start w
  obtain ⟨i, H, M, w⟩ := hm
  have F := foot M.here ap M.off
  rcases turns i m H w with ⟨end_, p⟩ | ⟨more, Nx, dec, go⟩
  · exact thnF (T.done (hotBlk X s0 H0 sc ce fp) rfl rfl rfl hcb i [] s τ H (fun _ _ => False) M.here F M.turn end_) fun r s1 ⟨hr, J⟩ => by
      cases hr
      exact done H s1 J p
  · refine thnF (T.item (hotBlk X s0 H0 sc ce fp) rfl rfl rfl hcb i [] s τ H (fun _ _ => False) M.here F M.turn more) fun r s1 ⟨u, hr, nx⟩ => ?_
    cases hr
    refine thnF nx fun _ s2 ⟨x, H2, J2, rx, yx, st2, off2⟩ => ?_
    have J2p := J2.pinned (foot J2 ap off2) (T.obj _ _ st2)
    refine thnF (hg.run _ s2 τ H2 x u _ J2p rx (go x H2 yx)) fun _ s3 ⟨σ3, H3, J3, hw3, q3⟩ => ?_
    refine wpAny_tests_nil ?_
    have q3 : te σ3 H3 _ := q3
    show wpAny _ X.A (eval elt ce) _ _ _
    refine thnF (he.run _ s3 σ3 H3 _ J3 q3) fun v s4 ⟨y, H4, J4, ry, acc, hD, small, nx4⟩ => ?_
    refine app_ok (X := hotBlk X s0 H0 sc ce fp) J4 hD small ry fun s5 J5 => ?_
    obtain ⟨m5, lt5, w5⟩ := dec _ nx4
    exact ⟨m5, lt5, i + 1, _, Mid.next (vs := vs) T st2 J5 hw3, w5⟩
end
section
variable {X : Cx}
theorem pe_lcH {elt tg iter : Expr} {scope : Scope} {own : List (Str × Nat)} {pos : Pos} {wi : TI} {g : TG} {te : TE} (hc : HotC X) (nd : X.N.Nodup) (walk : PIH X tg iter wi) (blk : BlkOk X.N X.env.scope scope own)
    (hg : ∀ (s : Shared) (H : Hp) (C : Addr) (cl : List (Str × Addr)) (fp : List Addr), PG (hotBlk X s H scope (compEnvC scope cl C X.env) fp) tg g)
    (he : ∀ (s : Shared) (H : Hp) (C : Addr) (cl : List (Str × Addr)) (fp : List Addr), PE (hotBlk X s H scope (compEnvC scope cl C X.env) fp) elt te)
    (hs : ∀ x, foldedSetIterable iter X.env x = pure x := by intro _; rfl) : PE X (.ListComp elt [⟨tg, iter, [], 0⟩] scope pos) (tLc wi g tYes te (own.map (·.2))) := by
  constructor
  intro pins s σ H Q I want
  have caught : ∀ y ∈ scope.names, y.2 = .free → ∃ c, X.env.cells.lookup y.1 = some c := by
    intro y hy hk
    exact I.ok.has y.1 (blk.free y hy hk)
  rw [eval_ListComp]
  have places : ∀ y ∈ scope.names, y.2 = .local → scope.names.lookup y.1 = some .local := fun y hy hk => hk ▸ blk.uniq y hy
  refine wpAny_comprehension_free (use := none) rfl hs (closure_ok caught) blk.kind places ?_
  refine thn (walk.run pins s σ H _ I want) fun xv sA hA => thn hA fun itv sB hB => ?_
  obtain ⟨it, fp, tn, It', HB, rfl, IB, T, stB, fB, need⟩ := hB
  refine wpAny_newObj_type (newEnv_comp ?_) (Nat.zero_le sizeLine)
  -- the new list stands at D, the block's names at C
  obtain ⟨D, eD⟩ : ∃ D, D = sB.heap.objs.size := ⟨_, rfl⟩
  rw [← eD]
  obtain ⟨W, ⟨m0, w0⟩, turns⟩ := need D (IB.hok.fresh (Nat.le_of_eq eD.symm))
  obtain ⟨sC, eC⟩ : ∃ t : Shared, t = { sB with heap := sB.heap.push { cls := .type "list", data := .seq ([] : List Value).toArray } } := ⟨_, rfl⟩
  have kC : ∀ b o, sB.heap.get? b = some o → sC.heap.get? b = some o := fun b o e => by rw [eC]; exact Heap.get?_push_of_some _ e
  have IC : Inv X pins σ (upd HB D (.lst [])) sC := by
    have new : ObjOk X.prog X.w (upd HB D (.lst [])) sC.heap D (.lst []) := ⟨Nat.zero_le _, [], 0, .nil, by rw [eC, eD]; exact Heap.get?_push_size _ rfl⟩
    rw [eC] at kC new ⊢
    exact IB.laid (t' := sB.toks) kC (Nat.le_of_eq eD.symm) new
  have lC : sC.heap.objs.size = sB.heap.objs.size + 1 := by rw [eC]; exact Heap.size_push ..
  have inB : ∀ b ∈ fp, b < sB.heap.objs.size := fun b hb => let ⟨_, e, _⟩ := T.obj 0 _ stB b hb; Heap.lt_size e
  have fC : ∀ b ∈ fp, FpOk X pins (upd HB D (.lst [])) b ∧ b < sC.heap.objs.size := fun b hb => by
    obtain ⟨q0, q⟩ := fB b hb
    have lt := inB b hb
    exact ⟨⟨by rw [upd_ne (Nat.ne_of_lt (by rw [eD]; exact lt))]; exact q0, q⟩, by rw [lC]; exact Nat.lt_succ_of_lt lt⟩
  have ap : Apart X fp := fun b hb p hp => (fB b hb).2.2.2.2.2 p (List.mem_append_left _ hp)
  rw [← eC]
  obtain ⟨cl, ecl⟩ : ∃ cl, cl = cellsFrom (sC.heap.objs.size + 1) scope.names (cloFrom X.env.cells scope.names []) := ⟨_, rfl⟩
  have J0 := block_start IC blk nd fC
  rw [← ecl] at J0
  obtain ⟨sD, eDD⟩ : ∃ t : Shared, t = { sC with heap := pushCells (sC.heap.push { cls := .type "dict", data := .dict #[] }) scope.names } := ⟨_, rfl⟩
  have kD : ∀ b o, sC.heap.get? b = some o → sD.heap.get? b = some o := fun b o e => by
    rw [eDD]
    exact pushCells_keeps _ _ _ _ (Heap.get?_push_of_some _ e)
  rw [← eDD] at J0
  have J := hot_pins J0 fun p hp => by
    obtain ⟨q1, q2, q3, q4, q5⟩ := IC.pin p (List.mem_append_left _ hp)
    exact ⟨kD _ _ q1, q2, Nat.ne_of_lt (Heap.lt_size q1), fun hm => (List.mem_cons.mp (IC.stkSub _ hm)).elim q3 q4, q5⟩
  have st0 : tn 0 sD.heap := T.keep 0 _ _ stB fun b _ o e => kD b o (kC b o e)
  have M : Mid X sC (upd HB D (.lst [])) scope (compEnvC scope cl sC.heap.objs.size X.env) fp (wipe σ (own.map (·.2))) tn 0 (upd HB D (.lst [])) sD := ⟨J, st0, fun b hb => (fC b hb).1.1⟩
  have go : codeAny (model X.prog X.w) X.A (.compLoop (.ListComp elt [⟨tg, iter, [], 0⟩] scope pos) 0 (.ref it) (.ref D) (compEnvC scope cl sC.heap.objs.size X.env)) (compPost (model X.prog X.w) X.A X.xe none (EP X pins σ Q) (.ref D) sC.heap.objs.size) sD :=
    hot_walk (vs := own.map (·.2)) hc T ap (hg _ _ _ _ _) (he _ _ _ _ _) turns (fun H1 s1 J1 p => by
      obtain ⟨I1, ⟨nm, hnm⟩, f0, f1, f2, f3, f4, f5⟩ := Mid.leave IC (fun b hb => (fC b hb).1) rfl J1
      refine ⟨nm, hnm, fun h' same => ⟨.ref D, H1, I1.turned (t' := s1.toks) (fun b o nb e => ?_) f0 f1 f3 f4 f5, rfl, p⟩⟩
      rw [same.2 b nb]
      exact e) M w0
  rw [ecl] at go
  rw [eDD] at go
  exact codeAny_compStart_list go (T.self X.A 0 _ _ _ (by rw [eDD] at st0; exact st0) go)
end
/-! ### all(..) -/
section
variable {prog : Program} {w : World} {A : Around} {E : Value → Shared → Prop} {s : Shared} {x1 : Addr}
/-- a StopIteration is made and raised while x1 is handled: what was there is kept -/
theorem stop_hot {α : Type} {Q : α → Shared → Prop} (hot : HotX.HotAt A x1 s.heap)
    (out : ∀ (e : Addr) (h : Heap), (∀ b o, s.heap.get? b = some o → h.get? b = some o) → (∃ o, h.get? e = some o ∧ o.cls = .type "StopIteration") → E (.ref e) { s with heap := h }) :
    wpAny (model prog w) A (newExc (.type "StopIteration") [] >>= fun e => (raiseNew e : Sem α)) Q E s := by
  have two : ∀ {o1 o2 : Obj} b o, s.heap.get? b = some o → ((s.heap.push o1).push o2).get? b = some o := fun b o q => Heap.get?_push_of_some _ (Heap.get?_push_of_some _ q)
  obtain ⟨hh, o, vs, at1, dt1, cx1⟩ := hot
  unfold newExc newTuple
  refine wpAny_bind (wpAny_bind (wpAny_newObj_type (wpAny_bind (m := firstArgMember (.type "StopIteration") []) (wpAny_of_eq (a := Value.none) (by first | rfl | (unfold firstArgMember; rfl)) (wpAny_newObj_type ?_ (by size_fits)))) (by size_fits)))
  refine HotX.raiseNew_hot ⟨hh, o, vs, two _ _ at1, dt1, cx1⟩ (Nat.ne_of_lt (Heap.lt_size (Heap.get?_push_of_some _ at1))) (Heap.get?_push_size _ rfl) rfl (by rw [Array.size_append]; exact Nat.lt_of_lt_of_le (by decide : 2 < 6) (Nat.le_add_right 6 _)) (out _ _ (fun b u q => ?_) ⟨_, Heap.get?_update_self _ (Heap.get?_push_size _ rfl) rfl, rfl⟩)
  rw [Heap.get?_update_other _ _ (Nat.ne_of_gt (Heap.lt_size (Heap.get?_push_of_some _ q)))]
  exact two b u q
theorem list_done_hot {it l : Addr} {i : Nat} {items : Array Value} {Q : Option Value → Shared → Prop} (hot : HotX.HotAt A x1 s.heap) (other : x1 ≠ it) (li : s.heap.IsListIter it l i) (ls : s.heap.IsList l items) (past : items[i]? = none)
    (k : ∀ h, (∀ b o, b ≠ it → s.heap.get? b = some o → h.get? b = some o) → Q none { s with heap := h }) : wpAny (model prog w) A (pyNext (.ref it)) Q E s := by
  have ty := li.typeIs
  obtain ⟨oi, hi, _, di⟩ := li
  obtain ⟨ol, hl, _, _, dl⟩ := ls
  have fld : ∀ {A' : Around} {j : Nat} {v : Value} {Q' : Value → Shared → Prop} {E' : Value → Shared → Prop}, (#[Value.ref l, Value.int i 0])[j]? = some v → Q' v s → wpAny (model prog w) A' (field (.ref it) j) Q' E' s := fun h q => wpAny_field hi di h q
  have body := entry_listiter_next
  unfold pyNext
  refine wpAny_bind (wpAny_attempt (wpAny_callSpecial?_slot ty slot_listiter_next (wpAny_call_entry slot_listiter_next ty body ?_ (args_listiter_next _))))
  show wpAny _ _ (field (.ref it) 0 >>= fun x => _) _ _ s
  refine wpAny_bind (fld rfl ?_)
  dsimp only
  have nn : ((#[Value.ref l, Value.int (↑i) 0][0] : Value) == Value.none) = false := rfl
  simp only [nn, Bool.false_eq_true, ↓reduceIte]
  refine wpAny_bind (fld rfl (wpAny_bind (wpAny_seqItems hl dl ?_)))
  simp only [Int.toNat_natCast, past]
  refine wpAny_bind (wpAny_rule (wpAny_bind (wpAny_setField hi di (by simp) ?_)))
  have keep : ∀ b o, b ≠ it → s.heap.get? b = some o → (s.heap.update it (Obj.mapFields (·.setIfInBounds 0 .none))).get? b = some o := fun b o ne q => by
    rw [Heap.get?_update_other _ _ (Ne.symm ne)]
    exact q
  obtain ⟨hh, o1, vs, at1, d1, c1⟩ := hot
  refine stop_hot (A := A.in1) ⟨hh, o1, vs, keep _ _ other at1, d1, c1⟩ fun e h up ⟨oe, he, ce⟩ => ?_
  exact wpAny_bind (wpAny_isInstance (b := true) ⟨oe, he, ce⟩ isSubtype_stop (wpAny_pure (k h fun b o ne q => up b o (keep b o ne q))))
/-- the walk of a list, x1 handled -/
theorem list_walk_hot (hh : A.handled = some (.ref x1)) {it l : Addr} (nl : l ≠ it) (n1 : x1 ≠ it) (items : Array Value) :
    Walks prog w A it [it, l, x1] [it] items.size (fun j v => items[j]? = some v) (fun j h => HotX.HotAt A x1 h ∧ h.IsListIter it l j ∧ h.IsList l items) := by
  constructor
  · intro b hb
    exact List.mem_cons.mpr (.inl (List.mem_singleton.mp hb))
  · rintro j h h' ⟨⟨_, o, vs, e, d, c⟩, li, ls⟩ keep
    exact ⟨⟨hh, o, vs, keep x1 (by simp) o e, d, c⟩, li.at (keep it (by simp)), ls.at (keep l (by simp))⟩
  · rintro j s Q E lt ⟨⟨_, o, vs, e, d, c⟩, li, ls⟩ k
    refine wpAny_pyNext_list_item li ls (Array.getElem?_eq_getElem lt) fun h li' same => ?_
    have all := same.extBut
    exact k _ h s.toks (Array.getElem?_eq_getElem lt) ⟨⟨hh, o, vs, all x1 o n1 e, d, c⟩, li', ls.extBut all nl⟩ fun b u nb q => all b u (fun z => nb (z ▸ List.mem_singleton.mpr rfl)) q
  · rintro s Q E ⟨hot, li, ls⟩ k
    exact list_done_hot hot n1 li ls (Array.getElem?_eq_none (Nat.le_refl _)) fun h up => k h s.toks fun b u nb q => up b u (fun z => nb (z ▸ List.mem_singleton.mpr rfl)) q
  · rintro j s Q E ⟨_, li, _⟩ q
    exact wpAny_pyIter_listiter li q
end
theorem cr_allH {X : Cx} (hc : HotC X) : CallR X (.builtin "all") (rAll X.K) := by
  rintro pins s σ H _ us Q I r ⟨a, bs, rfl, sq, q⟩
  obtain ⟨p, ⟨hh, vs, dp, cp⟩, mp⟩ := hc
  have atp := (I.pin p (List.mem_append.mpr (.inl mp))).1
  have ap : p.1 ≠ s.heap.objs.size := Nat.ne_of_lt (Heap.lt_size atp)
  obtain ⟨its, rv, pl, _⟩ := I.list sq
  have eb := rv.bls
  rw [Vals.ref1 r]
  refine call_all_walk (iter_any pl.isList fun t et ⟨li, ls⟩ na => ?_)
  subst et
  refine ⟨_, _, _, _, _, _, _, rfl, list_walk_hot (A := X.A.in1) (x1 := p.1) hh na ap its.toArray, ⟨⟨hh, p.2, vs, Heap.get?_push_of_some _ atp, dp, cp⟩, li, ls⟩, truth_bools eb, fun h tk up => ?_⟩
  have same : ∀ b u, s.heap.get? b = some u → h.get? b = some u := fun b u e => up b u (fun z => Nat.lt_irrefl _ (List.mem_singleton.mp z ▸ Heap.lt_size e)) (Heap.get?_push_of_some _ e)
  have val : (List.range its.toArray.size).all (fun j => bs.getD j false) = bs.all id := by
    rw [← L2.all_range, eb]
    simp
  exact ⟨.bl (bs.all id), H, I.kept same, congrArg Value.bool val, q⟩
section
variable {X : Cx} {B : Bs} {elt tg iter a : Expr} {scope : Scope} {p pos : Pos} {wi : TI} {di : DI} {g : TG} {dg : DG} {te : TE} {de : DE} {ta : TA} {da : DA} {ix : List Nat}
structure XIH (X : Cx) (B : Bs) (tg iter : Expr) (wi : TI) (di : DI) : Prop where
  pi : PIH X tg iter wi
  si : SI X.K B wi di
theorem i_r1H (hm : X.mg "range" = none) (h : XA X B [a] ta da) (hg : Gl X "range" := by rfl) (hs : starEach [a] X.env = [(false, eval a X.env)] := by rfl) : XIH X B tg (.Call (.Name "range" p) [a] [] pos) (iRng1 ta) (dIR1 da) := ⟨L2H.pi_range1H hg hm h.pa hs, si_range1 h.sa⟩
/-- the tests (none) stand in the list of arguments for the printed text's sake -/
theorem x_lcH (own : List (Str × Nat)) (hc : HotC X) (nd : X.N.Nodup) (hi : XIH X B tg iter wi di) (blk : BlkOk X.N X.env.scope scope own)
    (hg : ∀ (B : Bs) (s : Shared) (H : Hp) (C : Addr) (cl : List (Str × Addr)) (fp : List Addr), XG (hotBlk X s H scope (compEnvC scope cl C X.env) fp) B tg g dg ix)
    (ht : ∀ (B : Bs) (s : Shared) (H : Hp) (C : Addr) (cl : List (Str × Addr)) (fp : List Addr), XTs (hotBlk X s H scope (compEnvC scope cl C X.env) fp) B [] tYes dYes)
    (he : ∀ (B : Bs) (s : Shared) (H : Hp) (C : Addr) (cl : List (Str × Addr)) (fp : List Addr), XE (hotBlk X s H scope (compEnvC scope cl C X.env) fp) B elt te de) (hix : ∀ i ∈ ix, i ∈ own.map (·.2)) (hs : ∀ x, foldedSetIterable iter X.env x = pure x := by intro _; rfl) :
    XE X B (.ListComp elt [⟨tg, iter, [], 0⟩] scope pos) (tLc wi g tYes te (own.map (·.2))) (dLc di dg dYes de (own.map (·.2))) where
  pe := pe_lcH hc nd hi.pi blk (fun s H C cl fp => (hg B s H C cl fp).pg) (fun s H C cl fp => (he B s H C cl fp).pe) hs
  se := se_lc hi.si (fun B => (hg B X.s_0 X.H_0 0 [] []).sg) (fun B => (ht B X.s_0 X.H_0 0 [] []).st) (fun B => (he B X.s_0 X.H_0 0 [] []).se) hix
end
end DL

set_option Elab.async false
set_option linter.all false
set_option maxRecDepth 100000
set_option maxHeartbeats 2000000
/-! ### dicts once more: get with a default, a copy, clear; reversed(range(n)); len(set(xs)) -/
namespace DL
open PySem PySem.Spec PyProof.Rows L2
open Evl (Ex ex_l ex_t)
def dDGet2 (dd dk dx : DE) (γ : Env) (q : RS → Env → Prop) : Prop := dd γ fun s γ1 => match s.data with
  | .dct kd => dk γ1 fun t γ2 => dx γ2 fun u γ3 => s.ok γ3 ∧ u.kept ∧ ∃ k, keyD t.data = some k ∧ q (.val ((vlk kd k).getD u.data)) γ3
  | _ => False
section
variable {K : PySem.W.Frag} {B : Bs}
theorem se_dget2 {td tk tx : TE} {dd dk dx : DE} (hd : SE K B td dd) (hk : SE K B tk dk) (hx : SE K B tx dx) : SE K B (tDGet2 td tk tx) (dDGet2 dd dk dx) := fun F H σ γ Q q R hq k => by
  refine hd F H σ γ _ _ R hq fun x F1 H1 γ1 s R1 e1 o1 h1 => ?_
  obtain ⟨F2, R2, e2, o2⟩ := o1.fz R1
  split at h1
  · rename_i kd es
    have rx := o2.rs R2
    rw [RS.fz_data, es] at rx
    obtain ⟨a, kv, rfl, ha, ra⟩ := rx.dct R2.fh
    refine ⟨a, rfl, .inl ⟨kv, ha⟩, hk F2 H1 σ γ1 _ _ R2 h1 fun y F3 H3 γ3 t R3 e3 o3 h3 => hx F3 H3 σ γ3 _ _ R3 h3 fun z F4 H4 γ4 u R4 e4 o4 ⟨h4, hu, kk, hkk, hq⟩ => ?_⟩
    have hy := key_v hkk (o3.rs R3)
    subst hy
    obtain ⟨F5, R5, e5, o5⟩ := o4.fz R4
    have rz := kept_rp o5 hu
    have ox := (o2.later ((e3.trans e4).trans e5) R5 (fz_ok s γ4 h4) (fz_idem s)).rs R5
    rw [RS.fz_data, es] at ox
    obtain ⟨a', kv', ea, ha', ra'⟩ := ox.dct R5.fh
    cases ea
    refine ⟨_, dgetR ha', ?_⟩
    have ex : Ex F F5 := (((e1.trans e2).trans e3).trans e4).trans e5
    rcases ks_val (k := kk) ra' with ⟨z1, z2⟩ | ⟨v, d, g1, g2, g3⟩
    · rw [z1]
      rw [z2] at hq
      exact k _ F5 H4 γ4 (.val _) R5 ex rz hq
    · rw [g1]
      rw [g2] at hq
      exact k _ F5 H4 γ4 (.val _) R5 ex g3 hq
  · exact h1.elim
/-! dict(d) -/
def fDict : List D → (RS → Prop) → Prop
  | [.dct kd], q => q (.new (.dct kd))
  | _, _ => False
theorem cd_dict : CallD K (fun xs H Q => ∃ (a : Addr) (kvs : List (Key × V)), xs = [.ref a] ∧ Rd H a (.dK kvs) ∧ ∀ p, H p = none → Q (.ref p) (upd H p (.dK kvs))) fDict := fun B F H σ γ xs ds Q q R rx hf k => by
  unfold fDict at hf
  split at hf
  · obtain ⟨x, rfl, r⟩ := one_rs rx
    obtain ⟨a, kv, rfl, ha, ra⟩ := r.dct R.fh
    refine ⟨a, kv, rfl, ha, fun p hp => ?_⟩
    obtain ⟨R', o⟩ := R.newK hp ra
    exact k _ F _ _ R' (Evl.Ex.refl F) o hf
  · exact hf.elim
/-! d.clear() -/
def dDClear (j : Nat) (γ : Env) (q : RS → Env → Prop) : Prop := match look γ j with
  | .own p (.dct _) => q (.val .non) (put γ j (.own p (.dct [])))
  | _ => False
theorem se_dclear {j : Nat} : SE K B (tBM0 K "dict" rDClear (tVar j)) (dDClear j) := fun F H σ γ Q q R hq k => by
  unfold dDClear at hq
  split at hq
  · rename_i p kd hl
    obtain ⟨a, hs, _, _, kv, ha, _⟩ := R.own hl
    exact ⟨_, hs, .inr (.inr (.inl ⟨rfl, .inl ⟨kv, ha⟩⟩)), a, kv, rfl, rfl, ha, k _ F _ _ (.val .non) (R.writeK hl hs ha .nil) (Evl.Ex.refl F) .non hq⟩
  · exact hq.elim
/-! reversed(range(n)) -/
def dIRR (dn : DE) (γ : Env) (r : Nat → (Nat → D → Prop) → Env → Prop) : Prop := dn γ fun s γ1 => match s.data with
  | .int n => -1000000000000 ≤ n ∧ n ≤ 1000000000000 ∧ r n.toNat (fun i d => d = .int (n - 1 - i)) γ1
  | _ => False
theorem si_revR {te : TE} {de : DE} (h : SE K B te de) : SI K B (iRevR (tRg1 te)) (dIRR de) := fun F H σ γ W r R hq k => by
  refine h F H σ γ _ _ R hq fun v F1 H1 γ1 s R1 e1 o1 h1 => ?_
  split at h1
  · rename_i n es
    obtain ⟨b1, b2, h2⟩ := h1
    have rv := o1.rs R1
    rw [es] at rv
    refine ⟨n, rv.int, by decide, by decide, by omega, by omega, ?_⟩
    have e0 : (n - 0).toNat = n.toNat := by omega
    rw [e0]
    by_cases c : 0 ≤ n
    · have ee : (0 : Int) + ((n.toNat : Nat) : Int) - 1 = n - 1 := by omega
      rw [ee]
      refine k _ F1 H1 γ1 _ _ R1 e1 jo_rangeC ?_
      have ey : (fun (i : Nat) (d : D) => d = .int (n - 1 + (i : Int) * (-1))) = fun i d => d = .int (n - 1 - i) := by
        funext i d
        rw [show n - 1 + (i : Int) * (-1) = n - 1 - i by omega]
      rw [ey]
      exact h2
    · have en : n.toNat = 0 := by omega
      rw [en] at h2 ⊢
      exact k _ F1 H1 γ1 0 _ R1 e1 ⟨fun _ _ _ _ _ i _ _ lt => absurd lt (Nat.not_lt_zero _), fun _ _ _ _ _ i _ _ _ _ lt => absurd lt (Nat.not_lt_zero _), fun _ _ _ _ _ i _ _ _ => Nat.zero_le i⟩ h2
  · exact h1.elim
/-! len(set(xs)), xs numbers of which none comes twice -/
def dLenSet (de : DE) (γ : Env) (q : RS → Env → Prop) : Prop := de γ fun s γ1 => match s.data with
  | .lst ds => ∃ ns : List Int, ds = ns.map D.int ∧ ns.Nodup ∧ ns.length ≤ 4000 ∧ q (.val (.int ns.length)) γ1
  | _ => False
theorem se_lenSet {te : TE} {de : DE} (h : SE K B te de) : SE K B (RZ.tLenSetI K te) (dLenSet de) := fun F H σ γ Q q R hq k => by
  refine h F H σ γ _ _ R hq fun v F1 H1 γ1 s R1 e1 o1 h1 => ?_
  split at h1
  · rename_i ds es
    obtain ⟨ns, rfl, nd, ln, hq⟩ := h1
    have rv := o1.rs R1
    rw [es] at rv
    obtain ⟨a, vs, rfl, ha, ra⟩ := rv.lst R1.fh
    have ev := rp_ints ra
    subst ev
    exact ⟨a, ns, rfl, Evl.sq_of ha, nd, ln, k _ F1 H1 γ1 (.val _) R1 e1 (.int _) hq⟩
  · exact h1.elim
end
section
variable {X : Cx} {B : Bs} {o e f : Expr} {to te tf : TE} {d de df : DE} {apos pos p p2 q : Pos} {tg : Expr}
theorem x_dget2 (hu : X.A.units + 1 < cLine) (ho : XE X B o to d) (he : XE X B e te de) (hf : XE X B f tf df) (m : M2 X o "get" apos e f pos := by exact ⟨rfl, rfl, rfl, rfl⟩) : XE X B (.Call (.Attribute o "get" apos) [e, f] [] pos) (tDGet2 to te tf) (dDGet2 d de df) := ⟨pe_dget2 hu ho.pe he.pe hf.pe m, se_dget2 ho.se he.se hf.se⟩
theorem x_dclear (j : Nat) {x : Str} {xp : Pos} (hN : X.N[j]? = some x := by rfl) (hv : Vis X.env.scope x := by first | exact Or.inl rfl | exact Or.inr (Or.inl rfl) | exact Or.inr (Or.inr rfl)) (hd : (x == ("__debug__" : Str)) = false := by decide)
    (hcd : (x == ("__classdict__" : Str)) = false := by decide) (hbase : attributeBase (.Name x xp) "clear" X.env (eval (.Name x xp) X.env) = eval (.Name x xp) X.env := by rfl) (hline : (apos.endLine == pos.line) = true := by rfl) :
    XE X B (.Call (.Attribute (.Name x xp) "clear" apos) [] [] pos) (tBM0 X.K "dict" rDClear (tVar j)) (dDClear j) := ⟨pe_dclear (pe_var hN hv hd hcd) hbase hline, se_dclear⟩
theorem i_revR (hm : X.mg "reversed" = none) (hm2 : X.mg "range" = none) (he : XE X B e te de) (hg : Gl X "reversed" := by rfl) (hg2 : Gl X "range" := by rfl) (hs : starEach [e] X.env = (false, eval e X.env) :: starEach [] X.env := by rfl)
    (hs2 : starEach [.Call (.Name "range" p2) [e] [] q] X.env = (false, eval (.Call (.Name "range" p2) [e] [] q) X.env) :: starEach [] X.env := by rfl) :
    XI X B tg (.Call (.Name "reversed" p) [.Call (.Name "range" p2) [e] [] q] [] pos) (iRevR (tRg1 te)) (dIRR de) := ⟨pi_revR hg hm (prg_1 hg2 hm2 he.pe hs) hs2, si_revR he.se⟩
theorem x_lenSet (hm : X.mg "len" = none) (hm2 : X.mg "set" = none) (he : XE X B e te de) (hg : Gl X "len" := by rfl) (hg2 : Gl X "set" := by rfl) (hc : X.calm = true := by rfl) (na : starEach [e] X.env = (false, eval e X.env) :: starEach [] X.env := by rfl) :
    XE X B (.Call (.Name "len" p) [.Call (.Name "set" p2) [e] [] q] [] pos) (RZ.tLenSetI X.K te) (dLenSet de) := ⟨RZ.pe_lenSetI hg hm hg2 hm2 he.pe hc na, se_lenSet he.se⟩
end
end DL

set_option Elab.async false
set_option linter.all false
set_option maxRecDepth 100000
set_option maxHeartbeats 2000000
/-! ### max(xs, default=d) of numbers; three comparisons in a row -/
namespace DL
open PySem PySem.Spec PyProof.Rows L2
open Evl (Ex ex_l ex_t)
def mxd : List Int → Int → Int
  | [], d => d
  | n :: r, _ => r.foldl max n
theorem reads_ints {h : Heap} : ∀ {ns : List Int} {us : List Value}, Vals (ns.map V.int) us → ∃ as, ReadsAll h us (ns.map PyData.int) as
  | [], _, .nil => ⟨[], .nil⟩
  | n :: ns, _, .cons r t => by
    obtain ⟨k, rfl⟩ := r
    obtain ⟨as, q⟩ := reads_ints t
    exact ⟨_, .cons (.int n k) q⟩
theorem depth_intsD : ∀ ns : List Int, PyData.depthAll (ns.map PyData.int) = 0
  | [] => by simp [PyData.depthAll]
  | n :: ns => by
    rw [List.map_cons, PyData.depthAll, depth_intsD ns]
    simp [PyData.depth]
def rMaxDf (K : PySem.W.Frag) : List V → List V → Hp → VK → Prop := fun vs zs H Q => ∃ (a : Addr) (ns : List Int) (d : Int), vs = [.ref a] ∧ zs = [.int d] ∧ SqL K H a (ns.map V.int) ∧ Q (.int (mxd ns d)) H
theorem cr_maxDf {X : Cx} (hc : X.calm = true) (hu : X.A.units + 1 < cLine) : CallRK X (.builtin "max") [("default" : Str)] (rMaxDf X.K) := by
  rintro pins s σ H xs zs us ws Q I r rz ⟨a, ns, d, rfl, rfl, sq, q⟩
  obtain ⟨its, rv, pl, _⟩ := I.list sq
  obtain ⟨as, rd⟩ := reads_ints (h := s.heap) rv
  rw [Vals.ref1 r]
  cases rz with
  | cons rd0 t =>
  cases t
  obtain ⟨td, rfl⟩ := rd0
  have al : PySem.W.AlikeAll (ns.map PyData.int) := ⟨fun x hx y hy => by
    obtain ⟨i, _, rfl⟩ := List.mem_map.mp hx
    obtain ⟨j, _, rfl⟩ := List.mem_map.mp hy
    rfl, fun x hx => by
    obtain ⟨i, _, rfl⟩ := List.mem_map.mp hx
    exact fun z => by cases z⟩
  refine PySem.W.max_list_default (A := X.A) (I.ok.hd hc) pl.isList rd al (by rw [depth_intsD]; exact hu) (fun e h tk up => ?_) (fun y ys i v h tk bs e _ rv up => ?_)
  · have : ns = [] := List.map_eq_nil_iff.mp e
    subst this
    exact ⟨.int d, H, I.kept up, ⟨td, rfl⟩, q⟩
  · cases ns with
    | nil => cases e
    | cons n r =>
      cases e
      rw [PySem.W.maxD_ints] at rv
      cases rv with
      | int _ k => exact ⟨.int _, H, I.kept up, ⟨k, rfl⟩, q⟩
def dMaxD (da : DE) (dz : DE) (γ : Env) (q : RS → Env → Prop) : Prop := da γ fun s γ1 => match s.data with
  | .lst ds => dz γ1 fun t γ2 => s.ok γ2 ∧ ∃ (ns : List Int) (d : Int), ds = ns.map D.int ∧ t.data = .int d ∧ q (.val (.int (mxd ns d))) γ2
  | _ => False
theorem se_maxD {K : PySem.W.Frag} {B : Bs} {ta tz : TE} {da dz : DE} (ha : SE K B ta da) (hz : SE K B tz dz) : SE K B (tCKw (rMaxDf K) (tCons ta tNil) (tCons tz tNil)) (dMaxD da dz) := fun F H σ γ Q q R hq k => by
  refine ha F H σ γ _ _ R hq fun x F1 H1 γ1 s R1 e1 o1 h1 => ?_
  obtain ⟨F2, R2, e2, o2⟩ := o1.fz R1
  split at h1
  · rename_i ds es
    refine hz F2 H1 σ γ1 _ _ R2 h1 fun z F3 H3 γ3 t R3 e3 o3 ⟨h3, ns, d, en, et, hq⟩ => ?_
    have ox := (o2.later e3 R3 (fz_ok s γ3 h3) (fz_idem s)).rs R3
    rw [RS.fz_data, es] at ox
    obtain ⟨a, vs, rfl, hl, ra⟩ := ox.lst R3.fh
    subst en
    have ev := rp_ints ra
    subst ev
    have rz := o3.rs R3
    rw [et] at rz
    have ez := rz.int
    subst ez
    exact ⟨a, ns, d, rfl, rfl, Evl.sq_of hl, k _ F3 H3 γ3 (.val _) R3 ((e1.trans e2).trans e3) (.int _) hq⟩
  · exact h1.elim
theorem x_maxD {X : Cx} {B : Bs} {e z : Expr} {te tz : TE} {de dz : DE} {p pos kp : Pos} (hu : X.A.units + 1 < cLine) (hm : X.mg "max" = none) (he : XE X B e te de) (hz : XE X B z tz dz) (hc : X.calm = true := by rfl) (hg : Gl X "max" := by rfl) (hv : bootBuiltins "max" = some (.builtin "max") := by decide +kernel)
    (hs : starEach (e :: []) X.env = (false, eval e X.env) :: starEach [] X.env := by rfl)
    (h1 : backTo pos (starEach (e :: []) X.env) = (false, eval e X.env) :: backTo pos (starEach [] X.env) := by rfl) (h2 : (backTo pos (starEach (e :: []) X.env)).any (·.1) = false := by rfl)
    (h3 : (backToKw pos (keywordEach [⟨some ("default" : Str), z, kp⟩] X.env)).all (·.1.isSome) = true := by rfl) (h4 : (backToKw pos (keywordEach [⟨some ("default" : Str), z, kp⟩] X.env)).any (·.1.isNone) = false := by rfl)
    (h5 : (backToKw pos (keywordEach [⟨some ("default" : Str), z, kp⟩] X.env)).filterMap (·.1) = [("default" : Str)] := by rfl) :
    XE X B (.Call (.Name "max" p) [e] [⟨some ("default" : Str), z, kp⟩] pos) (tCKw (rMaxDf X.K) (tCons te tNil) (tCons tz tNil)) (dMaxD de dz) :=
  ⟨pe_callBK (cr_maxDf hc hu) hg hm hv (pa_cons he.pe pa_nil hs) (pk_cons hz.pe pk_nil) (by decide) (by decide) h1 h2 h3 h4 h5, se_maxD he.se hz.se⟩
end DL

set_option Elab.async false
set_option linter.all false
set_option maxRecDepth 100000
set_option maxHeartbeats 2000000
/-! ### a <= b <= c < d of numbers, as a test -/
namespace DL
open PySem PySem.Spec PyProof.Rows L2
open Evl (Ex ex_l ex_t)
/-- the comparison of two numbers that an operator makes -/
def rCI (f : Int → Int → Bool) : R2 := fun x y H Q => ∃ i j, x = .int i ∧ y = .int j ∧ Q (.bl (f i j)) H
def tCh3 (r1 r2 r3 : R2) (ta tb tc td : TE) : TT := fun σ H Q => ta σ H fun x H1 => tb σ H1 fun y H2 => r1 x y H2 fun z H3 => ∃ k, z = .bl k ∧ (if k = true then tc σ H3 fun x' H4 => r2 y x' H4 fun z H5 => ∃ k, z = .bl k ∧
  (if k = true then td σ H5 fun y' H6 => r3 x' y' H6 fun z H7 => ∃ k, z = .bl k ∧ Q k H7 else Q false H5) else Q false H3)
section
variable {X : Cx} {a b c d : Expr} {pos : Pos} {ta tb tc td : TE} {o1 o2 o3 : CmpOp} {r1 r2 r3 : R2}
theorem pt_ch3 (h1 : OpR X (compareOp o1) r1) (h2 : OpR X (compareOp o2) r2) (h3 : OpR X (compareOp o3) r3) (ha : PE X a ta) (hb : PE X b tb) (hc : PE X c tc) (hd : PE X d td) (hm : lastMarks [o1, o2, o3] [b, c, d] = false) :
    PT X (.Compare a [o1, o2, o3] [b, c, d] pos) (tCh3 r1 r2 r3 ta tb tc td) := by
  constructor
  intro pins s σ H Q I want
  refine isTrue_chain (thn (ha.run pins s σ H _ I want) fun v1 t1 ⟨x1, H1, J1, e1, q1⟩ => test_link (thn (hb.run pins t1 σ H1 _ J1 q1) fun v2 t2 ⟨x2, H2, J2, e2, q2⟩ => thn (h1 pins t2 σ H2 x1 x2 v1 v2 _ J2 e1 e2 q2) fun v3 t3 ⟨x3, H3, J3, e3, k, ek, q3⟩ => ?_)) hm
  subst ek
  cases e3
  refine wpAny_truthy_bool ?_
  cases k
  · exact ite_ff ⟨H3, J3, q3⟩
  refine ite_tt (test_link (thn (hc.run pins t3 σ H3 _ J3 q3) fun v4 t4 ⟨x4, H4, J4, e4, q4⟩ => thn (h2 pins t4 σ H4 x2 x4 v2 v4 _ J4 e2 e4 q4) fun v5 t5 ⟨x5, H5, J5, e5, k, ek, q5⟩ => ?_))
  subst ek
  cases e5
  refine wpAny_truthy_bool ?_
  cases k
  · exact ite_ff ⟨H5, J5, q5⟩
  refine ite_tt (test_last (thn (hd.run pins t5 σ H5 _ J5 q5) fun v6 t6 ⟨x6, H6, J6, e6, q6⟩ => thn (h3 pins t6 σ H6 x4 x6 v4 v6 _ J6 e4 e6 q6) fun v7 t7 ⟨x7, H7, J7, e7, k, ek, q7⟩ => ?_))
  subst ek
  cases e7
  exact wpAny_truthy_bool ⟨H7, J7, q7⟩
end
/-- what the comparison tells of two numbers -/
def CI (K : PySem.W.Frag) (r : R2) (f : Int → Int → Bool) : Prop := ∀ (i j : Int) (H : Hp) (Q : VK), Q (.bl (f i j)) H → r (.int i) (.int j) H Q
def dCh3 (f g h : Int → Int → Bool) (da db dc dd : DE) (γ : Env) (q : Bool → Env → Prop) : Prop := da γ fun s γ1 => db γ1 fun t γ2 => ∃ i j, s.data = .int i ∧ t.data = .int j ∧ (f i j = true → dc γ2 fun u γ3 => ∃ k, u.data = .int k ∧ (g j k = true → dd γ3 fun v γ4 => ∃ l, v.data = .int l ∧ q (h k l) γ4) ∧ (g j k = false → q false γ3)) ∧ (f i j = false → q false γ2)
theorem st_ch3 {K : PySem.W.Frag} {B : Bs} {ta tb tc td : TE} {da db dc dd : DE} {r1 r2 r3 : R2} {f g h : Int → Int → Bool} (h1 : CI K r1 f) (h2 : CI K r2 g) (h3 : CI K r3 h) (ha : SE K B ta da) (hb : SE K B tb db) (hc : SE K B tc dc) (hd : SE K B td dd) : ST K B (tCh3 r1 r2 r3 ta tb tc td) (dCh3 f g h da db dc dd) := fun F H σ γ Q q R hq k => by
  have num : ∀ {F H γ v s i}, Rep K B F H σ γ → RsOk K B F H σ γ v s → s.data = .int i → v = .int i := fun R o e => by
    have r := o.rs R
    rw [e] at r
    exact r.int
  refine ha F H σ γ _ _ R hq fun x F1 H1 γ1 s R1 e1 o1 q1 => hb F1 H1 σ γ1 _ _ R1 q1 fun y F2 H2 γ2 t R2 e2 o2 ⟨i, j, es, et, qt, qf⟩ => ?_
  rw [num R1 o1 es, num R2 o2 et]
  refine h1 i j _ _ ⟨_, rfl, ?_⟩
  cases c1 : f i j with
  | false => exact k _ F2 H2 γ2 R2 (e1.trans e2) (qf c1)
  | true =>
    refine hc F2 H2 σ γ2 _ _ R2 (qt c1) fun z F3 H3 γ3 u R3 e3 o3 ⟨l, eu, qt2, qf2⟩ => ?_
    rw [num R3 o3 eu]
    refine h2 j l _ _ ⟨_, rfl, ?_⟩
    cases c2 : g j l with
    | false => exact k _ F3 H3 γ3 R3 ((e1.trans e2).trans e3) (qf2 c2)
    | true =>
      refine hd F3 H3 σ γ3 _ _ R3 (qt2 c2) fun w F4 H4 γ4 v R4 e4 o4 ⟨m, ev, q4⟩ => ?_
      rw [num R4 o4 ev]
      exact h3 l m _ _ ⟨_, rfl, k _ F4 H4 γ4 R4 (((e1.trans e2).trans e3).trans e4) q4⟩
section
variable {X : Cx} {B : Bs} {a b c d : Expr} {pos : Pos} {ta tb tc td : TE} {da db dc dd : DE} {o1 o2 o3 : CmpOp} {r1 r2 r3 : R2} {f g h : Int → Int → Bool}
theorem t_ch3 (p1 : OpR X (compareOp o1) r1) (p2 : OpR X (compareOp o2) r2) (p3 : OpR X (compareOp o3) r3) (h1 : CI X.K r1 f) (h2 : CI X.K r2 g) (h3 : CI X.K r3 h) (ha : XE X B a ta da) (hb : XE X B b tb db) (hc : XE X B c tc dc) (hd : XE X B d td dd)
    (hm : lastMarks [o1, o2, o3] [b, c, d] = false := by with_unfolding_all rfl) : XT X B (.Compare a [o1, o2, o3] [b, c, d] pos) (tCh3 r1 r2 r3 ta tb tc td) (dCh3 f g h da db dc dd) :=
  ⟨pt_ch3 p1 p2 p3 ha.pe hb.pe hc.pe hd.pe hm, st_ch3 h1 h2 h3 ha.se hb.se hc.se hd.se⟩
end
theorem ci_le {K : PySem.W.Frag} : CI K (rI0 fun i j => .bl (decide (i ≤ j))) fun i j => decide (i ≤ j) := fun i j H Q q => ⟨i, j, rfl, rfl, q⟩
theorem ci_lt {K : PySem.W.Frag} : CI K (rI0 fun i j => .bl (decide (i < j))) fun i j => decide (i < j) := fun i j H Q q => ⟨i, j, rfl, rfl, q⟩
end DL

set_option Elab.async false
set_option linter.all false
set_option maxRecDepth 100000
set_option maxHeartbeats 4000000
namespace DL
open PySem PySem.Spec PyProof.Rows L2
section
variable {P : Program} {w : World} {A : Around} {E : Value → Shared → Prop} {s : Shared}
theorem type_made {T newId initId : String} {args : List Value} {Q1 Q : Value → Shared → Prop} (ft : TypeCalled T newId initId) (takes : checkTypeCall T ⟨args, []⟩ = pure ()) (new : codeAny (model P w) A.in1 (.call (.builtin newId) ⟨.type T :: args, []⟩) (wants Q1 E) s)
    (init : ∀ obj t, Q1 obj t → t.TypeIs obj T ∧ codeAny (model P w) A.in1 (.call (.builtin initId) ⟨obj :: args, []⟩) (wants (fun r t2 => r = .none ∧ Q obj t2) E) t) : wpAny (model P w) A (call (.type T) args) Q E s := by
  have entry := F.entry_type_call
  have weigh := weight_type_call_type T args []
  obtain ⟨_, _, mro⟩ := ft.mro
  have f1 := ft.made
  have f2 := ft.notType
  have f3 := ft.canCreate
  have f4 := ft.sub
  refine wpAny_call (codeAny_of_tree (show wpAny _ _ (callAny (.type T) _) _ _ _ from wpAny_pure ⟨Code.quiet_builtin _ (by decide +kernel), codeAny_builtin entry ?_⟩))
  rw [Around.under_plain weigh rfl]
  repeat (any_goals (first | assumption | wp_step))
  refine codeAny_mono new fun r t hr => ?_
  rcases r with e | f
  · exact hr
  cases f with
  | ret obj =>
    have hm := init obj t hr
    have at0 := hm.1
    have g1 := ft.init.lookup
    have g2 := ft.init.bind obj
    repeat (any_goals (first | assumption | wp_step))
    refine codeAny_mono hm.2 fun r2 t2 done => ?_
    rcases r2 with e | f2
    · exact done
    cases f2 with
    | ret x =>
      obtain ⟨rfl, q⟩ := done
      exact wpAny_pure (wpAny_pure q)
    | _ => exact done.elim
  | _ => exact hr.elim
theorem set_of_list {l : Addr} {items : Array Value} {ns : List Int} {Q : Value → Shared → Prop} (hh : A.handled = none) (hl : s.heap.IsList l items) (hi : IntsAre items.toList ns) (few : ns.length + 1 < scanBound)
    (k : ∀ (h : Heap) (tk c : Nat), SetR w h s.heap.objs.size (fun j => decide (j ∈ ns)) c → c ≤ ns.length → (∀ b o, s.heap.get? b = some o → h.get? b = some o) → Q (.ref s.heap.objs.size) { s with heap := h, toks := tk }) :
    wpAny (model P w) A (call (.type "set") [.ref l]) Q E s := by
  refine type_made (Q1 := fun obj t => obj = .ref s.heap.objs.size ∧ t = { s with heap := s.heap.push { cls := .type "set", dict := none, data := .set #[] 0 (.fresh 0 0 (!w.params.followText "set-order")) } }) F.called_set (F.typeCall_set_1 (.ref l)) (code_set_led1 (.ref l) ⟨rfl, rfl⟩) ?_
  rintro obj t ⟨rfl, rfl⟩
  refine ⟨⟨_, Heap.get?_push_size _ rfl, rfl⟩, ?_⟩
  have gs : (s.heap.push { cls := .type "set", dict := none, data := .set #[] 0 (.fresh 0 0 (!w.params.followText "set-order")) }).get? s.heap.objs.size = some { cls := .type "set", dict := none, data := .set #[] 0 (.fresh 0 0 (!w.params.followText "set-order")) } := Heap.get?_push_size _ rfl
  have ty : Shared.TypeIs { s with heap := s.heap.push { cls := .type "set", dict := none, data := .set #[] 0 (.fresh 0 0 (!w.params.followText "set-order")) } } (.ref s.heap.objs.size) "set" := ⟨_, gs, rfl⟩
  obtain ⟨⟨oc, od, odt, osl⟩, gl, cl, nl, dl⟩ := id hl
  cases cl
  cases dl
  have gl1 := Heap.get?_push_of_some { cls := .type "set", dict := none, data := .set #[] 0 (.fresh 0 0 (!w.params.followText "set-order")) } gl
  have noD : (Value.type "list" == Value.type "dict") = false := by decide
  have s1 := F.sub_list_set
  have s2 := F.sub_list_frozenset
  refine codeAny_call_builtin F.called_set.init.plain F.entry_set_init (check_set_init_1 ty ?_)
  unfold Builtin.«set.__init__» noKeywords Builtin.Frozenset.updateFrom
  generalize hp : pyIter = walk
  wp_walk
  subst hp
  have ne1 : l ≠ s.heap.objs.size := Nat.ne_of_lt (Heap.lt_size gl)
  obtain ⟨z, ez⟩ : ∃ z, z = (s.heap.push { cls := .type "set", dict := none, data := .set #[] 0 (.fresh 0 0 (!w.params.followText "set-order")) }).objs.size := ⟨_, rfl⟩
  have sz : z = s.heap.objs.size + 1 := ez.trans (Heap.size_push ..)
  have ll : l < s.heap.objs.size := Heap.lt_size gl
  refine wpAny_pyIter_list ⟨_, gl1, rfl, nl, rfl⟩ (wpAny_bind (wpAny_runValue ?_))
  rw [← ez]
  have small : items.size = ns.length := by
    have q := IntsAre.length hi
    rwa [Array.length_toList] at q
  have val : ∀ (i : Nat) (v : Value), items[i]? = some v → ∃ k t, ns[i]? = some k ∧ v = .int k t := fun i v hv => by
    have lt : i < ns.length := by rw [← small]; exact (Array.getElem?_eq_some_iff.mp hv).1
    obtain ⟨t, e⟩ := IntsAre.int_at hi i v (by rw [Array.getElem?_toList]; exact hv)
    refine ⟨ns[i], t, List.getElem?_eq_getElem lt, ?_⟩
    rw [e]
    congr 1
    rw [List.getD_eq_getElem?_getD, List.getElem?_eq_getElem lt]
    rfl
  have three : A.in1.in1.in1.handled = none := hh
  refine set_update_ints ((Walks.list three z l (by rw [sz]; exact Nat.ne_of_lt (Nat.lt_succ_of_lt ll)) items).toS) s.heap.objs.size (by rw [sz]; simp only [List.mem_cons, List.not_mem_nil, or_false, not_or]; exact ⟨Nat.ne_of_lt (Nat.lt_succ_self _), Nat.ne_of_gt ll⟩) ns small few val items.size 0 _ (by omega) (Nat.zero_le _) ⟨⟨_, by rw [ez]; exact Heap.get?_push_size _ rfl, rfl, rfl⟩, ⟨_, Heap.get?_push_of_some _ gl1, rfl, nl, rfl⟩⟩
    ⟨0, Nat.le_refl 0, setR_new_at (Heap.get?_push_of_some _ gs)⟩ fun s' c mv cn R => ?_
  rw [mv.eq_with]
  rw [small] at cn
  refine wpAny_pure (wpAny_pure ⟨rfl, k s'.heap s'.toks c R cn fun b o e => ?_⟩)
  have lb : b < s.heap.objs.size := Heap.lt_size e
  refine mv.heap b o (fun hm => ?_) (Heap.get?_push_of_some _ (Heap.get?_push_of_some _ e))
  rcases List.mem_cons.mp hm with q | hm
  · exact Nat.ne_of_lt lb q
  · have q := List.mem_singleton.mp hm
    rw [sz] at q
    exact Nat.ne_of_lt (Nat.lt_succ_of_lt lb) q
end
section
variable {X : Cx}
/-! set(xs), xs a list of ints; sorted(set(xs)) as one expression: no data stand for a set -/
def rSetL (K : PySem.W.Frag) (w : World) : List V → Hp → VK → Prop := fun vs H Q => ∃ (l : Addr) (ns : List Int), vs = [V.ref l] ∧ SqL K H l (ns.map V.int) ∧ ns.length < 64 ∧
  ∀ (p : Addr) (c : Nat), c ≤ ns.length → H p = none → Q (.ref p) (upd H p (SetO w p (fun j => decide (j ∈ ns)) c))
theorem cr_setL (hc : X.calm = true) : CallR X (.type "set") (rSetL X.K X.w) := by
  intro pins s σ H vs us Q I r h
  obtain ⟨l, ns, rfl, hq, few, q⟩ := h
  rw [Vals.ref1 r]
  obtain ⟨its, rv, pl, hz⟩ := I.list hq
  refine set_of_list (I.ok.hd hc) pl.isList (by simpa using ints_of_vals rv) (by unfold scanBound; omega) fun h2 tk c R cn old => ?_
  exact ⟨.ref _, _, I.laid (t' := tk) old (Nat.le_refl _) (setO_new R), rfl, q _ c cn (I.hok.fresh (Nat.le_refl _))⟩
end
theorem asc_uniq {xs ys : List Int} (hx : xs.Pairwise (· < ·)) (hy : ys.Pairwise (· < ·)) (h : ∀ k, k ∈ xs ↔ k ∈ ys) : xs = ys := by
  have nx : xs.Nodup := hx.imp fun a => Int.ne_of_lt a
  have ny : ys.Nodup := hy.imp fun a => Int.ne_of_lt a
  have pm : xs.Perm ys := (List.perm_ext_iff_of_nodup nx ny).mpr h
  exact pm.eq_of_pairwise (fun a b _ _ c d => absurd (Int.lt_trans c d) (Int.lt_irrefl a)) hx hy
def dSorSet (de : DE) (γ : Env) (q : RS → Env → Prop) : Prop := de γ fun s γ1 => match s.data with
  | .lst ds => ∃ ns ms : List Int, ds = ns.map D.int ∧ ns.length < 64 ∧ ms.Pairwise (· < ·) ∧ (∀ k, k ∈ ms ↔ k ∈ ns) ∧ q (.new (.lst (ms.map D.int))) γ1
  | _ => False
section
variable {K : PySem.W.Frag} {B : Bs}
theorem se_sorSet {w : World} {te : TE} {de : DE} (h : SE K B te de) : SE K B (tCB (rSortedSet w) (tCons (tCB (rSetL K w) (tCons te tNil)) tNil)) (dSorSet de) := fun F H σ γ Q q R hq k => by
  refine h F H σ γ _ _ R hq fun v F1 H1 γ1 s R1 e1 o1 h1 => ?_
  split at h1
  · rename_i ds es
    obtain ⟨ns, ms, rfl, ln, asc, mem, hq⟩ := h1
    have rv := o1.rs R1
    rw [es] at rv
    obtain ⟨a, vs, rfl, ha, ra⟩ := rv.lst R1.fh
    have ev := rp_ints ra
    subst ev
    refine ⟨a, ns, rfl, Evl.sq_of ha, ln, fun p c cn hp => ?_⟩
    refine ⟨p, _, c, rfl, upd_same .., by omega, fun xs p2 ax mx lx hp2 => ?_⟩
    have ex : xs = ms := asc_uniq ax asc fun k => by rw [mx, mem]; exact decide_eq_true_iff
    subst ex
    have R2 := R1.alloc (SetO w p (fun j => decide (j ∈ ns)) c) hp
    obtain ⟨R3, o⟩ := R2.newL hp2 (vs := xs.map V.int) (ds := xs.map D.int) (ints_rp xs)
    exact k _ F1 _ γ1 _ R3 e1 o hq
  · exact h1.elim
end
section
variable {X : Cx} {B : Bs} {e : Expr} {te : TE} {de : DE} {p p2 q pos : Pos}
theorem x_sorSet (hm : X.mg "sorted" = none) (hm2 : X.mg "set" = none) (he : XE X B e te de) (hg : Gl X "sorted" := by rfl) (hg2 : Gl X "set" := by rfl) (hc : X.calm = true := by rfl) (na : starEach [e] X.env = (false, eval e X.env) :: starEach [] X.env := by rfl)
    (na2 : starEach [.Call (.Name "set" p2) [e] [] q] X.env = (false, eval (.Call (.Name "set" p2) [e] [] q) X.env) :: starEach [] X.env := by rfl) :
    XE X B (.Call (.Name "sorted" p) [.Call (.Name "set" p2) [e] [] q] [] pos) (tCB (rSortedSet X.w) (tCons (tCB (rSetL X.K X.w) (tCons te tNil)) tNil)) (dSorSet de) :=
  ⟨pe_callB (cr_sortedSet hc) hg hm boot_sorted (pa_cons (pe_callTy (cr_setL hc) hg2 hm2 boot_set (pa_cons he.pe pa_nil na) (he := na)) pa_nil na2) (he := na2), se_sorSet he.se⟩
end
end DL

set_option Elab.async false
set_option linter.all false
set_option maxRecDepth 100000
set_option maxHeartbeats 4000000
namespace DL
open PySem PySem.Spec PyProof.Rows L2 PySem.F
open Evl (Ex ex_l ex_t)
/-! for x, y, z in zip(xs, ys, zs) of three lists -/
theorem zip3_typed (a b c : Value) : checkTypeCall "zip" ⟨[a, b, c], []⟩ = pure () := by kernel_rfl
theorem zip3_new_ok (a b c : Value) : checkBuiltinCall "zip.__new__" ⟨[.type "zip", a, b, c], []⟩ = pure () := by kernel_rfl
theorem obj_init_ok4 (a b c d : Value) : argsOk "object.__init__" ⟨[a, b, c, d], []⟩ := by
  unfold argsOk; rw [signature?_of (id := "object.__init__") (n := ['_', '_', 't', 'i', 'n', 'i', '_', '_']) (o := ['t', 'c', 'e', 'j', 'b', 'o']) (by kernel_rfl) owner_object]; kernel_rfl
theorem at_push {h : Heap} {o : Obj} {n : Nat} (e : h.objs.size = n) (alive : o.isFreed = false := by rfl) : (h.push o).get? n = some o := by
  subst e
  exact Heap.get?_push_size _ alive
theorem got_up {h : Heap} {a : Addr} {o u : Obj} (e : h.get? a = some o) : (h.push u).get? a = some o := Heap.get?_push_of_some u e
/-- what stands behind zip(a, b, c): three iterators at n, n+1, n+2, two tuples, the zip -/
structure Zipped (h h2 : Heap) (a b c : Addr) : Prop where
  i1 : h2.IsListIter h.objs.size a 0
  i2 : h2.IsListIter (h.objs.size + 1) b 0
  i3 : h2.IsListIter (h.objs.size + 2) c 0
  ti : IsTupOf3 h2 (h.objs.size + 3) (.ref h.objs.size) (.ref (h.objs.size + 1)) (.ref (h.objs.size + 2))
  to : IsTupOf3 h2 (h.objs.size + 4) .none .none .none
  z : IsZip h2 (h.objs.size + 5) (h.objs.size + 3) (h.objs.size + 4) .none
  old : ∀ b o, h.get? b = some o → h2.get? b = some o
theorem zip3_makes (a b c : Addr) (xs ys zs : Array Value) :
    Meets (Builtin.«zip.__new__» ⟨[.type "zip", .ref a, .ref b, .ref c], []⟩) (fun _ R s => s.heap.IsList a xs ∧ s.heap.IsList b ys ∧ s.heap.IsList c zs ∧ ∀ h2, Zipped s.heap h2 a b c → R (.ok (.ret (.ref (s.heap.objs.size + 5)))) { s with heap := h2 }) :=
  .of_wp fun prog w A R s h => by
    obtain ⟨h0, g, d, tk, os⟩ := s
    obtain ⟨la, lb, lc, q⟩ := h
    have zz := sub_zip
    have lb2 := Heap.IsList.push lb { cls := .type "list_iterator", data := .fields #[.ref a, .int 0 0] }
    have lc2 := Heap.IsList.push (Heap.IsList.push lc { cls := .type "list_iterator", data := .fields #[.ref a, .int 0 0] }) { cls := .type "list_iterator", data := .fields #[.ref b, .int 0 0] }
    have la' : Heap.IsList (Shared.heap ⟨h0, g, d, tk, os⟩) a xs := la
    have lb' : Heap.IsList (Shared.heap ⟨h0.push { cls := .type "list_iterator", data := .fields #[.ref a, .int 0 0] }, g, d, tk, os⟩) b ys := lb2
    have lc' : Heap.IsList (Shared.heap ⟨(h0.push { cls := .type "list_iterator", data := .fields #[.ref a, .int 0 0] }).push { cls := .type "list_iterator", data := .fields #[.ref b, .int 0 0] }, g, d, tk, os⟩) c zs := lc2
    wp_walk using wpAny_pyIter_list la', wpAny_pyIter_list lb', wpAny_pyIter_list lc'
    have n1 : (h0.push { cls := .type "list_iterator", data := .fields #[.ref a, .int 0 0] }).objs.size = h0.objs.size + 1 := Heap.size_push ..
    have n2 : ((h0.push { cls := .type "list_iterator", data := .fields #[.ref a, .int 0 0] }).push { cls := .type "list_iterator", data := .fields #[.ref b, .int 0 0] }).objs.size = h0.objs.size + 2 := by rw [Heap.size_push, n1]
    refine ⟨_, rfl, ?_⟩
    simp only [Heap.size_push, List.map, Array.toList_push, List.append_assoc, Nat.add_assoc]
    have up : ∀ {h : Heap} {o : Obj} {k n : Nat}, h.objs.size = n + k → (h.push o).objs.size = n + (k + 1) := fun e => by rw [Heap.size_push, e]; omega
    refine q _ { i1 := ⟨_, got_up (got_up (got_up (got_up (got_up (at_push rfl))))), rfl, rfl⟩, i2 := ⟨_, got_up (got_up (got_up (got_up (at_push n1)))), rfl, rfl⟩, i3 := ⟨_, got_up (got_up (got_up (at_push n2))), rfl, rfl⟩, ti := got_up (got_up (at_push (up n2))), to := got_up (at_push (up (up n2))), z := at_push (up (up (up n2))), old := fun b o e => got_up (got_up (got_up (got_up (got_up (got_up e))))) }
section
variable {P : Program} {w : World} {A : Around} {E : Value → Shared → Prop} {s : Shared}
theorem zip3_call {a b c : Addr} {xs ys zs : Array Value} {Q : Value → Shared → Prop} (ha : s.heap.IsList a xs) (hb : s.heap.IsList b ys) (hc : s.heap.IsList c zs)
    (k : ∀ h2, Zipped s.heap h2 a b c → Q (.ref (s.heap.objs.size + 5)) { s with heap := h2 }) : wpAny (model P w) A (call (.type "zip") [.ref a, .ref b, .ref c]) Q E s :=
  callType_new F.called_zip (by decide) (zip3_typed ..) (zip3_new_ok ..) (fun o => obj_init_ok4 o ..) F.entry_zip_new (zip3_makes a b c xs ys zs) ⟨ha, hb, hc, fun h2 q => ⟨⟨_, q.z, rfl⟩, k h2 q⟩⟩
/-- a list's iterator from its k-th turn on -/
theorem drawsFrom (hh : A.handled = none) (it l : Addr) (ne : l ≠ it) (items : Array Value) (k : Nat) :
    Draws P w A it [it, l] (max k items.size) (fun i v => items[i]? = some v) (fun i h => h.IsListIter it l i ∧ h.IsList l items ∧ k ≤ i) where
  live := fun i h st => by
    obtain ⟨⟨o, ho, _⟩, _⟩ := st
    exact ⟨o, ho⟩
  frame := fun i h h2 st q => ⟨st.1.at fun o e => q it (by simp) o e, st.2.1.at fun o e => q l (by simp) o e, st.2.2⟩
  item := fun i s Q E lt st q => by
    have li : i < items.size := by
      have := st.2.2
      omega
    refine wpAny_nextOf_list_item st.1 st.2.1 (x := items[i]) (Array.getElem?_eq_getElem li) fun h2 mv same => ?_
    exact q _ h2 s.toks (Array.getElem?_eq_getElem li) ⟨mv, st.2.1.extBut same.extBut ne, Nat.le_succ_of_le st.2.2⟩ same
  done := fun s Q E st q => wpAny_nextOf_list_end hh st.1 st.2.1 (by simp; omega) q
end
theorem out2 {x p q : Addr} (h1 : x ≠ p) (h2 : x ≠ q) : x ∉ [p, q] := by
  simp only [List.mem_cons, List.not_mem_nil, or_false, not_or]
  exact ⟨h1, h2⟩
theorem sep3 (n a b c : Nat) (ha : a < n) (hb : b < n) (hc : c < n) : ZipSep3 (n + 5) (n + 3) (n + 4) n (n + 1) (n + 2) [n, a] [n + 1, b] [n + 2, c] := by
  have f : ∀ i j : Nat, i ≠ j → (n + i : Nat) ≠ n + j := by omega
  have lo : ∀ i x : Nat, x < n → (n + i : Nat) ≠ x := by omega
  have o : ∀ (i j x : Nat), i ≠ j → x < n → @Not ((n + i : Nat) ∈ ([n + j, x] : List Addr)) := fun i j x e l => out2 (f i j e) (lo i x l)
  exact ⟨ f 3 5 (by decide), f 4 5 (by decide), f 3 4 (by decide), f 3 0 (by decide), (List.mem_cons_self ..), o 5 0 a (by decide) ha, o 4 0 a (by decide) ha,
    f 3 1 (by decide), (List.mem_cons_self ..), o 5 1 b (by decide) hb, o 4 1 b (by decide) hb, f 3 2 (by decide), (List.mem_cons_self ..), o 5 2 c (by decide) hc, o 4 2 c (by decide) hc,
    o 0 1 b (by decide) hb, o 0 2 c (by decide) hc, o 1 0 a (by decide) ha, o 1 2 c (by decide) hc, o 2 0 a (by decide) ha, o 2 1 b (by decide) hb ⟩
/-- the three lists as they stand at each turn, the items in new tuples -/
def It3 (K : PySem.W.Frag) (a b c : Addr) : It where
  go := fun i H => ∃ xs ys zs : List V, SqL K H a xs ∧ SqL K H b ys ∧ SqL K H c zs ∧ i < xs.length ∧ i < ys.length ∧ i < zs.length
  yld := fun i H v H2 => ∃ (T : Addr) (x y z : V), v = .ref T ∧ H T = none ∧ H2 = upd H T (.tup [x, y, z]) ∧ (∀ l, SqL K H a l → l[i]? = some x) ∧ (∀ l, SqL K H b l → l[i]? = some y) ∧ ∀ l, SqL K H c l → l[i]? = some z
  stop := fun i H => ∃ xs ys zs : List V, SqL K H a xs ∧ SqL K H b ys ∧ SqL K H c zs ∧ (xs.length ≤ i ∨ ys.length ≤ i ∨ zs.length ≤ i)
theorem vals_back : ∀ {vs : List V} {us : List Value} {i : Nat} {u : Value}, Vals vs us → us[i]? = some u → ∃ v, RelV v u ∧ vs[i]? = some v
  | _, _, i, u, .nil, h => by cases i <;> cases h
  | _, _, 0, u, .cons r t, h => ⟨_, by cases h; exact r, rfl⟩
  | _, _, i + 1, u, .cons r t, h => vals_back (i := i) t h
def tn3 (n a b c : Nat) (i : Nat) (h : Heap) : Prop := IsZip h (n + 5) (n + 3) (n + 4) .none ∧ IsTupOf3 h (n + 3) (.ref n) (.ref (n + 1)) (.ref (n + 2)) ∧ (∃ x y z, IsTupOf3 h (n + 4) x y z) ∧ h.IsListIter n a i ∧ h.IsListIter (n + 1) b i ∧ h.IsListIter (n + 2) c i
def fp3 (n : Nat) : List Addr := [n + 5, n + 3, n + 4, n, n + 1, n + 2]
theorem fp3_cases {n : Nat} {p : Addr → Prop} (h0 : p n) (h1 : p (n + 1)) (h2 : p (n + 2)) (h3 : p (n + 3)) (h4 : p (n + 4)) (h5 : p (n + 5)) : ∀ b ∈ fp3 n, p b := by
  simp only [fp3, List.forall_mem_cons]
  exact ⟨h5, h3, h4, h0, h1, h2, fun b z => nomatch z⟩
theorem not_fp3 {n b : Nat} (h : b ∉ fp3 n) : b ≠ n + 5 ∧ b ≠ n + 4 ∧ b ≠ n ∧ b ≠ n + 1 ∧ b ≠ n + 2 := by
  simp only [fp3, List.mem_cons, List.not_mem_nil, or_false, not_or] at h
  exact ⟨h.1, h.2.2.1, h.2.2.2.1, h.2.2.2.2.1, h.2.2.2.2.2⟩
theorem tn3_at {n a b c i : Nat} {h h2 : Heap} (st : tn3 n a b c i h) (k : ∀ x ∈ fp3 n, ∀ o, h.get? x = some o → h2.get? x = some o) : tn3 n a b c i h2 := by
  obtain ⟨hz, ti, ⟨x, y, z, to⟩, j1, j2, j3⟩ := st
  have m : ∀ q, q ∈ fp3 n → ∀ o, h.get? q = some o → h2.get? q = some o := k
  exact ⟨m _ (by simp [fp3]) _ hz, m _ (by simp [fp3]) _ ti, ⟨x, y, z, m _ (by simp [fp3]) _ to⟩, j1.at fun o e => m _ (by simp [fp3]) o e, j2.at fun o e => m _ (by simp [fp3]) o e, j3.at fun o e => m _ (by simp [fp3]) o e⟩
theorem tn3_obj {n a b c i : Nat} {h : Heap} (st : tn3 n a b c i h) : ∀ b ∈ fp3 n, ∃ o, h.get? b = some o ∧ ∀ v, o.data ≠ .cell v := by
  obtain ⟨hz, ti, ⟨x, y, z, to⟩, ⟨o1, e1, _, d1⟩, ⟨o2, e2, _, d2⟩, ⟨o3, e3, _, d3⟩⟩ := st
  refine fp3_cases ⟨o1, e1, fun v q => ?_⟩ ⟨o2, e2, fun v q => ?_⟩ ⟨o3, e3, fun v q => ?_⟩ ⟨_, ti, fun v q => nomatch q⟩ ⟨_, to, fun v q => nomatch q⟩ ⟨_, hz, fun v q => nomatch q⟩
  · rw [d1] at q; cases q
  · rw [d2] at q; cases q
  · rw [d3] at q; cases q
theorem turn3 {P : Program} {w : World} {K : PySem.W.Frag} {elts : List Expr} {kk : Nat} {tpos : Pos} {n a b c : Nat} (ha : a < n) (hb : b < n) (hc : c < n) : Turn P w K (.Tuple elts kk tpos) (It3 K a b c) (fp3 n) (n + 5) (tn3 n a b c) where
  mem := by simp [fp3]
  obj := fun i h st => tn3_obj st
  keep := fun i h h2 st k => tn3_at st k
  item := by
    intro X hP hw hK calm i pins s σ H E I hf st hg
    subst hP hw hK
    have live := tn3_obj st
    obtain ⟨hz, ti, ⟨x0, y0, z0, to⟩, j1, j2, j3⟩ := st
    obtain ⟨xs, ys, zs, q1, q2, q3, l1, l2, l3⟩ := hg
    obtain ⟨u1, r1, p1, _⟩ := I.list q1
    obtain ⟨u2, r2, p2, _⟩ := I.list q2
    obtain ⟨u3, r3, p3, _⟩ := I.list q3
    have hh : X.A.in1.handled = none := I.ok.hd calm
    have ea := r1.length
    have eb := r2.length
    have ec := r3.length
    have S := sep3 n a b c ha hb hc
    refine wpAny_pyNext_zipD3_item S (drawsFrom hh n a (Nat.ne_of_lt ha) u1.toArray i) (drawsFrom hh (n + 1) b (Nat.ne_of_lt (Nat.lt_succ_of_lt hb)) u2.toArray i) (drawsFrom hh (n + 2) c (Nat.ne_of_lt (Nat.lt_succ_of_lt (Nat.lt_succ_of_lt hc))) u3.toArray i)
      hz ti to ⟨j1, p1.isList, Nat.le_refl i⟩ ⟨j2, p2.isList, Nat.le_refl i⟩ ⟨j3, p3.isList, Nat.le_refl i⟩ (by simp; omega) (by simp; omega) (by simp; omega) fun v1 v2 v3 h2 tk e1 e2 e3 hz2 to2 s1 s2 s3 new _ old => ?_
    have size : s.heap.objs.size ≠ n + 5 := Nat.ne_of_gt (Heap.lt_size hz)
    refine ⟨_, rfl, wpAny_letOwnedTupleGo_zip (s := { s with heap := h2, toks := tk }) hz2 fun h3 hz3 same => ?_⟩
    obtain ⟨x, rx, gx⟩ := vals_back r1 (by simpa using e1)
    obtain ⟨y, ry, gy⟩ := vals_back r2 (by simpa using e2)
    obtain ⟨z, rz, gz⟩ := vals_back r3 (by simpa using e3)
    have made : ObjOk X.prog X.w (upd H s.heap.objs.size (.tup [x, y, z])) h3 s.heap.objs.size (.tup [x, y, z]) :=
      ⟨by show 3 ≤ sizeLine; decide, [v1, v2, v3], .cons rx (.cons ry (.cons rz .nil)), ⟨_, (same.2 _ size).trans new, rfl, _, rfl⟩⟩
    have I2 := I.turnedNew (t' := tk) (ch := fp3 n) (fun b o hb e => by
      obtain ⟨n5, n4, n0, n1, n2⟩ := not_fp3 hb
      exact (same.2 b n5).trans (old b o n5 n4 n0 n1 n2 e)) hf (Nat.le_refl _) made
    refine ⟨.ref s.heap.objs.size, _, I2, rfl, ⟨_, x, y, z, rfl, I.hok.fresh (Nat.le_refl _), rfl, fun l hl => ?_, fun l hl => ?_, fun l hl => ?_⟩, ⟨hz3, ?_, ⟨v1, v2, v3, ?_⟩, ?_, ?_, ?_⟩, fun b hb => ?_⟩
    · rw [I.list_inj hl q1]; exact gx
    · rw [I.list_inj hl q2]; exact gy
    · rw [I.list_inj hl q3]; exact gz
    · exact (same.2 _ S.TIz).trans (old _ _ S.TIz S.TITO S.TIi1 S.TIi2 S.TIi3 ti)
    · exact (same.2 _ S.TOz).trans to2
    · exact s1.1.at fun o q => (same.2 _ (Ne.symm S.zi1)).trans q
    · exact s2.1.at fun o q => (same.2 _ (Ne.symm S.zi2)).trans q
    · exact s3.1.at fun o q => (same.2 _ (Ne.symm S.zi3)).trans q
    · obtain ⟨o, e, _⟩ := live b hb
      rw [upd_ne (Nat.ne_of_lt (Heap.lt_size e))]
      exact (hf b hb).1
  done := by
    intro X hP hw hK calm i pins s σ H E I hf st hg
    subst hP hw hK
    obtain ⟨hz, ti, ⟨x0, y0, z0, to⟩, j1, j2, j3⟩ := st
    obtain ⟨xs, ys, zs, q1, q2, q3, en⟩ := hg
    obtain ⟨u1, r1, p1, _⟩ := I.list q1
    obtain ⟨u2, r2, p2, _⟩ := I.list q2
    obtain ⟨u3, r3, p3, _⟩ := I.list q3
    have hh : X.A.in1.handled = none := I.ok.hd calm
    have ea := r1.length
    have eb := r2.length
    have ec := r3.length
    have S := sep3 n a b c ha hb hc
    refine wpAny_pyNext_zipD3_end S (drawsFrom hh n a (Nat.ne_of_lt ha) u1.toArray i) (drawsFrom hh (n + 1) b (Nat.ne_of_lt (Nat.lt_succ_of_lt hb)) u2.toArray i) (drawsFrom hh (n + 2) c (Nat.ne_of_lt (Nat.lt_succ_of_lt (Nat.lt_succ_of_lt hc))) u3.toArray i)
      hz ti to ⟨j1, p1.isList, Nat.le_refl i⟩ ⟨j2, p2.isList, Nat.le_refl i⟩ ⟨j3, p3.isList, Nat.le_refl i⟩ (by simp; omega) (by simp; omega) (by simp; omega) (by simp; omega) fun h2 tk old => ⟨rfl, ?_⟩
    refine I.turnedL (t' := tk) (ch := fp3 n) (fun x o hx e => ?_) hf
    obtain ⟨n5, n4, n0, n1, n2⟩ := not_fp3 hx
    exact old x o n5 n4 n0 n1 n2 e
  self := fun A i s Q E st h => wpAny_pyIter_zip st.1 h
def iZip3 (K : PySem.W.Frag) (ta : TA) : TI := fun σ H R => ta σ H fun vs H1 => ∃ (a b c : Addr) (xs ys zs : List V), vs = [.ref a, .ref b, .ref c] ∧ SqL K H1 a xs ∧ SqL K H1 b ys ∧ SqL K H1 c zs ∧ R (It3 K a b c) H1
theorem pi_zip3 {X : Cx} {e f g : Expr} {ta : TA} {p pos tpos : Pos} {elts : List Expr} {kk : Nat} (hg : Gl X "zip") (hm : X.mg "zip" = none) (ha : PA X [e, f, g] ta)
    (hs : starEach [e, f, g] X.env = (false, eval e X.env) :: starEach [f, g] X.env := by rfl) (hpl : (backTo pos (starEach [f, g] X.env)).any (·.1) = false := by rfl) :
    PI X (.Tuple elts kk tpos) (.Call (.Name "zip" p) [e, f, g] [] pos) (iZip3 X.K ta) := by
  refine ⟨fun pins s σ H R I h => ?_⟩
  refine Call_ (ld_blt I hg hm PyProof.Rows.boot_zip (PyProof.Rows.callWith_type1 (thn (ha.run pos pins s σ H _ I h) fun us s1 ⟨vs, H1, I1, r1, q1⟩ => ?_) hs hpl))
  obtain ⟨a, b, c, xs, ys, zs, rfl, q1, q2, q3, q⟩ := q1
  obtain ⟨w1, w2, w3, rfl⟩ : ∃ w1 w2 w3, us = [w1, w2, w3] := by
    cases r1 with
    | cons _ t => cases t with
      | cons _ t => cases t with
        | cons _ t => cases t; exact ⟨_, _, _, rfl⟩
  have ref : w1 = .ref a ∧ w2 = .ref b ∧ w3 = .ref c := by
    cases r1 with
    | cons ra t => cases t with
      | cons rb t => cases t with
        | cons rc t => exact ⟨ra, rb, rc⟩
  obtain ⟨rfl, rfl, rfl⟩ := ref
  obtain ⟨_, _, p1, _⟩ := I1.list q1
  obtain ⟨_, _, p2, _⟩ := I1.list q2
  obtain ⟨_, _, p3, _⟩ := I1.list q3
  refine zip3_call p1.isList p2.isList p3.isList fun h2 Z => wpAny_pyIter_zip Z.z ?_
  have I2 : Inv X pins σ H1 { s1 with heap := h2 } := I1.kept (t' := s1.toks) Z.old
  have le : ∀ j, s1.heap.objs.size ≤ s1.heap.objs.size + j := fun j => Nat.le_add_right _ _
  have fp : ∀ j, FpOk X pins H1 (s1.heap.objs.size + j) := fun j => I1.fpOk (le j) (I1.hok.fresh (le j))
  exact ⟨s1.heap.objs.size + 5, fp3 s1.heap.objs.size, _, _, H1, rfl, I2, turn3 p1.lt p2.lt p3.lt, ⟨Z.z, Z.ti, ⟨_, _, _, Z.to⟩, Z.i1, Z.i2, Z.i3⟩, fp3_cases (fp 0) (fp 1) (fp 2) (fp 3) (fp 4) (fp 5), q⟩
def dIZ3 (da : DA) (γ : Env) (r : Nat → (Nat → D → Prop) → Env → Prop) : Prop := da γ fun rs γ1 => allV rs ∧ match rs.map RS.data with
  | [.lst xs, .lst ys, .lst zs] => r (min (min xs.length ys.length) zs.length) (fun i d => ∃ x y z, xs[i]? = some x ∧ ys[i]? = some y ∧ zs[i]? = some z ∧ d = .tup [x, y, z]) γ1
  | _ => False
theorem lst3 {K : KZ} {F : Hp} {vs : List V} {xs ys zs : List D} (h : RpAll K F vs [.lst xs, .lst ys, .lst zs]) : ∃ a b c va vb vc, vs = [.ref a, .ref b, .ref c] ∧ (F a = some (.lst va) ∧ RpAll K F va xs) ∧ (F b = some (.lst vb) ∧ RpAll K F vb ys) ∧ F c = some (.lst vc) ∧ RpAll K F vc zs := by
  cases h with
  | cons r1 t => cases t with
    | cons r2 t => cases t with
      | cons r3 t =>
        cases t
        cases r1 with
        | lst ha ra => cases r2 with
          | lst hb rb => cases r3 with
            | lst hc rc => exact ⟨_, _, _, _, _, _, rfl, ⟨ha, ra⟩, ⟨hb, rb⟩, hc, rc⟩
theorem si_zip3 {K : PySem.W.Frag} {B : Bs} {ta : TA} {da : DA} (h : SA K B ta da) : SI K B (iZip3 K ta) (dIZ3 da) := fun F H σ γ W r R hq k => by
  refine h F H σ γ _ _ R hq fun vs F1 H1 γ1 rs R1 e1 o1 ⟨hv, h1⟩ => ?_
  split at h1
  · rename_i xs ys zs es
    have ra := allV_rp o1 hv
    rw [es] at ra
    obtain ⟨a, b, c, va, vb, vc, rfl, ⟨ha, sa⟩, ⟨hb, sb⟩, hc, sc⟩ := lst3 ra
    have q : ∀ {F2 H2 : Hp} {x : Addr} {l : List V}, Ex F1 F2 → Ex F2 H2 → F1 x = some (.lst l) → SqL K H2 x l := fun p q e => sq_inj_lst (p.trans q) e
    have la := sa.length
    have lb := sb.length
    have lc := sc.length
    refine ⟨a, b, c, _, _, _, rfl, q (Evl.Ex.refl _) R1.fh ha, q (Evl.Ex.refl _) R1.fh hb, q (Evl.Ex.refl _) R1.fh hc, k _ F1 H1 γ1 _ _ R1 e1 { go := fun B F H σ γ i R e hi => ?_, yl := fun B F H σ γ i x H' R e hi hy hz => ?_, st := fun B F H σ γ i R e hi => ?_ } h1⟩
    · exact ⟨_, _, _, q e R.fh ha, q e R.fh hb, q e R.fh hc, by omega, by omega, by omega⟩
    · obtain ⟨T, x1, x2, x3, rfl, hT, rfl, f1, f2, f3⟩ := hy
      obtain ⟨d1, g1, s1⟩ := P_getL sa.p (f1 va (q e R.fh ha))
      obtain ⟨d2, g2, s2⟩ := P_getL sb.p (f2 vb (q e R.fh hb))
      obtain ⟨d3, g3, s3⟩ := P_getL sc.p (f3 vc (q e R.fh hc))
      obtain ⟨R', ex, rp⟩ := R.newT hT (.cons ((s1.mono e).zz hz) (.cons ((s2.mono e).zz hz) (.cons ((s3.mono e).zz hz) .nil)))
      exact ⟨_, _, R', ex, rp, d1, d2, d3, g1, g2, g3, rfl⟩
    · exact ⟨_, _, _, q e R.fh ha, q e R.fh hb, q e R.fh hc, by omega⟩
  · exact h1.elim
theorem i_zip3 {X : Cx} {B : Bs} {a b c : Expr} {ta : TA} {da : DA} {p pos tpos : Pos} {elts : List Expr} {kk : Nat} (hm : X.mg "zip" = none) (h : XA X B [a, b, c] ta da) (hg : Gl X "zip" := by rfl)
    (hs : starEach [a, b, c] X.env = (false, eval a X.env) :: starEach [b, c] X.env := by rfl) (hpl : (backTo pos (starEach [b, c] X.env)).any (·.1) = false := by rfl) :
    XI X B (.Tuple elts kk tpos) (.Call (.Name "zip" p) [a, b, c] [] pos) (iZip3 X.K ta) (dIZ3 da) := ⟨pi_zip3 hg hm h.pa hs hpl, si_zip3 h.sa⟩
end DL

set_option Elab.async false
set_option linter.all false
set_option maxRecDepth 100000
set_option maxHeartbeats 4000000
namespace DL
open PySem PySem.Spec PyProof.Rows L2 PySem.F
open Evl (Ex ex_l ex_t)
/-! list(zip(xs, ys)) of two lists: one list of new pairs -/
/-- pairs laid one behind the other: address, left, right -/
def tups (H : Hp) : List (Addr × V × V) → Hp
  | [] => H
  | t :: L => tups (upd H t.1 (.tup [t.2.1, t.2.2])) L
def tupsNew (H : Hp) : List (Addr × V × V) → Prop
  | [] => True
  | t :: L => H t.1 = none ∧ tupsNew (upd H t.1 (.tup [t.2.1, t.2.2])) L
theorem tups_snoc : ∀ {L : List (Addr × V × V)} {H : Hp} {t : Addr × V × V}, tups H (L ++ [t]) = upd (tups H L) t.1 (.tup [t.2.1, t.2.2])
  | [], _, _ => rfl
  | u :: L, H, t => tups_snoc (L := L) (H := upd H u.1 (.tup [u.2.1, u.2.2]))
theorem tupsNew_snoc : ∀ {L : List (Addr × V × V)} {H : Hp} {t : Addr × V × V}, tupsNew H L → tups H L t.1 = none → tupsNew H (L ++ [t])
  | [], _, _, _, h => ⟨h, trivial⟩
  | u :: L, H, t, ⟨h1, h2⟩, h => ⟨h1, tupsNew_snoc (L := L) h2 h⟩
theorem tups_ex : ∀ {L : List (Addr × V × V)} {H : Hp}, tupsNew H L → Ex H (tups H L)
  | [], H, _ => Evl.Ex.refl H
  | u :: L, H, ⟨h1, h2⟩ => (Ex.new h1).trans (tups_ex h2)
/-- the list at S under way -/
def lzH (H : Hp) (S : Addr) (L : List (Addr × V × V)) : Hp := upd (tups H L) S (.lst (L.map fun t => V.ref t.1))
theorem lzH_snoc {H : Hp} {S : Addr} {L : List (Addr × V × V)} {t : Addr × V × V} (ne : t.1 ≠ S) : upd (upd (lzH H S L) t.1 (.tup [t.2.1, t.2.2])) S (.lst ((L ++ [t]).map fun t => V.ref t.1)) = lzH H S (L ++ [t]) := by
  unfold lzH
  rw [tups_snoc]
  funext a
  by_cases e : a = S
  · subst e
    rw [upd_same, upd_same]
  · rw [upd_ne e, upd_ne e]
    by_cases f : a = t.1
    · subst f
      rw [upd_same, upd_same]
    · rw [upd_ne f, upd_ne f, upd_ne e]
/-- the zip between two turns: as new, or with a pair that is still held -/
def zipAt (z TI TO i1 i2 S : Addr) (h : Heap) : Prop := (IsZip h z TI TO .none ∧ ∃ x y, IsPair h TO x y) ∨ ∃ T f o, IsZipHeld h z TI TO T f ∧ h.get? T = some o ∧ T ≠ z ∧ T ≠ i1 ∧ T ≠ i2 ∧ T ≠ S
section
variable {X : Cx} {pins : List (Addr × Obj)} {σ : L2.St} {H : Hp} {z TI TO i1 i2 S a b : Addr} {xs ys : List V}
theorem lz_loop {A : Around} {R : Result → Shared → Prop} (D : ZipApart z TI TO i1 i2 a b) (hh : A.handled = none) (hS : S ≠ z ∧ S ≠ TI ∧ S ≠ TO ∧ S ≠ i1 ∧ S ≠ i2 ∧ H S = none)
    (qa : SqL X.K H a xs) (qb : SqL X.K H b ys) (few : xs.length ≤ 4000) :
    ∀ (k : Nat) (L : List (Addr × V × V)) (s : Shared), min xs.length ys.length - L.length = k → Inv X pins σ (lzH H S L) s → (∀ c ∈ [z, TO, i1, i2], FpOk X pins (lzH H S L) c) →
      (L.map (·.2) = (xs.zip ys).take L.length ∧ L.length ≤ min xs.length ys.length) → (tupsNew H L ∧ tups H L S = none) → (IsPair s.heap TI (.ref i1) (.ref i2) ∧ s.heap.IsListIter i1 a L.length ∧ s.heap.IsListIter i2 b L.length ∧ zipAt z TI TO i1 i2 S s.heap) → (∀ c ∈ [z, TO, i1, i2, S], c < s.heap.objs.size) →
      (∀ L2 s2, Inv X pins σ (lzH H S L2) s2 → L2.map (·.2) = xs.zip ys → tupsNew H L2 → tups H L2 S = none → R (.ok (.ret .none)) s2) →
      codeAny (model X.prog X.w) A (.builtin "list.extend.loop" ⟨[.ref S, .ref z, .none], []⟩) R s := by
  intro k
  induction k with
  | zero =>
    intro L s hk I hf hL hN hz lt kk
    obtain ⟨hLm, hLl⟩ := hL
    obtain ⟨hti, j1, j2, hza⟩ := hz
    have ex : Ex H (lzH H S L) := (tups_ex hN.1).trans (Ex.new hN.2)
    obtain ⟨us, r1, p1, _⟩ := I.list (ex_l ex qa)
    obtain ⟨ws, r2, p2, _⟩ := I.list (ex_l ex qb)
    have e1 := r1.length
    have e2 := r2.length
    refine codeAny_builtin F.entry_extend_loop ?_
    rw [Around.under_plainId F.plain_extend_loop _]
    show wpAny _ A.in1 (pyNext (.ref z) >>= _) _ _ s
    have fin : ∀ h2, (∀ c o, c ≠ z → c ≠ TO → c ≠ i1 → c ≠ i2 → s.heap.get? c = some o → h2.get? c = some o) → R (.ok (.ret .none)) { s with heap := h2 } := fun h2 old => by
      have I2 := I.turnedL (t' := s.toks) (h' := h2) (ch := [z, TO, i1, i2]) (fun c o hc e => old c o (fun q => hc (by simp [q])) (fun q => hc (by simp [q])) (fun q => hc (by simp [q])) (fun q => hc (by simp [q])) e) hf
      refine kk L _ I2 ?_ hN.1 hN.2
      rw [hLm]
      refine List.take_of_length_le ?_
      rw [List.length_zip]
      omega
    have en : us.toArray[L.length]? = none ∨ ws.toArray[L.length]? = none := by
      by_cases c : xs.length ≤ L.length
      · exact .inl (by simp; omega)
      · exact .inr (by simp; omega)
    refine wpAny_bind ?_
    rcases hza with ⟨hz, x, y, hto⟩ | ⟨T, f, o, hz, hT, t1, t2, t3, t4⟩
    · exact wpAny_pyNext_zip_end hh D hz hti hto j1 j2 p1.isList p2.isList en fun h2 old => wpAny_pure (fin h2 old)
    · exact wpAny_pyNext_zip_end_held hh D hz hT hti j1 j2 p1.isList p2.isList en fun h2 old => wpAny_pure (fin h2 fun c o c1 _ c3 c4 e => old c o c1 c3 c4 e)
  | succ k ih =>
    intro L s hk I hf hL hN hz lt kk
    obtain ⟨hLm, hLl⟩ := hL
    obtain ⟨hti, j1, j2, hza⟩ := hz
    have ex : Ex H (lzH H S L) := (tups_ex hN.1).trans (Ex.new hN.2)
    obtain ⟨us, r1, p1, _⟩ := I.list (ex_l ex qa)
    obtain ⟨ws, r2, p2, _⟩ := I.list (ex_l ex qb)
    have e1 := r1.length
    have e2 := r2.length
    have l1 : L.length < xs.length := by omega
    have l2 : L.length < ys.length := by omega
    obtain ⟨u, gu, ru⟩ := r1.get (List.getElem?_eq_getElem l1)
    obtain ⟨v, gv, rv⟩ := r2.get (List.getElem?_eq_getElem l2)
    refine codeAny_builtin F.entry_extend_loop ?_
    rw [Around.under_plainId F.plain_extend_loop _]
    show wpAny _ A.in1 (pyNext (.ref z) >>= _) _ _ s
    refine wpAny_bind ?_
    have go : ∀ h2, zipAt z TI TO i1 i2 S h2 → h2.IsListIter i1 a (L.length + 1) → h2.IsListIter i2 b (L.length + 1) → IsPair h2 s.heap.objs.size u v → IsPair h2 TI (.ref i1) (.ref i2) → h2.objs.size = s.heap.objs.size + 1 →
        (∀ c o, c ≠ z → c ≠ TO → c ≠ i1 → c ≠ i2 → s.heap.get? c = some o → h2.get? c = some o) →
        wpAny (model X.prog X.w) A.in1 (updateSeq S (·.push (.ref s.heap.objs.size)) >>= fun _ => again (.builtin "list.extend.loop" ⟨[.ref S, .ref z, .none], []⟩))
          (fun fin s' => match fin with | .done f => R (.ok f) s' | .again c' => c'.quiet = true ∧ codeAny (model X.prog X.w) A c' R s') (fun e s' => R (.error e) s') { s with heap := h2 } := by
      intro h2 zz k1 k2 pr ti big old
      have nS : s.heap.objs.size ≠ S := Nat.ne_of_gt (lt S (by simp))
      obtain ⟨t, et⟩ : ∃ t : Addr × V × V, t = (s.heap.objs.size, xs[L.length], ys[L.length]) := ⟨_, rfl⟩
      have I2 := I.turnedNew (t' := s.toks) (h' := h2) (ob := .tup [xs[L.length], ys[L.length]]) (ch := [z, TO, i1, i2]) (fun c o hc e => old c o (fun q => hc (by simp [q])) (fun q => hc (by simp [q])) (fun q => hc (by simp [q])) (fun q => hc (by simp [q])) e) hf (Nat.le_refl _)
        ⟨by show 2 ≤ sizeLine; decide, [u, v], .cons ru (.cons rv .nil), ⟨_, pr, rfl, _, rfl⟩⟩
      have hS2 : upd (lzH H S L) s.heap.objs.size (.tup [xs[L.length], ys[L.length]]) S = some (.lst (L.map fun t => V.ref t.1)) := by rw [upd_ne (Ne.symm nS)]; exact upd_same
      obtain ⟨_, its, n, rl, ll, eS⟩ := I2.lstM hS2
      rw [List.length_map] at ll
      have fit : L.length + 1 ≤ sizeLine := by rw [sizeLine_eq]; omega
      have I3 := I2.lset (its' := its ++ [.ref s.heap.objs.size]) (ys := (L ++ [t]).map fun t => V.ref t.1) (f := (·.push (.ref s.heap.objs.size))) (t' := s.toks) hS2 eS (by simp) (by rw [List.map_append]; exact rl.append (.cons (by rw [et]; rfl) .nil)) (by rw [List.length_map, List.length_append]; exact fit)
      have eh : upd (upd (lzH H S L) s.heap.objs.size (.tup [xs[L.length], ys[L.length]])) S (.lst ((L ++ [t]).map fun t => V.ref t.1)) = lzH H S (L ++ [t]) := by
        have q := lzH_snoc (H := H) (S := S) (L := L) (t := t) (by rw [et]; exact nS)
        rw [← q, et]
      rw [eh] at I3
      have ln : (L ++ [t]).length = L.length + 1 := by simp
      have new0 : tups H L s.heap.objs.size = none := by
        have q := I.hok.fresh (Nat.le_refl _)
        unfold lzH at q
        rwa [upd_ne nS] at q
      have at2 : ∀ {c o}, c ≠ S → h2.get? c = some o → (h2.update S (Obj.mapSeq (·.push (.ref s.heap.objs.size)))).get? c = some o := fun ne e => (Heap.get?_update_other _ _ (Ne.symm ne)).trans e
      refine wpAny_bind (wpAny_updateSeq eS rfl ?_ (by simp; omega) (by simp; omega))
      refine wpAny_pure ⟨plainId_quiet F.plain_extend_loop _, ih (L ++ [t]) _ (by rw [ln]; omega) I3 ?_ ⟨?_, by rw [ln]; omega⟩ ⟨tupsNew_snoc hN.1 (by rw [et]; exact new0), ?_⟩ ⟨at2 (Ne.symm hS.2.1) ti, ?_, ?_, ?_⟩ ?_ kk⟩
      · intro c hc
        have q := hf c hc
        refine ⟨?_, q.2⟩
        have cS : c ≠ S := by
          simp only [List.mem_cons, List.not_mem_nil, or_false] at hc
          rcases hc with rfl | rfl | rfl | rfl
          · exact Ne.symm hS.1
          · exact Ne.symm hS.2.2.1
          · exact Ne.symm hS.2.2.2.1
          · exact Ne.symm hS.2.2.2.2.1
        have cT : c ≠ s.heap.objs.size := Nat.ne_of_lt (lt c (by simp only [List.mem_cons, List.not_mem_nil, or_false] at hc ⊢; rcases hc with q | q | q | q <;> simp [q]))
        have q1 := q.1
        rw [← eh, upd_ne cS, upd_ne cT]
        exact q1
      · rw [List.map_append, hLm, ln, List.take_add_one, List.getElem?_eq_getElem (by rw [List.length_zip]; omega), List.getElem_zip]
        have e2 : t.2 = (xs[L.length], ys[L.length]) := by rw [et]
        exact congrArg (fun p => List.take L.length (xs.zip ys) ++ [p]) e2
      · rw [tups_snoc, et, upd_ne (Ne.symm nS)]
        exact hN.2
      · rw [ln]; exact k1.at fun o e => at2 (Ne.symm hS.2.2.2.1) e
      · rw [ln]; exact k2.at fun o e => at2 (Ne.symm hS.2.2.2.2.1) e
      · rcases zz with ⟨hz, x, y, hto⟩ | ⟨T, f, o, hz, hT, t1, t2, t3, t4⟩
        · exact .inl ⟨at2 (Ne.symm hS.1) hz, x, y, at2 (Ne.symm hS.2.2.1) hto⟩
        · exact .inr ⟨T, f, o, at2 (Ne.symm hS.1) hz, at2 t4 hT, t1, t2, t3, t4⟩
      · intro c hc
        show c < (h2.update S _).objs.size
        rw [Heap.size_after_update, big]
        exact Nat.lt_succ_of_lt (lt c hc)
    rcases hza with ⟨hz, x, y, hto⟩ | ⟨T, f, o, hz, hT, t1, t2, t3, t4⟩
    · refine wpAny_pyNext_zip_item D hz hti hto j1 j2 p1.isList p2.isList (x := u) (y := v) (by simpa using gu) (by simpa using gv) fun h2 a1 a2 a3 a4 a5 a6 old => ?_
      exact go h2 (.inr ⟨_, false, _, a1, a5, Nat.ne_of_gt (lt z (by simp)), Nat.ne_of_gt (lt i1 (by simp)), Nat.ne_of_gt (lt i2 (by simp)), Nat.ne_of_gt (lt S (by simp))⟩) a3 a4 a5 (old _ _ D.TIz D.TITO D.TIi1 D.TIi2 hti) a6 old
    · refine wpAny_pyNext_zip_item_held D hz hT hti j1 j2 p1.isList p2.isList (x := u) (y := v) (by simpa using gu) (by simpa using gv) fun h2 a1 a3 a4 a5 a6 old => ?_
      exact go h2 (.inr ⟨T, true, o, a1, old _ _ t1 t2 t3 hT, t1, t2, t3, t4⟩) a3 a4 a5 (old _ _ D.TIz D.TIi1 D.TIi2 hti) a6 fun c o c1 _ c3 c4 e => old c o c1 c3 c4 e
end
theorem zip_no_len : typeLookup (.type "zip") "__len__" = pure none := am_miss_of_fast (by decide +kernel)
theorem zip_no_hint : typeLookup (.type "zip") "__length_hint__" = pure none := am_miss_of_fast (by decide +kernel)
section
variable {P : Program} {w : World} {A : Around} {s : Shared}
theorem init_zip {R : Result → Shared → Prop} {S z : Addr} {c0 : Nat} (ne : S ≠ z) (hS : s.heap.get? S = some { cls := .type "list", data := .seq #[] c0 }) (hz : s.TypeIs (.ref z) "zip")
    (self : ∀ (t : Shared) (Q : Value → Shared → Prop) (E : Value → Shared → Prop), (∀ b o, b ≠ S → s.heap.get? b = some o → t.heap.get? b = some o) → Q (.ref z) t → wpAny (model P w) A.in1 (pyIter (.ref z)) Q E t)
    (k : ∀ h3 c, (∀ b o, b ≠ S → s.heap.get? b = some o → h3.get? b = some o) → h3.get? S = some { cls := .type "list", data := .seq #[] c } → h3.objs.size = s.heap.objs.size →
      codeAny (model P w) A (.builtin "list.extend.loop" ⟨[.ref S, .ref z, .none], []⟩) R { s with heap := h3 }) :
    wpAny (model P w) A.in1 (Builtin.«list.__init__» ⟨[.ref S, .ref z], []⟩)
      (fun fin s' => match fin with | .done f => R (.ok f) s' | .again c' => c'.quiet = true ∧ codeAny (model P w) A c' R s') (fun e s' => R (.error e) s') s := by
  have up1 := Heap.get?_update_self (Obj.mapSeq (fun _ => (#[] : Array Value))) hS rfl
  have other : ∀ {h : Heap} {f : Obj → Obj} {b : Addr} {o : Obj}, b ≠ S → h.get? b = some o → (h.update S f).get? b = some o := fun ne e => (Heap.get?_update_other _ _ (Ne.symm ne)).trans e
  have hz1 : (⟨s.heap.update S (Obj.mapSeq (fun _ => (#[] : Array Value))), s.gens, s.drawn, s.toks, s.os⟩ : Shared).TypeIs (.ref z) "zip" := by
    obtain ⟨o, e, q⟩ := hz
    exact ⟨o, other (Ne.symm ne) e, q⟩
  have same : Builtin.List.listSameRef (.ref S) (.ref z) = false := by simp [Builtin.List.listSameRef, ne]
  have c1 : (Value.type "zip" == Value.type "list") = false := by decide
  have c2 : (Value.type "zip" == Value.type "tuple") = false := by decide
  show wpAny _ A.in1 (do let old ← Builtin.List.listItems (.ref S); Builtin.List.listUpdate (.ref S) (fun _ => #[]); letGo old.toList.reverse; Builtin.List.listExtendWith (.ref S) (.ref z) .none) _ _ s
  have n1 := zip_no_len
  have n2 := zip_no_hint
  have room : ∀ g : Bool, (true || g) = true := fun _ => rfl
  unfold Builtin.List.listItems Builtin.List.listExtendWith
  generalize hp : pyIter = walk
  repeat (any_goals (first | assumption | wp_step))
  subst hp
  refine self _ _ _ (fun b o ne e => other ne e) ?_
  repeat (any_goals (first | assumption | wp_step))
  have up2 := Heap.get?_update_self (Obj.mapSeq (·.push Value.none)) up1 rfl
  have up3 := Heap.get?_update_self (Obj.mapSeq (·.pop)) up2 rfl
  exact ⟨plainId_quiet F.plain_extend_loop _, k _ _ (fun b o ne e => other ne (other ne (other ne e))) up3 (by rw [Heap.size_after_update, Heap.size_after_update, Heap.size_after_update])⟩
end
/-- what list(zip(xs, ys)) leaves: new pairs and a new list of them -/
def rLZ (K : PySem.W.Frag) : List V → Hp → VK → Prop := fun vs H Q => ∃ (a b : Addr) (xs ys : List V), vs = [.ref a, .ref b] ∧ SqL K H a xs ∧ SqL K H b ys ∧ xs.length ≤ 4000 ∧
  ∀ (L : List (Addr × V × V)) (S : Addr), L.map (·.2) = xs.zip ys → tupsNew H L → tups H L S = none → Q (.ref S) (lzH H S L)
section
variable {X : Cx} {pins : List (Addr × Obj)} {σ : L2.St} {H : Hp} {s : Shared}
theorem call_lz {a b : Addr} {xs ys : List V} {Q : VK} {E : Value → Shared → Prop} (hh : X.A.handled = none) (I : Inv X pins σ H s) (qa : SqL X.K H a xs) (qb : SqL X.K H b ys) (few : xs.length ≤ 4000)
    (k : ∀ (L : List (Addr × V × V)) (S : Addr), L.map (·.2) = xs.zip ys → tupsNew H L → tups H L S = none → Q (.ref S) (lzH H S L)) :
    wpAny (model X.prog X.w) X.A (call (.type "zip") [.ref a, .ref b]) (fun u t => wpAny (model X.prog X.w) X.A (call (.type "list") [u]) (EP X pins σ Q) E t) E s := by
  obtain ⟨_, _, p1, _⟩ := I.list qa
  obtain ⟨_, _, p2, _⟩ := I.list qb
  obtain ⟨n, en⟩ : ∃ n, n = s.heap.objs.size := ⟨_, rfl⟩
  refine call_zip_2 p1.isList p2.isList fun h2 hz ti to j1 j2 big old => ?_
  rw [← en] at hz ti to j1 j2 big ⊢
  have I2 : Inv X pins σ H { s with heap := h2 } := I.kept (t' := s.toks) old
  have D := PySem.W.ktu_apart n a b (en ▸ p1.lt) (en ▸ p2.lt)
  have free : ∀ j, H (n + j) = none := fun j => I.hok.fresh (by rw [en]; exact Nat.le_add_right _ _)
  have fp : ∀ j, FpOk X pins H (n + j) := fun j => I.fpOk (by rw [en]; exact Nat.le_add_right _ _) (free j)
  have z5 : h2.objs.size = n + 5 := big
  refine callType_codes (Q₁ := fun o t => o = .ref h2.objs.size ∧ t = { s with heap := h2.push { cls := .type "list", data := .seq #[] } }) F.called_list (F.typeCall_list_1 _) F.entry_list_init (code_list_new _ ⟨rfl, rfl⟩) fun o t ⟨eo, et⟩ => ?_
  subst eo et
  have hS : (h2.push { cls := .type "list", data := .seq #[] }).get? h2.objs.size = some { cls := .type "list", data := .seq #[] } := Heap.get?_push_size _ rfl
  have I3 := I2.lnew (t' := s.toks) (its := []) (ys := []) .nil (Nat.zero_le _)
  have add : ∀ i j : Nat, i ≠ j → n + i ≠ n + j := fun i j e q => e (by omega)
  have hz3 : (h2.push { cls := .type "list", data := .seq #[] }).get? (n + 4) = some _ := got_up hz
  refine ⟨⟨_, hS, rfl⟩, F.args_list_init_2 _ _, init_zip (z := n + 4) (by rw [z5]; exact add 5 4 (by decide)) hS ⟨_, hz3, rfl⟩ (fun t Q E same q => wpAny_pyIter_zip (same _ _ (by rw [z5]; exact add 4 5 (by decide)) hz3) q) fun h3 c same lst size => ?_⟩
  have up : ∀ j : Nat, j ≠ 5 → ∀ {o}, h2.get? (n + j) = some o → h3.get? (n + j) = some o := fun j hj o e => same _ _ (by rw [z5]; exact add j 5 hj) (got_up e)
  have e0 : lzH H h2.objs.size [] = upd (upd H h2.objs.size (.lst [])) h2.objs.size (.lst []) := by
    funext x
    show upd H _ _ x = _
    by_cases q : x = h2.objs.size
    · rw [q, upd_same, upd_same]
      rfl
    · rw [upd_ne q, upd_ne q, upd_ne q]
  have I4 : Inv X pins σ (lzH H h2.objs.size []) { s with heap := h3 } := by
    rw [e0]
    exact I3.write (x := h2.objs.size) (e := h2.objs.size) (t' := s.toks) (by rw [upd_same]; trivial) (.inl rfl) (fun b u ne e => same b u ne e) ⟨_, lst⟩ ⟨Nat.zero_le _, [], c, .nil, lst⟩
  rw [z5] at I4 lst ⊢
  have four : ∀ {p : Addr → Prop}, (∀ j, j ≠ 5 → p (n + j)) → ∀ c ∈ [n + 4, n + 3, n, n + 1], p c := fun h c hc => by
    simp only [List.mem_cons, List.not_mem_nil, or_false] at hc
    rcases hc with rfl | rfl | rfl | rfl
    · exact h 4 (by decide)
    · exact h 3 (by decide)
    · exact h 0 (by decide)
    · exact h 1 (by decide)
  have h35 : h3.objs.size = n + 6 := by rw [size, Heap.size_push, z5]
  refine lz_loop D (by exact hh) ⟨add 5 4 (by decide), add 5 2 (by decide), add 5 3 (by decide), add 5 0 (by decide), add 5 1 (by decide), free 5⟩ qa qb few _ [] _ rfl I4 (four fun j hj => ⟨?_, (fp j).2⟩) ⟨rfl, Nat.zero_le _⟩ ⟨trivial, free 5⟩
    ⟨up 2 (by decide) ti, j1.at fun o e => up 0 (by decide) e, j2.at fun o e => up 1 (by decide) e, .inl ⟨up 4 (by decide) hz, _, _, up 3 (by decide) to⟩⟩ ?_ fun L t It hm hn hs => ⟨rfl, ⟨.ref (n + 5), _, It, rfl, k L _ hm hn hs⟩⟩
  · show upd H (n + 5) _ (n + j) = none
    rw [upd_ne (add j 5 hj)]
    exact free j
  · intro c hc
    show c < h3.objs.size
    rw [h35]
    have : ∀ j : Nat, j ≤ 5 → n + j < n + 6 := fun j hj => by omega
    simp only [List.mem_cons, List.not_mem_nil, or_false] at hc
    rcases hc with rfl | rfl | rfl | rfl | rfl
    · exact this 4 (by decide)
    · exact this 3 (by decide)
    · exact this 0 (by decide)
    · exact this 1 (by decide)
    · exact this 5 (by decide)
end
section
variable {X : Cx} {e f : Expr} {ta : TA} {p p2 q pos : Pos}
theorem pe_lz (hg : Gl X "list") (hm : X.mg "list" = none) (hg2 : Gl X "zip") (hm2 : X.mg "zip" = none) (ha : PA X [e, f] ta) (hc : X.calm = true := by rfl) (hs : starEach [e, f] X.env = (false, eval e X.env) :: starEach [f] X.env := by rfl)
    (hpl : (backTo q (starEach [f] X.env)).any (·.1) = false := by rfl) (na : starEach [.Call (.Name "zip" p2) [e, f] [] q] X.env = (false, eval (.Call (.Name "zip" p2) [e, f] [] q) X.env) :: starEach [] X.env := by rfl) :
    PE X (.Call (.Name "list" p) [.Call (.Name "zip" p2) [e, f] [] q] [] pos) (tCB (rLZ X.K) ta) := by
  refine ⟨fun pins s σ H Q I h => ?_⟩
  refine Call_ (ld_blt I hg hm boot_list ?_)
  refine PyProof.Rows.callWith_type1 (PyProof.Rows.args_cons ?_ na) na rfl
  refine Call_ (ld_blt I hg2 hm2 PyProof.Rows.boot_zip (PyProof.Rows.callWith_type1 (thn (ha.run q pins s σ H _ I h) fun us s1 ⟨vs, H1, I1, r1, q1⟩ => ?_) hs hpl))
  obtain ⟨a, b, xs, ys, rfl, qa, qb, few, k⟩ := q1
  have two : us = [.ref a, .ref b] := by
    cases r1 with
    | cons ra t => cases t with
      | cons rb t => cases t; rw [show _ = Value.ref a from ra, show _ = Value.ref b from rb]
  subst two
  refine thn (call_lz (I1.ok.hd hc) I1 qa qb few k) fun u t z => PyProof.Rows.args_nil z
theorem cut_zip {K : KZ} {F : Hp} : ∀ {vs ws : List V} {ds es : List D}, RpAll K F vs ds → RpAll K F ws es → Paired (fun (p : V × V) (d : D × D) => Rp K F p.1 d.1 ∧ Rp K F p.2 d.2) (vs.zip ws) (ds.zip es)
  | _, _, _, _, .nil, _ => .nil
  | _, _, _, _, .cons _ _, .nil => .nil
  | _, _, _, _, .cons a t, .cons b u => .cons ⟨a, b⟩ (cut_zip t u)
def zipD (xs ys : List D) : List D := (xs.zip ys).map fun p => D.tup [p.1, p.2]
section
variable {K : PySem.W.Frag} {B : Bs} {γ : Env}
theorem lay_tups : ∀ {L : List (Addr × V × V)} {F H : Hp} {ds : List (D × D)}, Rep K B F H σ γ → tupsNew H L → Paired (fun (p : V × V) (d : D × D) => Rp (B.kz K) F p.1 d.1 ∧ Rp (B.kz K) F p.2 d.2) (L.map (·.2)) ds →
    ∃ F2, Rep K B F2 (tups H L) σ γ ∧ Ex F F2 ∧ RpAll (B.kz K) F2 (L.map fun t => V.ref t.1) (ds.map fun p => D.tup [p.1, p.2])
  | [], F, H, ds, R, _, h => by
    cases h
    exact ⟨F, R, Evl.Ex.refl F, .nil⟩
  | t :: L, F, H, ds, R, ⟨h0, h1⟩, h => by
    cases h with
    | cons r rest =>
      obtain ⟨R1, e1, rt⟩ := R.newT h0 (.cons r.1 (.cons r.2 .nil))
      obtain ⟨F2, R2, e2, ra⟩ := lay_tups R1 h1 (P_mono (fun _ _ q => ⟨q.1.mono e1, q.2.mono e1⟩) rest)
      exact ⟨F2, R2, e1.trans e2, .cons (rt.mono e2) ra⟩
def dLZ (da : DA) (γ : Env) (q : RS → Env → Prop) : Prop := da γ fun rs γ1 => allV rs ∧ match rs.map RS.data with
  | [.lst xs, .lst ys] => xs.length ≤ 4000 ∧ q (.new (.lst (zipD xs ys))) γ1
  | _ => False
theorem se_lz {ta : TA} {da : DA} (h : SA K B ta da) : SE K B (tCB (rLZ K) ta) (dLZ da) := fun F H σ γ Q q R hq k => by
  refine h F H σ γ _ _ R hq fun vs F1 H1 γ1 rs R1 e1 o1 ⟨hv, h1⟩ => ?_
  split at h1
  · rename_i xs ys es
    obtain ⟨few, hq⟩ := h1
    have ra := allV_rp o1 hv
    rw [es] at ra
    obtain ⟨a, b, va, vb, rfl, ⟨ha, sa⟩, hb, sb⟩ : ∃ a b va vb, vs = [.ref a, .ref b] ∧ (F1 a = some (.lst va) ∧ RpAll (B.kz K) F1 va xs) ∧ F1 b = some (.lst vb) ∧ RpAll (B.kz K) F1 vb ys := by
      cases ra with
      | cons r1 t => cases t with
        | cons r2 t =>
          cases t
          cases r1 with
          | lst ha ra => cases r2 with
            | lst hb rb => exact ⟨_, _, _, _, rfl, ⟨ha, ra⟩, hb, rb⟩
    refine ⟨a, b, va, vb, rfl, sq_inj_lst R1.fh ha, sq_inj_lst R1.fh hb, by rw [sa.length]; exact few, fun L S hL hN hS => ?_⟩
    obtain ⟨F2, R2, e2, rl⟩ := lay_tups R1 hN (by rw [hL]; exact cut_zip sa sb)
    obtain ⟨R3, o⟩ := R2.newL hS rl
    exact k _ F2 _ γ1 _ R3 (e1.trans e2) o hq
  · exact h1.elim
end
theorem x_lz {B : Bs} {da : DA} (hm : X.mg "list" = none) (hm2 : X.mg "zip" = none) (h : XA X B [e, f] ta da) (hg : Gl X "list" := by rfl) (hg2 : Gl X "zip" := by rfl) (hc : X.calm = true := by rfl) (hs : starEach [e, f] X.env = (false, eval e X.env) :: starEach [f] X.env := by rfl)
    (hpl : (backTo q (starEach [f] X.env)).any (·.1) = false := by rfl) (na : starEach [.Call (.Name "zip" p2) [e, f] [] q] X.env = (false, eval (.Call (.Name "zip" p2) [e, f] [] q) X.env) :: starEach [] X.env := by rfl) :
    XE X B (.Call (.Name "list" p) [.Call (.Name "zip" p2) [e, f] [] q] [] pos) (tCB (rLZ X.K) ta) (dLZ da) := ⟨pe_lz hg hm hg2 hm2 h.pa hc hs hpl na, se_lz h.sa⟩
end
end DL

set_option Elab.async false
set_option linter.all false
set_option maxRecDepth 100000
set_option maxHeartbeats 4000000
namespace DL
open PySem PySem.Spec PyProof.Rows L2 PySem.W
open Evl (Ex ex_l ex_t)
/-! == and != of two dicts of the same keys and numbers -/
def kiV (ks : List (Key × Int)) : List (Key × V) := ks.map fun p => (p.1, V.int p.2)
def kiD (ks : List (Key × Int)) : List (Key × D) := ks.map fun p => (p.1, D.int p.2)
theorem hits_all {A : Around} {s : Shared} {kb : List (Key × Value)} : ∀ {ks : List (Key × Int)} {va : List (Key × Value)}, KV (kiV ks) va → (∀ p ∈ ks, ∃ t, valueAt kb p.1 = some (.int p.2 t)) → KeqHits A s kb va true
  | [], _, .nil, _ => .nil
  | p :: ks, _, .cons (b := q) h t, g => by
    obtain ⟨k, u⟩ := q
    obtain ⟨rfl, t1, rfl⟩ := h
    obtain ⟨t2, e⟩ := g p (List.mem_cons_self ..)
    have one := (MeetsSeq.EqGives.int p.2 p.2 t1 t2).at A s
    have e2 : (p.2 == p.2) = true := beq_self_eq_true _
    rw [e2] at one
    exact .hit e one (hits_all t fun x hx => g x (List.mem_cons_of_mem _ hx))
theorem found : ∀ {ks : List (Key × Int)} {kb : List (Key × Value)}, KV (kiV ks) kb → (kb.map (·.1)).Nodup → ∀ p ∈ ks, ∃ t, valueAt kb p.1 = some (.int p.2 t) := fun {ks kb} h nd p hp => by
  obtain ⟨i, hi, e⟩ := List.getElem_of_mem hp
  have ek : (kiV ks)[i]? = some (p.1, V.int p.2) := by rw [kiV, List.getElem?_map, List.getElem?_eq_getElem hi, e]; rfl
  obtain ⟨⟨k, u⟩, eb, ek1, t, et⟩ := P_getL h ek
  exact ⟨t, valueAt_of_get nd (by rw [eb, show k = p.1 from ek1.symm, show u = Value.int p.2 t from et])⟩
def rSameK (b : Bool) : R2 := fun x y H Q => ∃ (p q : Addr) (ks : List (Key × Int)), x = .ref p ∧ y = .ref q ∧ Rd H p (.dK (kiV ks)) ∧ Rd H q (.dK (kiV ks)) ∧ Q (.bl b) H
section
variable {X : Cx}
theorem same_at {pins : List (Addr × Obj)} {σ : L2.St} {H : Hp} {s : Shared} {p q : Addr} {ks : List (Key × Int)} (I : Inv X pins σ H s) (hp : Rd H p (.dK (kiV ks))) (hq : Rd H q (.dK (kiV ks))) :
    (p == sysModules) = false ∧ (q == sysModules) = false ∧ ∃ va vb, s.heap.DictOf (mixKind X.prog X.w) p va ∧ s.heap.DictOf (mixKind X.prog X.w) q vb ∧ va.length = vb.length ∧ KeqHits X.A.in1 s vb va true := by
  obtain ⟨_, n1, va, ka, da⟩ := dk_rd I.hok hp
  obtain ⟨_, n2, vb, kb, db⟩ := dk_rd I.hok hq
  have l1 := Paired.length ka
  have l2 := Paired.length kb
  have nd : (vb.map (·.1)).Nodup := by
    obtain ⟨_, _, _, _, _, _, _, _, nd⟩ := db
    exact nd
  exact ⟨n1, n2, va, vb, da, db, by omega, hits_all ka (found kb nd)⟩
theorem op_sameK (hu : X.A.units + 1 < cLine) : OpR X (compareOp .Eq) (rSameK true) := by
  intro pins s σ H x y v u Q I rx ry h
  obtain ⟨p, q, ks, rfl, rfl, hp, hq, k⟩ := h
  rw [show v = Value.ref p from rx, show u = Value.ref q from ry]
  obtain ⟨n1, n2, va, vb, da, db, l, hits⟩ := same_at I hp hq
  exact keq_eq n1 n2 da db (Nat.lt_of_succ_lt hu) (fun _ => hits) ⟨.bl _, H, I, by rw [l]; simp [L2.RelV], k⟩
theorem op_diffK (hu : X.A.units + 1 < cLine) : OpR X (compareOp .NotEq) (rSameK false) := by
  intro pins s σ H x y v u Q I rx ry h
  obtain ⟨p, q, ks, rfl, rfl, hp, hq, k⟩ := h
  rw [show v = Value.ref p from rx, show u = Value.ref q from ry]
  obtain ⟨n1, n2, va, vb, da, db, l, hits⟩ := same_at I hp hq
  exact keq_ne n1 n2 da db (Nat.lt_of_succ_lt hu) (fun _ => hits) ⟨.bl _, H, I, by rw [l]; simp [L2.RelV], k⟩
end
def fSameK (b : Bool) (d e : D) (q : RS → Prop) : Prop := ∃ ks, d = .dct (kiD ks) ∧ e = .dct (kiD ks) ∧ q (.val (.bl b))
theorem ki_back {K : KZ} {F : Hp} : ∀ {ks : List (Key × Int)} {kv : List (Key × V)}, RpKs K F kv (kiD ks) → kv = kiV ks
  | [], _, .nil => rfl
  | p :: ks, _, .cons h t => by
    cases h
    rw [ki_back t]
    rfl
theorem od_sameK {K : PySem.W.Frag} {b : Bool} : OpD K (rSameK b) (fSameK b) := fun B F H σ γ x y d e Q q R rx ry hf k => by
  obtain ⟨ks, rfl, rfl, hq⟩ := hf
  obtain ⟨p, kv, rfl, hp, ra⟩ := rx.dct R.fh
  obtain ⟨p2, kv2, rfl, hp2, ra2⟩ := ry.dct R.fh
  have e1 := ki_back ra
  have e2 := ki_back ra2
  subst e1 e2
  exact ⟨p, p2, ks, rfl, rfl, hp, hp2, vk R k (.bl b) hq⟩
end DL

set_option Elab.async false
set_option linter.all false
set_option maxRecDepth 100000
set_option maxHeartbeats 4000000
namespace DL
open PySem PySem.Spec PyProof.Rows L2
open Evl (Ex ex_l ex_t)
/-! an own list is lent to an expression: inside it is a value, behind it is the own list again; what comes back holds no list -/
def hid1 : Sx → Sx
  | .own _ _ => .no
  | t => t
def hide : Env → Env
  | [] => []
  | t :: r => hid1 t :: hide r
theorem hide_len : ∀ γ : Env, (hide γ).length = γ.length
  | [] => rfl
  | t :: r => by rw [hide, List.length_cons, List.length_cons, hide_len r]
theorem hide_get : ∀ {γ : Env} {i : Nat} {t : Sx}, (hide γ)[i]? = some t → (∀ p c, t ≠ .own p c) ∧ (t = .no ∨ γ[i]? = some t)
  | u :: r, 0, t, h => by
    cases u with
    | own p c => cases h; exact ⟨fun _ _ z => (by cases z), .inl rfl⟩
    | no => cases h; exact ⟨fun _ _ z => (by cases z), .inl rfl⟩
    | val d => cases h; exact ⟨fun _ _ z => (by cases z), .inr rfl⟩
  | u :: r, i + 1, t, h => hide_get (γ := r) (i := i) h
def dLend (j : Nat) (de : DE) (γ : Env) (q : RS → Env → Prop) : Prop := match look γ j with
  | .own _ (.lst ds) => de (put (hide γ) j (.val (.lst ds))) fun r _ => lendN r fun r => q r γ
  | _ => False
section
variable {K : PySem.W.Frag} {B : Bs}
theorem se_lend {j : Nat} {te : TE} {de : DE} (h : ∀ B, SE K B te de) : SE K B te (dLend j de) := fun F H σ γ Q q R hq k => by
  unfold dLend at hq
  split at hq
  · rename_i p ds hl
    obtain ⟨a, vs, hs, ha, R1, e1, r1⟩ := R.freezeL hl
    let B2 : Bs := { N := H, pa := B.pa, F := upd F a (.lst vs), H := H, m := [], z := B.z, zn := R.znp }
    have no : ∀ {i : Nat} {q : Option Nat} {c : OC}, (put (hide γ) j (.val (.lst ds)))[i]? ≠ some (.own q c) := fun {i q c} h => by
      rcases get_put h with ⟨_, z⟩ | ⟨_, z⟩
      · cases z
      · exact (hide_get z).1 q c rfl
    have R2 : Rep K B2 (upd F a (.lst vs)) H σ (put (hide γ) j (.val (.lst ds))) := by
      refine ⟨R1.fh, ?_, fun i s t hs2 hg => ?_, fun i j a p c q c' h1 => absurd h1 no, fun b o e => ⟨fun _ => e, o, e⟩, Evl.Ex.refl _, fun b o _ _ => rfl, fun i a p c h1 => absurd h1 no, fun i a p c h1 => absurd h1 no, fun b o e => ⟨o, e⟩, fun a o e => ⟨o, e, .refl o⟩⟩
      · rw [R.len, put_set, List.length_set, hide_len]
      · rcases get_put hg with ⟨e, z⟩ | ⟨e, z⟩
        · subst e z
          rw [hs] at hs2
          cases hs2
          exact ⟨_, rfl, r1⟩
        · obtain ⟨z1, z2⟩ := hide_get z
          rcases z2 with z2 | z2
          · subst z2; trivial
          · have g1 : (put γ j (.val (.lst ds)))[i]? = some t := by rw [put_set, List.getElem?_set_ne (Ne.symm e)]; exact z2
            have q := R1.sl i s t hs2 g1
            cases t with
            | no => trivial
            | val d => exact q
            | own p c => exact absurd rfl (z1 p c)
    refine h B2 _ H σ _ Q _ R2 hq fun v F3 H3 γ3 r R3 e3 ok hp => ?_
    have eH : Ex H H3 := fun b o e => (R3.b1 b o e).1 (by simp [B2])
    have s3 : ∀ b o, H b = some o → F3 b = upd F a (.lst vs) b := fun b o e => R3.b3 b o e (by simp [B2])
    have s2 : ∀ b, upd F a (.lst vs) b = F b ∨ ∃ xs, H b = some (.lst xs) := fun b => by
      by_cases c : b = a
      · subst c; exact .inr ⟨vs, ha⟩
      · exact .inl (upd_ne c)
    obtain ⟨R4, e4, c1, c2, c3⟩ := lend_back R R3.fh eH s3 s2
    unfold lendN at hp
    split at hp
    · exact k v _ H3 γ (.val _) R4 e4 (c1 _ _ ok hp.1) hp.2
    · rename_i es
      obtain ⟨x, ex, N⟩ := ok
      obtain ⟨ws, hw, hr⟩ := N.ok
      have hx : H x = none := N.bn
      obtain ⟨f1, f2, f3, f4⟩ := R.fresh hx
      have fn : newF H F F3 x = none := by rw [newF_new hx]; exact N.fa
      exact k v _ H3 γ (.new (.lst es)) R4 e4 ⟨x, ex, fn, ⟨ws, hw, c2 _ _ hr hp.1⟩, f3, .inr f2, f4⟩ hp.2
    · rename_i C fs
      obtain ⟨x, ex, N⟩ := ok
      obtain ⟨dx, fv, g1, g2, g3, g4, g5, g6⟩ := N.ok
      have hx : H x = none := N.bn
      have hd : H dx = none := g4 hx
      obtain ⟨f1, f2, f3, f4⟩ := R.fresh hx
      obtain ⟨d1, d2, d3, d4⟩ := R.fresh hd
      have fn : newF H F F3 x = none := by rw [newF_new hx]; exact N.fa
      have fd : newF H F F3 dx = none := by rw [newF_new hd]; exact g3
      exact k v _ H3 γ (.new (.ins C fs)) R4 e4 ⟨x, ex, fn, ⟨dx, fv, g1, g2, fd, fun _ => d3, .inr d2, c3 _ _ g6 hp.1⟩, f3, .inr f2, f4⟩ hp.2
    · exact hp.elim
  · exact hq.elim
end
section
variable {X : Cx} {B : Bs} {e elt tg iter : Expr} {ifs : List Expr} {scope : Scope} {pos spos : Pos} {wi : TI} {di : DI} {g : TG} {dg : DG} {tt : TT} {dt : DT} {te : TE} {de : DE} {ix : List Nat}
theorem x_lend (j : Nat) (h : ∀ B, XE X B e te de) : XE X B e te (dLend j de) := ⟨(h B).pe, se_lend fun B => (h B).se⟩
/-- name = [..] on one line, a list lent to the right side -/
theorem s_setLcL (i j : Nat) (own : List (Str × Nat)) {y : Str} {py : Pos} (hc : X.calm = true) (nd : X.N.Nodup) (hi : ∀ B, XI X B tg iter wi di) (blk : BlkOk X.N X.env.scope scope own)
    (hg : ∀ (B : Bs) (s : Shared) (H : Hp) (C : Addr) (cl : List (Str × Addr)) (fp : List Addr), XG (X.blk s H scope (compEnvC scope cl C X.env) fp) B tg g dg ix) (ht : ∀ (B : Bs) (s : Shared) (H : Hp) (C : Addr) (cl : List (Str × Addr)) (fp : List Addr), XTs (X.blk s H scope (compEnvC scope cl C X.env) fp) B ifs tt dt)
    (he : ∀ (B : Bs) (s : Shared) (H : Hp) (C : Addr) (cl : List (Str × Addr)) (fp : List Addr), XE (X.blk s H scope (compEnvC scope cl C X.env) fp) B elt te de) (hix : ∀ i ∈ ix, i ∈ own.map (·.2)) (hsw : swapsWith (.ListComp elt [⟨tg, iter, ifs, 0⟩] scope pos) (some (.Name y py)) spos.line X.env = pure true)
    (hy : X.N[i]? = some y := by rfl) (hyl : X.env.scope.names.lookup y = some .local := by rfl) (hs : ∀ x, foldedSetIterable iter X.env x = pure x := by intro _; rfl) :
    XS X B (.Assign [.Name y py] (.ListComp elt [⟨tg, iter, ifs, 0⟩] scope pos) spos) (tAsg (tLc wi g tt te (own.map (·.2))) (gName i)) (dAsg i (dLend j (dLc di dg dt de (own.map (·.2))))) :=
  ⟨ps_setLc hc nd hy hyl hsw (hi B).pi blk (fun s H C cl fp => (hg B s H C cl fp).pg) (fun s H C cl fp => (ht B s H C cl fp).pt) (fun s H C cl fp => (he B s H C cl fp).pe) hs,
    sa_name (se_lend fun B => se_lc (hi B).si (fun B => (hg B X.s_0 X.H_0 0 [] []).sg) (fun B => (ht B X.s_0 X.H_0 0 [] []).st) (fun B => (he B X.s_0 X.H_0 0 [] []).se) hix)⟩
end
end DL

set_option Elab.async false
set_option linter.all false
set_option maxRecDepth 100000
set_option maxHeartbeats 4000000
namespace DL
open PySem PySem.Spec PyProof.Rows L2
open Evl (Ex)
/-! ### f-strings of texts and numbers -/
def dFmt (de : DE) (γ : Env) (q : RS → Env → Prop) : Prop := de γ fun s γ1 => match s.data with
  | .str y => y.length ≤ 16777216 ∧ q (.val (.str y)) γ1
  | .int i => i.natAbs.log2 < 1920 ∧ q (.val (.str (toString i))) γ1
  | _ => False
def dJs : List DE → Str → DE
  | [], acc => fun γ q => q (.val (.str acc)) γ
  | d :: ds, acc => fun γ q => d γ fun s γ1 => match s.data with
    | .str y => (acc ++ y).length ≤ 16777216 ∧ dJs ds (acc ++ y) γ1 q
    | _ => False
theorem dJs_nil {acc : Str} {γ : Env} {q : RS → Env → Prop} : dJs [] acc γ q = q (.val (.str acc)) γ := rfl
theorem dJs_cons {d : DE} {ds : List DE} {acc : Str} {γ : Env} {q : RS → Env → Prop} : dJs (d :: ds) acc γ q = d γ fun s γ1 => match s.data with
    | .str y => (acc ++ y).length ≤ 16777216 ∧ dJs ds (acc ++ y) γ1 q
    | _ => False := rfl
theorem lineS : sizeLine = 16777216 := sizeLine_eq
section
variable {K : PySem.W.Frag} {B : Bs} {te : TE} {de : DE}
theorem se_fmt (h : SE K B te de) : SE K B (tFmt te) (dFmt de) := fun F H σ γ Q q R hq k => by
  refine h F H σ γ _ _ R hq fun v F1 H1 γ1 s R1 e1 o1 h1 => ?_
  have rv := o1.rs R1
  split at h1
  · rename_i y es
    rw [es] at rv
    exact .inl ⟨y, rv.str, by rw [lineS]; exact h1.1, k _ F1 H1 γ1 (.val (.str y)) R1 e1 (.str y) h1.2⟩
  · rename_i i es
    rw [es] at rv
    exact .inr ⟨i, rv.int, h1.1, k _ F1 H1 γ1 (.val (.str (toString i))) R1 e1 (.str (toString i)) h1.2⟩
  · exact h1.elim
theorem se_js {ts : List TE} {ds : List DE} (h : Paired (SE K B) ts ds) : ∀ acc : Str, SE K B (fun σ H Q => tJs ts acc σ H fun out H1 => Q (.str out) H1) (dJs ds acc) := by
  induction h with
  | nil => exact fun acc F H σ γ Q q R hq k => k _ F H γ (.val (.str acc)) R (Evl.Ex.refl F) (.str acc) hq
  | @cons t d ts ds ht _ ih =>
    exact fun acc F H σ γ Q q R hq k => by
      refine ht F H σ γ _ _ R hq fun v F1 H1 γ1 s R1 e1 o1 h1 => ?_
      have rv := o1.rs R1
      split at h1
      · rename_i y es
        rw [es] at rv
        refine ⟨y, rv.str, by rw [lineS]; exact h1.1, ?_⟩
        exact ih (acc ++ y) F1 H1 σ γ1 Q q R1 h1.2 fun v2 F2 H2 γ2 s2 R2 e2 o2 q2 => k v2 F2 H2 γ2 s2 R2 (e1.trans e2) o2 q2
      · exact h1.elim
end
/-- the parts of an f-string -/
structure XJ (X : Cx) (B : Bs) (es : List Expr) (ts : List TE) (ds : List DE) : Prop where
  pj : PJ X es ts
  sj : Paired (SE X.K B) ts ds
section
variable {X : Cx} {B : Bs} {e v1 v2 : Expr} {es rest : List Expr} {te : TE} {ts : List TE} {de : DE} {ds : List DE} {pos : Pos}
theorem xj_nil : XJ X B [] [] [] := ⟨.nil, .nil⟩
theorem xj_cons (h : XE X B e te de) (r : XJ X B es ts ds) : XJ X B (e :: es) (te :: ts) (de :: ds) := ⟨.cons h.pe r.pj, .cons h.se r.sj⟩
theorem x_fmt (h : XE X B e te de) : XE X B (.FormattedValue e (-1) none pos) (tFmt te) (dFmt de) := ⟨pe_fmt h.pe, se_fmt h.se⟩
theorem x_fs (h : XJ X B (v1 :: v2 :: rest) ts ds) : XE X B (.JoinedStr (v1 :: v2 :: rest) pos) (fun σ H Q => tJs ts Str.empty σ H fun out H1 => Q (.str out) H1) (dJs ds Str.empty) := ⟨pe_joined h.pj, se_js h.sj Str.empty⟩
theorem x_fs1 (h : XE X B e te de) : XE X B (.JoinedStr [e] pos) te de := ⟨pe_joined1 h.pe, h.se⟩
end
/-! ### isinstance of own classes -/
/-- what the bases say of a class and another one -/
abbrev KT := String → String → Option Bool
structure KOk1 (K : PySem.W.Frag) (C : Addr) : Prop where
  cl : Cls K C
  ha : PySem.W.findIn K (.ref C) "__class__" = some (some (.builtin "object.__class__"))
  hn : PySem.W.specialIn K (.builtin "object.__class__") "__get__" = some (some (.builtin "getset_descriptor.__get__"))
  ht : PySem.W.takesIn K (.builtin "object.__class__") = some true
  hm : PySem.W.mroIn K C (.type "object") = some true
def KOk (K : PySem.W.Frag) (kit : KT) : Prop := ∀ C D b, kit C D = some b → KOk1 K (ctOf K C) ∧ PySem.W.kitOne K (.ref (ctOf K C)) (.ref (ctOf K D)) = some b
def kAny (kit : KT) (C : String) : List D → Option Bool
  | [] => some false
  | .kls c :: r => match kit C c with
    | some true => some true
    | some false => kAny kit C r
    | none => none
  | _ => none
def fIsO (kit : KT) : List D → (RS → Prop) → Prop
  | [.obj C _, .kls c], q => ∃ b, kit C c = some b ∧ q (.val (.bl b))
  | _, _ => False
def fIsOT (kit : KT) : List D → (RS → Prop) → Prop
  | [.obj C _, .tup cs], q => ∃ b, cs ≠ [] ∧ kAny kit C cs = some b ∧ q (.val (.bl b))
  | _, _ => False
section
variable {K : PySem.W.Frag} {kit : KT}
theorem Rs.kls {KZ : KZ} {F H : Hp} {n : String} {v : V} (h : Rs KZ F H v (.kls n)) : v = .ref (ctOf KZ.fr n) := by
  rcases h with h | ⟨a, rfl, ⟨_, _, e, _⟩ | ⟨_, _, _, _, e, _⟩ | ⟨_, _, e, _⟩⟩
  · cases h; rfl
  all_goals cases e
theorem KOk1.ty {C a dx : Addr} {H : Hp} {fv : List (Str × V)} (k : KOk1 K C) (e : H a = some (.ins C dx fv)) : TyX K H (.ref a) (.ref C) := .base (.ins e k.cl k.ha k.hn k.ht k.hm)
theorem cd_isO (ok : KOk K kit) : CallD K (rIsi K) (fIsO kit) := fun B F H σ γ xs ds Q q R rx hf k => by
  unfold fIsO at hf
  split at hf
  · rename_i C fs c
    obtain ⟨x, y, rfl, r, r'⟩ := two_rs rx
    obtain ⟨b, hb, hq⟩ := hf
    obtain ⟨k1, k2⟩ := ok C c b hb
    obtain ⟨a, dx, fv, rfl, h2, h3⟩ := r.obj R.fh
    rw [r'.kls]
    exact ⟨_, _, _, _, _, rfl, .own _, k1.ty h2, k2, vk R k (.bl _) hq⟩
  · exact hf.elim
end
end DL

set_option Elab.async false
set_option linter.all false
set_option maxRecDepth 100000
set_option maxHeartbeats 4000000
namespace DL
open PySem PySem.Spec PyProof.Rows L2
open Evl (Ex)
/-! ### the name of a class, isinstance(e, (C1, C2)) -/
theorem x_cls {X : Cx} {B : Bs} {x : Str} {pos : Pos} {C : String} (hm : X.mg x = some (.ref (ctOf X.K C))) (hg : Gl X x := by rfl) (hdb : (x == ("__debug__" : Str)) = false := by decide) : XE X B (.Name x pos) (tC (.ref (ctOf X.K C))) (dC (.kls C)) :=
  x_glob hg hm rfl (fun z F => Rp.kls (K := ⟨X.K, z⟩) C) hdb
def dIsO2 (kit : KT) (C1 C2 : String) (de : DE) (γ : Env) (q : RS → Env → Prop) : Prop := de γ fun s γ1 => match s.data with
  | .obj C _ => ∃ b1 b2, kit C C1 = some b1 ∧ kit C C2 = some b2 ∧ q (.val (.bl (b1 || b2))) γ1
  | _ => False
section
variable {K : PySem.W.Frag} {B : Bs} {te : TE} {de : DE} {kit : KT} {C1 C2 : String}
theorem kit_two {t c1 c2 : Value} {b1 b2 : Bool} (h1 : PySem.W.kitOne K t c1 = some b1) (h2 : PySem.W.kitOne K t c2 = some b2) : PySem.W.kitAny K t [c1, c2] = some (b1 || b2) := by
  have e0 : PySem.W.kitAny K t [] = some false := by first | rfl | simp [PySem.W.kitAny]
  refine kitAny_cons h1 (fun e => ?_) fun e => by rw [e]; rfl
  rw [e, Bool.false_or]
  exact kitAny_cons h2 (fun e => by rw [e]; exact e0) fun e => e
theorem se_isO2 (ok : KOk K kit) (h : SE K B te de) : SE K B (tCB (rIsiT K) (tCons te (tCons (tTup (tCons (tC (.ref (ctOf K C1))) (tCons (tC (.ref (ctOf K C2))) tNil))) tNil))) (dIsO2 kit C1 C2 de) := fun F H σ γ Q q R hq k => by
  refine h F H σ γ _ _ R hq fun v F1 H1 γ1 s R1 e1 o1 h1 => ?_
  split at h1
  · rename_i C fs es
    obtain ⟨b1, b2, k1, k2, hq⟩ := h1
    obtain ⟨z1, z2⟩ := ok C C1 b1 k1
    obtain ⟨_, z3⟩ := ok C C2 b2 k2
    have rv := o1.rs R1
    rw [es] at rv
    obtain ⟨a, dx, fv, rfl, ha, _⟩ := rv.obj R1.fh
    refine ⟨sz_le (by decide : 2 ≤ 1000000), fun p hp => ?_⟩
    have ne : a ≠ p := fun e => by subst e; rw [ha] at hp; cases hp
    obtain ⟨R2, ex, rp⟩ := R1.newT (vs := [.ref (ctOf K C1), .ref (ctOf K C2)]) (ds := [.kls C1, .kls C2]) hp (.cons (Rp.kls C1) (.cons (Rp.kls C2) .nil))
    refine ⟨.ref a, p, _, _, _, b1 || b2, rfl, upd_same, .cons (.own _) (.cons (.own _) .nil), z1.ty (by rw [upd_ne ne]; exact ha), kit_two z2 z3, ?_⟩
    exact k _ _ _ γ1 (.val (.bl (b1 || b2))) R2 (e1.trans ex) (.bl _) hq
  · exact h1.elim
end
theorem x_isO2 {X : Cx} {B : Bs} {e : Expr} {te : TE} {de : DE} {kit : KT} {C1 C2 : String} {c1 c2 : Str} {p p1 p2 tp pos : Pos} {x1} (ok : KOk X.K kit) (hm : X.mg "isinstance" = none) (h1 : X.mg c1 = some (.ref (ctOf X.K C1))) (h2 : X.mg c2 = some (.ref (ctOf X.K C2))) (he : XE X B e te de)
    (g0 : Gl X "isinstance" := by rfl) (g1 : Gl X c1 := by rfl) (g2 : Gl X c2 := by rfl) (d1 : (c1 == ("__debug__" : Str)) = false := by decide) (d2 : (c2 == ("__debug__" : Str)) = false := by decide)
    (s1 : starEach [e, .Tuple [.Name c1 p1, .Name c2 p2] x1 tp] X.env = (false, eval e X.env) :: starEach [.Tuple [.Name c1 p1, .Name c2 p2] x1 tp] X.env := by rfl)
    (s2 : starEach [.Tuple [.Name c1 p1, .Name c2 p2] x1 tp] X.env = (false, eval (.Tuple [.Name c1 p1, .Name c2 p2] x1 tp) X.env) :: starEach [] X.env := by rfl)
    (s3 : starEach [.Name c1 p1, .Name c2 p2] X.env = (false, eval (.Name c1 p1) X.env) :: starEach [.Name c2 p2] X.env := by rfl)
    (s4 : starEach [.Name c2 p2] X.env = (false, eval (.Name c2 p2) X.env) :: starEach [] X.env := by rfl)
    (hpl : (backTo pos (starEach [.Tuple [.Name c1 p1, .Name c2 p2] x1 tp] X.env)).any (·.1) = false := by rfl) :
    XE X B (.Call (.Name "isinstance" p) [e, .Tuple [.Name c1 p1, .Name c2 p2] x1 tp] [] pos) (tCB (rIsiT X.K) (tCons te (tCons (tTup (tCons (tC (.ref (ctOf X.K C1))) (tCons (tC (.ref (ctOf X.K C2))) tNil))) tNil))) (dIsO2 kit C1 C2 de) :=
  ⟨pe_callB call_isiT g0 hm (by decide +kernel) (pa_cons he.pe (pa_cons (pe_tup (pa_cons (pe_glob g1 h1 rfl d1) (pa_cons (pe_glob g2 h2 rfl d2) pa_nil s4) s3)) pa_nil s2) s1) (by decide) (by decide) s1 hpl, se_isO2 ok he.se⟩
/-! ### a dict of the module: texts by texts -/
abbrev TT := List (Str × Str)
def KdOk (w : World) (K : PySem.W.Frag) (a : Addr) (tt : TT) : Prop := ∀ z r, tt.lookup z = some r → KDct K w a z (.str r)
def dGD (tt : TT) (de : DE) (γ : Env) (q : RS → Env → Prop) : Prop := de γ fun s γ1 => match s.data with
  | .str z => ∃ r, tt.lookup z = some r ∧ q (.val (.str r)) γ1
  | _ => False
section
variable {w : World} {K : PySem.W.Frag} {B : Bs} {te : TE} {de : DE} {a : Addr} {tt : TT}
theorem se_gd (hd : KdOk w K a tt) (h : SE K B te de) : SE K B (tOp (rIxD K w) (tC (.ref a)) te) (dGD tt de) := fun F H σ γ Q q R hq k => by
  refine h F H σ γ _ _ R hq fun v F1 H1 γ1 s R1 e1 o1 h1 => ?_
  split at h1
  · rename_i z es
    obtain ⟨r, hr, hq⟩ := h1
    have rv := o1.rs R1
    rw [es] at rv
    exact ⟨a, z, .str r, rfl, rv.str, hd z r hr, k _ F1 H1 γ1 (.val (.str r)) R1 e1 (.str r) hq⟩
  · exact h1.elim
end
theorem x_gd {X : Cx} {B : Bs} {x : Str} {a : Addr} {tt : TT} {e : Expr} {te : TE} {de : DE} {p pos : Pos} (hm : X.mg x = some (.ref a)) (hd : KdOk X.w X.K a tt) (he : XE X B e te de) (hg : Gl X x := by rfl) (hdb : (x == ("__debug__" : Str)) = false := by decide) (hs : PlainIx e := by exact fun _ _ => rfl) :
    XE X B (.Subscript (.Name x p) e pos) (tOp (rIxD X.K X.w) (tC (.ref a)) te) (dGD tt de) := ⟨pe_ix ix_kdict (pe_glob hg hm rfl hdb) he.pe hs, se_gd hd he.se⟩
end DL

set_option Elab.async false
set_option linter.all false
set_option maxRecDepth 100000
set_option maxHeartbeats 4000000
namespace DL
open PySem PySem.Spec PyProof.Rows L2
open Evl (Ex)
/-! ### a dict is locked for good, and walked -/
def tLk (t : TS) : TS := fun D σ H => ∃ d u, H d = some u ∧ Mut (some u) ∧ ∀ od, t D σ (upd H d (.frz od u))
theorem ps_lk {X : Cx} {st : Stmt} {t : TS} (h : PS X st t) : PS X st (tLk t) := ⟨fun pins s σ H D I ⟨d, u, hd, mu, hw⟩ => by
  obtain ⟨od, I1⟩ := I.lock hd mu
  exact h.run pins s σ _ D I1 (hw od)⟩
theorem Rep.lock {K : PySem.W.Frag} {B : Bs} {F H : Hp} {σ : L2.St} {γ : Env} (R : Rep K B F H σ γ) {i : Nat} {p : Option Nat} {kd : List (Key × D)} (e : look γ i = .own p (.dct kd)) :
    ∃ a kv, H a = some (.dK kv) ∧ ∀ od, Rep K B (upd F a (.frz od (.dK kv))) (upd H a (.frz od (.dK kv))) σ (put γ i (.val (.ldc kd))) ∧ Ex F (upd F a (.frz od (.dK kv))) := by
  obtain ⟨a, hs, hg, fa, kv, ha, ra⟩ := R.own e
  have R0 : Rep K B F H σ (put γ i .no) := R.told (fun _ _ => trivial) (fun _ _ z => by cases z)
  have na : ∀ (j : Nat) q c', (put γ i .no)[j]? = some (.own q c') → σ[j]? ≠ some (some (.ref a)) := fun j q c' h1 h2 => by
    rcases get_put h1 with ⟨_, z⟩ | ⟨n, z⟩
    · cases z
    · exact n (R.nd j i a q c' p _ z hg h2 hs)
  have b5 := R.b5 i a p _ hg hs
  refine ⟨a, kv, ha, fun od => ?_⟩
  have R1 := R0.poke (o' := .frz od (.dK kv)) ha (fun x z => by cases z) fa b5 na (.inr ⟨od, kv, rfl⟩)
  obtain ⟨R2, ex⟩ := R1.freeze (o := .frz od (.dK kv)) upd_same fa b5 fun j q c' h1 => ⟨na j q c' h1, fun x _ z => by cases z⟩
  refine ⟨?_, ex⟩
  have q := R2.told (i := i) (t := .val (.ldc kd)) (fun s hs' => by rw [hs] at hs'; cases hs'; exact ⟨_, rfl, .ldc upd_same (ra.mono ex)⟩) (fun _ _ z => by cases z)
  have pp : put (put γ i .no) i (.val (.ldc kd)) = put γ i (.val (.ldc kd)) := by rw [put_set, put_set, put_set, List.set_set]
  rw [pp] at q
  exact q
/-- the dict in slot j is locked ahead of the statement -/
def dLk (j : Nat) (ds : DS) : DS := fun d γ => match look γ j with
  | .own _ (.dct kd) => ds d (put γ j (.val (.ldc kd)))
  | _ => False
theorem ss_lk {K : PySem.W.Frag} {B : Bs} {t : TS} {ds : DS} {j : Nat} (h : SS K B t ds) : SS K B (tLk t) (dLk j ds) := fun F H σ γ E d R hq k => by
  unfold dLk at hq
  split at hq
  · rename_i p kd hl
    obtain ⟨a, kv, ha, hw⟩ := R.lock hl
    refine ⟨a, .dK kv, ha, trivial, fun od => ?_⟩
    obtain ⟨R2, ex⟩ := hw od
    exact h _ _ σ _ E d R2 hq (k.mono ex)
  · exact hq.elim
theorem s_lk {X : Cx} {B : Bs} {st : Stmt} {t : TS} {ds : DS} (j : Nat) (h : XS X B st t ds) : XS X B st (tLk t) (dLk j ds) := ⟨ps_lk h.ps, ss_lk h.ss⟩
/-- a locked dict read as a dict -/
def unlD : D → D
  | .ldc kd => .dct kd
  | d => d
def unl : RS → RS
  | .val d => .val (unlD d)
  | s => s
theorem rp_unl {K : KZ} {F : Hp} {v : V} : ∀ {d : D}, Rp K F v d → Rp K F v (unlD d)
  | .ldc _, .ldc a b => .dct (.inr ⟨_, a⟩) b
  | .non, h => h | .bl _, h => h | .int _, h => h | .str _, h => h | .ref _, h => h | .ty _, h => h | .lst _, h => h | .tup _, h => h | .obj _ _, h => h | .dct _, h => h | .kls _, h => h | .scr _, h => h | .fr _, h => h
def dUnl (de : DE) (γ : Env) (q : RS → Env → Prop) : Prop := de γ fun s γ1 => q (unl s) γ1
theorem x_unl {X : Cx} {B : Bs} {e : Expr} {te : TE} {de : DE} (h : XE X B e te de) : XE X B e te (dUnl de) := ⟨h.pe, fun F H σ γ Q q R hq k => by
  refine h.se F H σ γ _ _ R hq fun v F1 H1 γ1 s R1 e1 o1 h1 => ?_
  cases s with
  | val d => exact k v F1 H1 γ1 (.val (unlD d)) R1 e1 (rp_unl (show Rp (B.kz X.K) F1 v d from o1)) h1
  | own j c => exact k v F1 H1 γ1 (.own j c) R1 e1 o1 h1
  | new c => exact k v F1 H1 γ1 (.new c) R1 e1 o1 h1⟩
/-- a key as data -/
def kD : Key → D
  | .inl i => .int i
  | .inr s => .str s
theorem kD_i {i : Int} : kD (.inl i) = .int i := rfl
theorem kD_s {s : Str} : kD (.inr s) = .str s := rfl
theorem rp_key {KZ : KZ} {F : Hp} : ∀ k : Key, Rp KZ F (kV k) (kD k)
  | .inl i => .int i
  | .inr s => .str s
theorem ks_at {K : KZ} {F : Hp} {k : Key} {v : V} {kv : List (Key × V)} {kd : List (Key × D)} {i : Nat} (r : RpKs K F kv kd) (h : kv[i]? = some (k, v)) : ∃ d, kd[i]? = some (k, d) ∧ Rp K F v d := by
  induction kv generalizing kd i with
  | nil => cases i <;> cases h
  | cons a kv ih =>
    cases r with
    | cons r1 t =>
      cases i with
      | zero => cases h; exact ⟨_, rfl, r1⟩
      | succ i =>
        have h2 : kv[i]? = some (k, v) := h
        obtain ⟨d, q, r2⟩ := ih t h2
        exact ⟨d, q, r2⟩
/-- for k in d -/
def dIK (de : DE) (γ : Env) (r : Nat → (Nat → D → Prop) → Env → Prop) : Prop := de γ fun s γ1 => match s with
  | .val (.ldc kd) => r kd.length (fun i d => ∃ p, kd[i]? = some p ∧ d = kD p.1) γ1
  | _ => False
section
variable {K : PySem.W.Frag} {B : Bs}
theorem jo_keys {F0 : Hp} {a : Addr} {o : Obj} {kv : List (Key × V)} {kd : List (Key × D)} (h : F0 a = some (.frz o (.dK kv))) {z : Addr → Prop} (r : RpKs ⟨K, z⟩ F0 kv kd) : JOk K z F0 (Itk a o kv) kd.length (fun i d => ∃ p, kd[i]? = some p ∧ d = kD p.1) where
  go := fun B F H σ γ i R e hi => ⟨R.fh _ _ (e _ _ h), by rw [ks_len r]; exact hi⟩
  yl := fun B F H σ γ i x H' R e hi ⟨hH, k, v, hk, hx⟩ hz => by
    subst hH
    subst hx
    obtain ⟨d, hd, _⟩ := ks_at r hk
    exact ⟨F, kD k, R, Evl.Ex.refl F, rp_key k, (k, d), hd, rfl⟩
  st := fun B F H σ γ i R e hi => ⟨R.fh _ _ (e _ _ h), by rw [ks_len r]; exact hi⟩
theorem si_keys {te : TE} {de : DE} (he : SE K B te de) : SI K B (iKeys te) (dIK de) := fun F H σ γ W r R hq k => by
  refine he F H σ γ _ _ R hq fun x F1 H1 γ1 s R1 e1 o1 h1 => ?_
  split at h1
  · rename_i kd
    have o2 : Rp (B.kz K) F1 x (.ldc kd) := o1
    cases o2 with
    | ldc a b => exact ⟨_, _, rfl, .inl ⟨_, R1.fh _ _ a, k _ F1 H1 γ1 _ _ R1 e1 (jo_keys a b) h1⟩⟩
  · exact h1.elim
end
theorem i_keys {X : Cx} {B : Bs} {tg e : Expr} {te : TE} {de : DE} (h : XE X B e te de) : XI X B tg e (iKeys te) (dIK de) := ⟨pi_keys h.pe, si_keys h.se⟩
end DL

set_option Elab.async false
set_option linter.all false
set_option maxRecDepth 100000
set_option maxHeartbeats 4000000
namespace DL
open PySem PySem.Spec PyProof.Rows L2 PySem.W
open Evl (Ex)
/-! ### two dicts with equal data are equal -/
/-- pairs of a dict in the heap, and their data -/
structure KvDp (K : Frag) (H : Hp) (kv : List (Key × V)) (kd : List (Key × D)) : Prop where
  len : kv.length = kd.length
  at_ : ∀ (i : Nat) (k : Key) (d : D), kd[i]? = some (k, d) → ∃ v, kv[i]? = some (k, v) ∧ Dp K H v d.py
theorem kvDp_of {K : KZ} {F H : Hp} (e : Ex F H) : ∀ {kv : List (Key × V)} {kd : List (Key × D)}, RpKs K F kv kd → (∀ p ∈ kd, p.2.pure = true) → KvDp K.fr H kv kd
  | _, _, .nil, _ => ⟨rfl, fun i k d h => by cases i <;> cases h⟩
  | _, _, .cons r t, h => by
    obtain ⟨l, g⟩ := kvDp_of e t fun p hp => h p (List.mem_cons_of_mem _ hp)
    refine ⟨by simp only [List.length_cons, l], fun i k d hi => ?_⟩
    cases i with
    | zero => cases hi; exact ⟨_, rfl, r.dp e (h _ List.mem_cons_self)⟩
    | succ i => exact g i k d hi
def rEqKv (b : Bool) (K : Frag) : R2 := fun x y H Q => ∃ (p q : Addr) (k1 k2 : List (Key × V)) (kd : List (Key × D)), x = .ref p ∧ y = .ref q ∧ Rd H p (.dK k1) ∧ Rd H q (.dK k2) ∧ KvDp K H k1 kd ∧ KvDp K H k2 kd ∧ (∀ e ∈ kd, SeqAt.shaped e.2.py = true ∧ e.2.py.depth ≤ 60) ∧ Q (.bl b) H
section
variable {X : Cx}
theorem hits_kd {pins : List (Addr × Obj)} {σ : L2.St} {H : Hp} {s : Shared} (I : Inv X pins σ H s) {A : Around} (hu : A.units + 63 < cLine) {kb : List (Key × Value)} : ∀ {kd : List (Key × D)} {va : List (Key × Value)}, va.length = kd.length →
    (∀ (i : Nat) (k : Key) (d : D), kd[i]? = some (k, d) → ∃ u, va[i]? = some (k, u) ∧ ∃ as, Reads s.heap u d.py as) → (∀ p ∈ kd, ∃ u, valueAt kb p.1 = some u ∧ ∃ as, Reads s.heap u p.2.py as) → (∀ e ∈ kd, SeqAt.shaped e.2.py = true ∧ e.2.py.depth ≤ 60) → KeqHits A s kb va true
  | [], [], _, _, _, _ => .nil
  | [], _ :: _, h, _, _, _ => by cases h
  | _ :: _, [], h, _, _, _ => by cases h
  | (k, d) :: kd, (k', u) :: va, hl, ha, hb, hs => by
    obtain ⟨u1, e1, as, r1⟩ := ha 0 k d rfl
    cases e1
    obtain ⟨u2, e2, bs, r2⟩ := hb (k, d) List.mem_cons_self
    obtain ⟨sh, dp⟩ := hs (k, d) List.mem_cons_self
    have sh : SeqAt.shaped d.py = true := sh
    have dp : d.py.depth ≤ 60 := dp
    have one := SeqAt.eqAt_reads d.py d.py A s u u2 as bs r1 r2 (SeqAt.canLay_of_shaped sh) (SeqAt.canLay_of_shaped sh) (by rw [Nat.min_self]; omega)
    rw [show PyData.eqv d.py d.py = true from PySem.SeqAt.eqv_refl _ (SeqAt.canLay_of_shaped sh)] at one
    exact .hit e2 one (hits_kd I hu (by simpa using hl) (fun i k d h => ha (i + 1) k d h) (fun p hp => hb p (List.mem_cons_of_mem _ hp)) fun e he => hs e (List.mem_cons_of_mem _ he))
theorem kv_reads {pins : List (Addr × Obj)} {σ : L2.St} {H : Hp} {s : Shared} (I : Inv X pins σ H s) {kv : List (Key × V)} {kd : List (Key × D)} {va : List (Key × Value)} (h : KvDp X.K H kv kd) (r : KV kv va) :
    va.length = kd.length ∧ ∀ (i : Nat) (k : Key) (d : D), kd[i]? = some (k, d) → ∃ u, va[i]? = some (k, u) ∧ ∃ as, Reads s.heap u d.py as := by
  refine ⟨by rw [← h.len]; exact (Paired.length r).symm, fun i k d hi => ?_⟩
  obtain ⟨v, hv, dp⟩ := h.at_ i k d hi
  obtain ⟨⟨k2, u⟩, hu, ek, ru⟩ := P_getL r hv
  obtain ⟨as, rd⟩ := Dp.reads I d.py v u dp ru
  exact ⟨u, by rw [hu, show k2 = k from ek.symm], as, rd⟩
theorem eqkv_at {pins : List (Addr × Obj)} {σ : L2.St} {H : Hp} {s : Shared} (I : Inv X pins σ H s) (hu : X.A.units + 64 < cLine) {p q : Addr} {k1 k2 : List (Key × V)} {kd : List (Key × D)} (hp : Rd H p (.dK k1)) (hq : Rd H q (.dK k2)) (d1 : KvDp X.K H k1 kd) (d2 : KvDp X.K H k2 kd) (sh : ∀ e ∈ kd, SeqAt.shaped e.2.py = true ∧ e.2.py.depth ≤ 60) :
    (p == sysModules) = false ∧ (q == sysModules) = false ∧ ∃ va vb, s.heap.DictOf (mixKind X.prog X.w) p va ∧ s.heap.DictOf (mixKind X.prog X.w) q vb ∧ va.length = vb.length ∧ KeqHits X.A.in1 s vb va true := by
  obtain ⟨_, n1, va, ka, da⟩ := dk_rd I.hok hp
  obtain ⟨_, n2, vb, kb, db⟩ := dk_rd I.hok hq
  have nd : (vb.map (·.1)).Nodup := by
    obtain ⟨_, _, _, _, _, _, _, _, nd⟩ := db
    exact nd
  obtain ⟨l1, g1⟩ := kv_reads I d1 ka
  obtain ⟨l2, g2⟩ := kv_reads I d2 kb
  refine ⟨n1, n2, va, vb, da, db, by omega, hits_kd I (by show X.A.units + 1 + 63 < cLine; omega) l1 g1 (fun e he => ?_) sh⟩
  obtain ⟨i, hi, ei⟩ := List.getElem_of_mem he
  obtain ⟨u, hu2, as, rd⟩ := g2 i e.1 e.2 (by rw [List.getElem?_eq_getElem hi, ei])
  exact ⟨u, valueAt_of_get nd hu2, as, rd⟩
theorem op_eqKv (hu : X.A.units + 64 < cLine) : OpR X (compareOp .Eq) (rEqKv true X.K) := by
  intro pins s σ H x y v u Q I rx ry h
  obtain ⟨p, q, k1, k2, kd, rfl, rfl, hp, hq, d1, d2, sh, k⟩ := h
  rw [show v = Value.ref p from rx, show u = Value.ref q from ry]
  obtain ⟨n1, n2, va, vb, da, db, l, hits⟩ := eqkv_at I hu hp hq d1 d2 sh
  exact keq_eq n1 n2 da db (by omega) (fun _ => hits) ⟨.bl _, H, I, by rw [l]; simp [L2.RelV], k⟩
theorem op_neKv (hu : X.A.units + 64 < cLine) : OpR X (compareOp .NotEq) (rEqKv false X.K) := by
  intro pins s σ H x y v u Q I rx ry h
  obtain ⟨p, q, k1, k2, kd, rfl, rfl, hp, hq, d1, d2, sh, k⟩ := h
  rw [show v = Value.ref p from rx, show u = Value.ref q from ry]
  obtain ⟨n1, n2, va, vb, da, db, l, hits⟩ := eqkv_at I hu hp hq d1 d2 sh
  exact keq_ne n1 n2 da db (by omega) (fun _ => hits) ⟨.bl _, H, I, by rw [l]; simp [L2.RelV], k⟩
end
def fSameV (b : Bool) (d e : D) (q : RS → Prop) : Prop := ∃ kd, d = .dct kd ∧ e = .dct kd ∧ (∀ p ∈ kd, dOk p.2 = true ∧ p.2.py.depth ≤ 60) ∧ q (.val (.bl b))
theorem od_sameV {K : PySem.W.Frag} {b : Bool} : OpD K (rEqKv b K) (fSameV b) := fun B F H σ γ x y d e Q q R rx ry hf k => by
  obtain ⟨kd, rfl, rfl, ok, hq⟩ := hf
  obtain ⟨p, kv, rfl, hp, ra⟩ := rx.dct R.fh
  obtain ⟨p2, kv2, rfl, hp2, ra2⟩ := ry.dct R.fh
  have pu : ∀ p ∈ kd, p.2.pure = true := fun p hp => (Bool.and_eq_true_iff.mp (ok p hp).1).1
  exact ⟨p, p2, kv, kv2, kd, rfl, rfl, hp, hp2, kvDp_of R.fh ra pu, kvDp_of R.fh ra2 pu, fun e he => ⟨(Bool.and_eq_true_iff.mp (ok e he).1).2, (ok e he).2⟩, vk R k (.bl b) hq⟩
end DL

set_option Elab.async false
set_option linter.all false
set_option maxRecDepth 100000
set_option maxHeartbeats 4000000
namespace DL
open PySem PySem.Spec PyProof.Rows L2
open Evl (Ex)
/-! ### list(d) of a locked dict: its keys -/
def rKeysL : List V → Hp → VK → Prop := fun vs H Q => ∃ (p : Addr) (o : Obj) (kv : List (Key × V)), vs = [V.ref p] ∧ H p = some (.frz o (.dK kv)) ∧ ∀ a, H a = none → Q (.ref a) (upd H a (.lst (kv.map fun e => kV e.1)))
theorem call_keysL {X : Cx} (hc : X.calm = true) : CallR X (.type "list") rKeysL := by
  intro pins s σ H vs us Q I r hyp
  obtain ⟨p, o, kv, rfl, atp, fin⟩ := hyp
  obtain ⟨u, rfl, ru⟩ := vals1 r
  obtain rfl : u = Value.ref p := ru
  obtain ⟨small, low, vl, rel, dc⟩ := dk_rd I.hok (.inr ⟨o, atp⟩)
  obtain ⟨ep, place⟩ := dc.dictAt
  have same : kv.length = vl.length := Paired.length rel
  have keys : ∀ j : Nat, (kv.map fun e => kV e.1)[j]? = (vl.map (·.1))[j]?.map kV := fun j => by
    rw [← KV.keys rel, List.getElem?_map, List.getElem?_map, Option.map_map]
    rfl
  refine PySem.W.kdl_call (PySem.W.kdl_dict (kvs := vl) (knd := mixKind X.prog X.w) (ep := ep) low) (I.ok.hd hc) place (by omega) fun h2 t2 arr n2 old new got => ?_
  have size : arr.toList.length = vl.length := by rw [Array.length_toList]; exact got.1
  have rv : Vals (kv.map fun e => kV e.1) arr.toList := by
    refine vals_of_at (by rw [List.length_map, size, same]) fun j x w hx hw => ?_
    rw [keys j] at hx
    obtain ⟨k, y, ky, is⟩ := got.2 j w (by rw [← Array.getElem?_toList]; exact hw)
    rw [List.getElem?_map, ky] at hx
    cases hx
    exact keyIs_rel is
  have laid : ObjOk X.prog X.w (upd H s.heap.objs.size (.lst (kv.map fun e => kV e.1))) h2 s.heap.objs.size (.lst (kv.map fun e => kV e.1)) := ⟨by rw [List.length_map]; exact small, arr.toList, n2, rv, by rw [Array.toArray_toList]; exact new⟩
  exact ⟨.ref s.heap.objs.size, _, I.laid old (Nat.le_refl _) laid, rfl, fin _ (I.hok.fresh (Nat.le_refl _))⟩
def fKeysL : List D → (RS → Prop) → Prop
  | [.ldc kd], q => q (.new (.lst (kd.map fun e => kD e.1)))
  | _, _ => False
theorem keys_rp {K : KZ} {F : Hp} : ∀ {kv : List (Key × V)} {kd : List (Key × D)}, RpKs K F kv kd → RpAll K F (kv.map fun e => kV e.1) (kd.map fun e => kD e.1)
  | _, _, .nil => .nil
  | _, _, .cons (n := k) r t => .cons (rp_key k) (keys_rp t)
theorem Rs.ldc {K : KZ} {F H : Hp} {kd : List (Key × D)} {v : V} (h : Rs K F H v (.ldc kd)) : ∃ a o kv, v = .ref a ∧ F a = some (.frz o (.dK kv)) ∧ RpKs K F kv kd := by
  rcases h with h | ⟨a, rfl, ⟨_, _, e, _⟩ | ⟨_, _, _, _, e, _⟩ | ⟨_, _, e, _⟩⟩
  · cases h with
    | ldc a b => exact ⟨_, _, _, rfl, a, b⟩
  all_goals cases e
theorem cd_keysL {K : PySem.W.Frag} : CallD K rKeysL fKeysL := fun B F H σ γ xs ds Q q R rx hf k => by
  unfold fKeysL at hf
  split at hf
  · obtain ⟨x, rfl, r⟩ := one_rs rx
    obtain ⟨a, o, kv, rfl, ha, ra⟩ := r.ldc
    refine ⟨a, o, kv, rfl, R.fh _ _ ha, fun p hp => ?_⟩
    obtain ⟨R', o'⟩ := R.newL hp (keys_rp ra)
    exact k _ F _ _ R' (Evl.Ex.refl F) o' hf
  · exact hf.elim
/-! ### {k: v, ..}, all of them written texts -/
def tDlit (tt : TT) : List (TE × TE) := tt.map fun e => (tC (.str e.1), tC (.str e.2))
def dDlit (tt : TT) (γ : Env) (q : RS → Env → Prop) : Prop := q (.new (.dct (tt.map fun e => (.inr e.1, .str e.2)))) γ
theorem tpairs_lit {σ : L2.St} {H : Hp} {Q : List (V × V) → Hp → Prop} : ∀ (tt : TT), Q (tt.map fun e => (V.str e.1, V.str e.2)) H → tPairs (tDlit tt) σ H Q
  | [], h => h
  | e :: tt, h => by
    show tPairs (tDlit tt) σ H fun ps H3 => Q ((V.str e.1, V.str e.2) :: ps) H3
    exact tpairs_lit tt h
theorem merge_lit : ∀ (tt : TT) (acc : List (Key × V)), ((acc.map (·.1)) ++ (tt.map fun e => (Sum.inr e.1 : Key))).Nodup → mergeK acc (tt.map fun e => ((Sum.inr e.1 : Key), V.str e.2)) = acc ++ tt.map fun e => ((Sum.inr e.1 : Key), V.str e.2)
  | [], acc, _ => by simp [mergeK]
  | e :: tt, acc, nd => by
    have nk : (acc.any fun kv => decide (kv.1 = (Sum.inr e.1 : Key))) = false := by
      rw [List.any_eq_false]
      intro x hx
      have := (List.nodup_append.mp nd).2.2 x.1 (List.mem_map_of_mem hx) (Sum.inr e.1) (by simp)
      simpa using this
    have step : mergeK acc ((e :: tt).map fun e => ((Sum.inr e.1 : Key), V.str e.2)) = mergeK (putK acc (Sum.inr e.1) (V.str e.2)) (tt.map fun e => ((Sum.inr e.1 : Key), V.str e.2)) := rfl
    rw [step]
    have pk : putK acc (Sum.inr e.1) (V.str e.2) = acc ++ [(Sum.inr e.1, V.str e.2)] := by
      unfold putK
      rw [nk]
      rfl
    rw [pk, merge_lit tt _ (by simpa using nd)]
    simp
theorem lit_rp {K : KZ} {F : Hp} : ∀ tt : TT, RpKs K F (tt.map fun e => ((Sum.inr e.1 : Key), V.str e.2)) (tt.map fun e => ((Sum.inr e.1 : Key), D.str e.2))
  | [] => .nil
  | e :: tt => .cons (.str e.2) (lit_rp tt)
theorem se_dlit {K : PySem.W.Frag} {B : Bs} {tt : TT} (nd : (tt.map fun e => (Sum.inr e.1 : Key)).Nodup) (few : tt.length ≤ 15) : SE K B (tDisp (tDlit tt)) (dDlit tt) := fun F H σ γ Q q R hq k => fun p hp => by
  refine tpairs_lit tt ⟨upd_same, tt.map fun e => ((Sum.inr e.1 : Key), V.str e.2), by rw [List.map_map]; rfl, by rw [List.length_map]; exact few, ?_⟩
  have e1 : upd (upd H p (.dK [])) p (.dK (mergeK [] (tt.map fun e => ((Sum.inr e.1 : Key), V.str e.2)))) = upd H p (.dK (tt.map fun e => ((Sum.inr e.1 : Key), V.str e.2))) := by
    rw [merge_lit tt [] (by simpa using nd)]
    funext b
    by_cases c : b = p
    · subst c; rw [upd_same, upd_same]; rfl
    · rw [upd_ne c, upd_ne c, upd_ne c]
  rw [e1]
  obtain ⟨R', o⟩ := R.newK hp (lit_rp tt)
  exact k _ F _ γ _ R' (Evl.Ex.refl F) o hq
theorem x_dlit {X : Cx} {B : Bs} {keys : List (Option Expr)} {values : List Expr} {pos : Pos} {tt : TT} (h : PPs X pos keys values (tDlit tt)) (nd : (tt.map fun e => (Sum.inr e.1 : Key)).Nodup := by decide) (few : tt.length ≤ 15 := by decide) (hall : keys.all (·.isSome) = true := by rfl) (hl : keys.length = values.length := by rfl) (h0 : keys ≠ [] := by intro z; cases z) (h15 : keys.length ≤ 15 := by decide) :
    XE X B (.Dict keys values pos) (tDisp (tDlit tt)) (dDlit tt) := ⟨pe_disp h hall hl h0 h15, se_dlit nd few⟩
end DL

set_option Elab.async false
set_option linter.all false
set_option maxRecDepth 100000
set_option maxHeartbeats 4000000
namespace DL
open PySem PySem.Spec PyProof.Rows L2
/-! ### the second clause of a comprehension: the fragment by name -/
theorem i_seqK {X : Cx} {B : Bs} {K : PySem.W.Frag} {tg e : Expr} {te : TE} {de : DE} (h : XE X B e te de) (hK : X.K = K := by rfl) : XI X B tg e (iSeq K te) (dIQ de) := by
  subst hK; exact i_seq h
theorem i_tupK {X : Cx} {B : Bs} {K : PySem.W.Frag} {tg e : Expr} {te : TE} {de : DE} (h : XE X B e te de) (hK : X.K = K := by rfl) : XI X B tg e (iTup K te) (dIT de) := by
  subst hK; exact i_tup h
theorem x_clsK {X : Cx} {B : Bs} {K : PySem.W.Frag} {x : Str} {pos : Pos} {C : String} (hm : X.mg x = some (.ref (ctOf K C))) (hK : X.K = K := by rfl) (hg : Gl X x := by rfl) (hdb : (x == ("__debug__" : Str)) = false := by decide) : XE X B (.Name x pos) (tC (.ref (ctOf K C))) (dC (.kls C)) := by
  subst hK; exact x_cls hm hg hdb
end DL

set_option Elab.async false
set_option linter.all false
set_option maxRecDepth 100000
set_option maxHeartbeats 4000000
namespace DL
open PySem PySem.Spec PyProof.Rows L2
open Evl (Ex)
/-! ### a new dict is locked for good as soon as it is there -/
def tLkE (te : TE) : TE := fun σ H Q => te σ H fun v H1 => Q v H1 ∨ ∃ d u, H1 d = some u ∧ Mut (some u) ∧ ∀ od, Q v (upd H1 d (.frz od u))
theorem pe_lkE {X : Cx} {e : Expr} {te : TE} (h : PE X e te) : PE X e (tLkE te) := ⟨fun pins s σ H Q I hq => by
  refine thn (h.run pins s σ H _ I hq) fun v s1 ⟨x, H1, I1, r1, q1⟩ => ?_
  rcases q1 with q | ⟨d, u, hd, mu, q⟩
  · exact ⟨x, H1, I1, r1, q⟩
  · obtain ⟨od, I2⟩ := I1.lock hd mu
    exact ⟨x, _, I2, r1, q od⟩⟩
def dLkE (de : DE) (γ : Env) (q : RS → Env → Prop) : Prop := de γ fun s γ1 => match s with
  | .new (.dct kd) => q (.val (.ldc kd)) γ1
  | s => q s γ1
section
variable {K : PySem.W.Frag} {B : Bs} {te : TE} {de : DE}
theorem se_lkE (h : SE K B te de) : SE K B (tLkE te) (dLkE de) := fun F H σ γ Q q R hq k => by
  refine h F H σ γ _ _ R hq fun v F1 H1 γ1 s R1 e1 o1 h1 => ?_
  cases s with
  | val d => exact .inl (k v F1 H1 γ1 (.val d) R1 e1 o1 h1)
  | own j c => exact .inl (k v F1 H1 γ1 (.own j c) R1 e1 o1 h1)
  | new c =>
    cases c with
    | lst ds => exact .inl (k v F1 H1 γ1 (.new (.lst ds)) R1 e1 o1 h1)
    | ins C fs => exact .inl (k v F1 H1 γ1 (.new (.ins C fs)) R1 e1 o1 h1)
    | dct kd =>
      obtain ⟨a, rfl, N⟩ := o1
      have ok := N.ok
      obtain ⟨kv, ha, ra⟩ := ok
      refine .inr ⟨a, .dK kv, ha, trivial, fun od => ?_⟩
      have R2 := R1.poke (o' := .frz od (.dK kv)) ha (fun x z => by cases z) N.fa N.bm (fun i p c hg => N.na i p c hg) (.inr ⟨od, kv, rfl⟩)
      obtain ⟨R3, ex⟩ := R2.freeze (o := .frz od (.dK kv)) upd_same N.fa N.bm fun i q c' hg => ⟨N.na i q c' hg, fun x _ z => by cases z⟩
      exact k _ _ _ γ1 (.val (.ldc kd)) R3 (e1.trans ex) (.ldc upd_same (ra.mono ex)) h1
end
theorem x_lkE {X : Cx} {B : Bs} {e : Expr} {te : TE} {de : DE} (h : XE X B e te de) : XE X B e (tLkE te) (dLkE de) := ⟨pe_lkE h.pe, se_lkE h.se⟩
/-! ### for k, v in d.items() -/
def dII (de : DE) (γ : Env) (r : Nat → (Nat → D → Prop) → Env → Prop) : Prop := de γ fun s γ1 => match s with
  | .val (.ldc kd) => r kd.length (fun i d => ∃ p, kd[i]? = some p ∧ d = .tup [kD p.1, p.2]) γ1
  | _ => False
section
variable {K : PySem.W.Frag} {B : Bs}
theorem jo_items {F0 : Hp} {a : Addr} {o : Obj} {kv : List (Key × V)} {kd : List (Key × D)} (h : F0 a = some (.frz o (.dK kv))) {z : Addr → Prop} (r : RpKs ⟨K, z⟩ F0 kv kd) : JOk K z F0 (Iti a o kv) kd.length (fun i d => ∃ p, kd[i]? = some p ∧ d = .tup [kD p.1, p.2]) where
  go := fun B F H σ γ i R e hi => ⟨R.fh _ _ (e _ _ h), by rw [ks_len r]; exact hi⟩
  yl := fun B F H σ γ i x H' R e hi ⟨T, k, v, hk, hx, hT, hH⟩ hz => by
    subst hH
    subst hx
    subst hz
    obtain ⟨d, hd, rd⟩ := ks_at r hk
    obtain ⟨R', ex, rp⟩ := R.newT (vs := [kV k, v]) (ds := [kD k, d]) hT (.cons (rp_key k) (.cons (rd.mono e) .nil))
    exact ⟨_, _, R', ex, rp, (k, d), hd, rfl⟩
  st := fun B F H σ γ i R e hi => ⟨R.fh _ _ (e _ _ h), by rw [ks_len r]; exact hi⟩
theorem si_items {te : TE} {de : DE} (he : SE K B te de) : SI K B (iItems te) (dII de) := fun F H σ γ W r R hq k => by
  refine he F H σ γ _ _ R hq fun x F1 H1 γ1 s R1 e1 o1 h1 => ?_
  split at h1
  · rename_i kd
    have o2 : Rp (B.kz K) F1 x (.ldc kd) := o1
    cases o2 with
    | ldc a b => exact ⟨_, _, _, rfl, R1.fh _ _ a, k _ F1 H1 γ1 _ _ R1 e1 (jo_items a b) h1⟩
  · exact h1.elim
end
theorem i_items {X : Cx} {B : Bs} {e : Expr} {te : TE} {de : DE} {elts : List Expr} {kk : Nat} {tpos apos cpos : Pos} (h : XE X B e te de) (hbase : attributeBase e "items" X.env (eval e X.env) = eval e X.env := by rfl) (hline : (apos.endLine == cpos.line) = true := by rfl) :
    XI X B (.Tuple elts kk tpos) (.Call (.Attribute e "items" apos) [] [] cpos) (iItems te) (dII de) := ⟨pi_items h.pe hbase hline, si_items h.se⟩
end DL

set_option Elab.async false
set_option linter.all false
set_option maxRecDepth 100000
set_option maxHeartbeats 4000000
namespace DL
open PySem PySem.Spec PyProof.Rows L2 PySem.W
open Evl (Ex)
/-! ### two lists of dicts with equal data are equal -/
/-- a dict in the heap and its data -/
def DDp (K : Frag) (H : Hp) (v : V) (kd : List (Key × D)) : Prop := ∃ (a : Addr) (kv : List (Key × V)), v = .ref a ∧ Rd H a (.dK kv) ∧ KvDp K H kv kd
def rEqLD (b : Bool) (K : Frag) : R2 := fun x y H Q => ∃ (p q : Addr) (vs ws : List V) (ks : List (List (Key × D))), x = .ref p ∧ y = .ref q ∧ SqL K H p vs ∧ SqL K H q ws ∧ Paired (DDp K H) vs ks ∧ Paired (DDp K H) ws ks ∧
  (∀ kd ∈ ks, ∀ e ∈ kd, SeqAt.shaped e.2.py = true ∧ e.2.py.depth ≤ 60) ∧ Q (.bl b) H
section
variable {X : Cx}
theorem tree_kd {pins : List (Addr × Obj)} {σ : L2.St} {H : Hp} {s : Shared} (I : Inv X pins σ H s) {v w : V} {u y : Value} {kd : List (Key × D)} (ru : RelV v u) (ry : RelV w y) (d1 : DDp X.K H v kd) (d2 : DDp X.K H w kd)
    (sh : ∀ e ∈ kd, SeqAt.shaped e.2.py = true ∧ e.2.py.depth ≤ 60) : EqTree X.prog X.w s 61 u y true := by
  obtain ⟨a, k1, rfl, h1, p1⟩ := d1
  obtain ⟨b, k2, rfl, h2, p2⟩ := d2
  rw [show u = Value.ref a from ru, show y = Value.ref b from ry]
  by_cases ab : a = b
  · subst ab; exact .same
  obtain ⟨_, n1, va, ka, da⟩ := dk_rd I.hok h1
  obtain ⟨_, n2, vb, kb, db⟩ := dk_rd I.hok h2
  have nd : (vb.map (·.1)).Nodup := by
    obtain ⟨_, _, _, _, _, _, _, _, nd⟩ := id db
    exact nd
  obtain ⟨l1, g1⟩ := kv_reads I p1 ka
  obtain ⟨l2, g2⟩ := kv_reads I p2 kb
  have tr := EqTree.dicts (n := 60) (prog := X.prog) (w := X.w) (e := fun _ => true) ab n1 n2 da db fun k v y hm hv => by
    obtain ⟨i, hi, ei⟩ := List.getElem_of_mem hm
    have hk : i < kd.length := by omega
    have e1 : va[i]? = some (k, v) := by rw [List.getElem?_eq_getElem hi, ei]
    obtain ⟨u1, f1, as, r1⟩ := g1 i kd[i].1 kd[i].2 (List.getElem?_eq_getElem hk)
    rw [e1] at f1
    cases f1
    obtain ⟨u2, f2, bs, r2⟩ := g2 i kd[i].1 kd[i].2 (List.getElem?_eq_getElem hk)
    rw [valueAt_of_get nd f2] at hv
    have ey : u2 = y := Option.some.inj hv
    subst ey
    obtain ⟨s1, s2⟩ := sh kd[i] (List.getElem_mem hk)
    refine .leaf fun A hu => ?_
    have one := SeqAt.eqAt_reads kd[i].2.py kd[i].2.py A s v u2 as bs r1 r2 (SeqAt.canLay_of_shaped s1) (SeqAt.canLay_of_shaped s1) (by rw [Nat.min_self]; omega)
    rw [show PyData.eqv kd[i].2.py kd[i].2.py = true from PySem.SeqAt.eqv_refl _ (SeqAt.canLay_of_shaped s1)] at one
    exact one
  have eb : (va.length == vb.length && va.all fun p => (valueAt vb p.1).isSome && true) = true := by
    rw [Bool.and_eq_true]
    refine ⟨by rw [l1, l2]; exact beq_self_eq_true _, List.all_eq_true.mpr fun p hp => ?_⟩
    obtain ⟨i, hi, ei⟩ := List.getElem_of_mem hp
    have hk : i < kd.length := by omega
    have e1 : va[i]? = some p := by rw [List.getElem?_eq_getElem hi, ei]
    obtain ⟨u1, f1, _⟩ := g1 i kd[i].1 kd[i].2 (List.getElem?_eq_getElem hk)
    rw [e1] at f1
    cases f1
    obtain ⟨u2, f2, _⟩ := g2 i kd[i].1 kd[i].2 (List.getElem?_eq_getElem hk)
    rw [valueAt_of_get nd f2]
    rfl
  rw [eb] at tr
  exact tr
theorem op_eqLD (hu : X.A.units + 64 < cLine) : OpR X (compareOp .Eq) (rEqLD true X.K) := by
  intro pins s σ H x y v u Q I rx ry h
  obtain ⟨p, q, vs, ws, ks, rfl, rfl, hp, hq, d1, d2, sh, k⟩ := h
  rw [show v = Value.ref p from rx, show u = Value.ref q from ry]
  obtain ⟨its, rv, pl, hz⟩ := I.list hp
  obtain ⟨itt, rw', pl', hz'⟩ := I.list hq
  have l1 : vs.length = its.length := Paired.length rv
  have l2 : ws.length = itt.length := Paired.length rw'
  have l3 : vs.length = ks.length := Paired.length d1
  have l4 : ws.length = ks.length := Paired.length d2
  refine eq_listsT (n := 61) (e := fun _ => true) pl.isList pl'.isList (by rw [List.size_toArray, List.size_toArray]; omega) (fun j h1 h2 => ?_) (by omega) ⟨.bl _, H, I, rfl, ?_⟩
  · rw [List.size_toArray] at h1 h2
    have hv : j < vs.length := by omega
    have hw : j < ws.length := by omega
    obtain ⟨u1, g1, r1⟩ := P_getL rv (List.getElem?_eq_getElem hv)
    obtain ⟨u2, g2, r2⟩ := P_getL rw' (List.getElem?_eq_getElem hw)
    obtain ⟨k1, g3, r3⟩ := P_getL d1 (List.getElem?_eq_getElem hv)
    obtain ⟨k2, g4, r4⟩ := P_getL d2 (List.getElem?_eq_getElem hw)
    rw [g3] at g4
    cases g4
    have e1 : its.toArray[j]'(by rw [List.size_toArray]; exact h1) = u1 := by
      rw [List.getElem_toArray]
      rw [List.getElem?_eq_getElem h1] at g1
      exact Option.some.inj g1
    have e2 : itt.toArray[j]'(by rw [List.size_toArray]; exact h2) = u2 := by
      rw [List.getElem_toArray]
      rw [List.getElem?_eq_getElem h2] at g2
      exact Option.some.inj g2
    rw [e1, e2]
    exact tree_kd I r1 r2 r3 r4 (sh _ (List.mem_of_getElem? g3))
  · have ea : ((List.range its.toArray.size).all fun _ => true) = true := List.all_eq_true.mpr fun _ _ => rfl
    rw [ea]
    exact k
end
/-- data of dicts, locked or not -/
def kdOf : D → Option (List (Key × D))
  | .dct kd => some kd
  | .ldc kd => some kd
  | _ => none
def fSameLD (b : Bool) (d e : D) (q : RS → Prop) : Prop := ∃ (ds es : List D) (ks : List (List (Key × D))), d = .lst ds ∧ e = .lst es ∧ ds.map kdOf = ks.map some ∧ es.map kdOf = ks.map some ∧ (∀ kd ∈ ks, ∀ p ∈ kd, dOk p.2 = true ∧ p.2.py.depth ≤ 60) ∧ q (.val (.bl b))
theorem ddp_all {K : KZ} {F H : Hp} (e : Ex F H) : ∀ {vs : List V} {ds : List D} {ks : List (List (Key × D))}, RpAll K F vs ds → ds.map kdOf = ks.map some → (∀ kd ∈ ks, ∀ p ∈ kd, dOk p.2 = true) → Paired (DDp K.fr H) vs ks
  | _, _, [], .nil, _, _ => .nil
  | _, _, _ :: _, .nil, h, _ => by cases h
  | _, _, [], .cons _ _, h, _ => by cases h
  | v :: vs, d :: ds, kd :: ks, .cons r t, h, ok => by
    rw [List.map_cons, List.map_cons] at h
    injection h with h1 h2
    refine .cons ?_ (ddp_all e t h2 fun kd hk => ok kd (List.mem_cons_of_mem _ hk))
    have pu : ∀ p ∈ kd, p.2.pure = true := fun p hp => (Bool.and_eq_true_iff.mp (ok kd List.mem_cons_self p hp)).1
    cases d <;> first | (exfalso; simp [kdOf] at h1; done) | skip
    · cases h1
      cases r with
      | dct a b =>
        rcases a with a | ⟨o, a⟩
        · exact ⟨_, _, rfl, .inl (e _ _ a), kvDp_of e b pu⟩
        · exact ⟨_, _, rfl, .inr ⟨o, e _ _ a⟩, kvDp_of e b pu⟩
    · cases h1
      cases r with
      | ldc a b => exact ⟨_, _, rfl, .inr ⟨_, e _ _ a⟩, kvDp_of e b pu⟩
theorem od_sameLD {K : PySem.W.Frag} {b : Bool} : OpD K (rEqLD b K) (fSameLD b) := fun B F H σ γ x y d e Q q R rx ry hf k => by
  obtain ⟨ds, es, ks, rfl, rfl, h1, h2, ok, hq⟩ := hf
  obtain ⟨p, vs, rfl, hp, ra⟩ := rx.lst R.fh
  obtain ⟨p2, vs2, rfl, hp2, ra2⟩ := ry.lst R.fh
  exact ⟨p, p2, vs, vs2, ks, rfl, rfl, Evl.sq_of hp, Evl.sq_of hp2, ddp_all R.fh ra h1 fun kd hk q hq => (ok kd hk q hq).1, ddp_all R.fh ra2 h2 fun kd hk q hq => (ok kd hk q hq).1, fun kd hk q hq => ⟨(Bool.and_eq_true_iff.mp (ok kd hk q hq).1).2, (ok kd hk q hq).2⟩, vk R k (.bl b) hq⟩
end DL

set_option Elab.async false
set_option linter.all false
set_option maxRecDepth 100000
set_option maxHeartbeats 4000000
namespace DL
open PySem PySem.Spec PyProof.Rows L2
open Evl (Ex)
/-! ### x is True, x is not True -/
def fIsBl : D → D → (RS → Prop) → Prop
  | .bl a, .bl b, q => q (.val (.bl (decide (a = b))))
  | _, _, _ => False
def fNotBl : D → D → (RS → Prop) → Prop
  | .bl a, .bl b, q => q (.val (.bl (!decide (a = b))))
  | _, _, _ => False
section
variable {K : PySem.W.Frag}
theorem od_isBl : OpD K rIsB fIsBl := fun B F H σ γ x y d e Q q R rx ry hf k => by
  unfold fIsBl at hf
  split at hf
  · exact ⟨_, _, rx.bl, ry.bl, vk R k (.bl _) hf⟩
  · exact hf.elim
theorem od_notBl : OpD K rNotB fNotBl := fun B F H σ γ x y d e Q q R rx ry hf k => by
  unfold fNotBl at hf
  split at hf
  · exact ⟨_, _, rx.bl, ry.bl, vk R k (.bl _) hf⟩
  · exact hf.elim
end
end DL

set_option Elab.async false
set_option linter.all false
set_option maxRecDepth 100000
set_option maxHeartbeats 2000000
namespace DL
open PySem PySem.Spec PyProof.Rows L2
open Evl (Ex)
/-! ### list(range(a, b)), a and b wide, few between them -/
def dLRgW (da db : DE) (γ : Env) (q : RS → Env → Prop) : Prop := da γ fun s γ1 => db γ1 fun t γ2 => s.ok γ2 ∧ match s.data, t.data with
  | .int m, .int n => -1000000000000 ≤ m ∧ m ≤ 1000000000000 ∧ -1000000000000 ≤ n ∧ n ≤ 1000000000000 ∧ n ≤ m + 1000 ∧ q (.new (.lst (rgD m n))) γ2
  | _, _ => False
section
variable {X : Cx} {B : Bs}
theorem x_listRgW {a b : Expr} {ta tb : TE} {da db : DE} {p p2 pos2 pos : Pos} (hc : X.calm = true) (hm : X.mg "list" = none) (hm2 : X.mg "range" = none) (h : XE X B a ta da) (h' : XE X B b tb db) (hg : Gl X "list" := by rfl) (hg2 : Gl X "range" := by rfl) (na : starEach [a, b] X.env = (false, eval a X.env) :: starEach [b] X.env := by rfl)
    (na2 : starEach [b] X.env = (false, eval b X.env) :: starEach [] X.env := by rfl) (hp : (backTo pos2 (starEach [b] X.env)).any (·.1) = false := by rfl)
    (nb : starEach [.Call (.Name "range" p2) [a, b] [] pos2] X.env = (false, eval (.Call (.Name "range" p2) [a, b] [] pos2) X.env) :: starEach [] X.env := by rfl) : XE X B (.Call (.Name "list" p) [.Call (.Name "range" p2) [a, b] [] pos2] [] pos) (tLstRg (tRg2 ta tb)) (dLRgW da db) := ⟨pe_listRg hc hg hm (prg_2 hg2 hm2 h.pe h'.pe na na2 hp) nb, fun F H σ γ Q q R hq k => by
  refine h.se F H σ γ _ _ R hq fun v F1 H1 γ1 s R1 e1 o1 h1 => ?_
  obtain ⟨F2, R2, e2, o2⟩ := o1.fz R1
  refine h'.se F2 H1 σ γ1 _ _ R2 h1 fun w F3 H3 γ3 t R3 e3 o3 ⟨h3, h4⟩ => ?_
  split at h4
  · rename_i m n es et
    have rv := (o2.later e3 R3 (fz_ok s γ3 h3) (fz_idem s)).rs R3
    have rw' := o3.rs R3
    rw [RS.fz_data, es] at rv
    rw [et] at rw'
    obtain ⟨h5, h6, h7, h8, h10, h9⟩ := h4
    refine ⟨m, n, rv.int, rw'.int, ⟨by omega, by omega, by omega, by omega, by omega⟩, fun p hp => ?_⟩
    obtain ⟨R', ok⟩ := R3.newL hp (rg_rp m n)
    exact k _ F3 _ γ3 _ R' ((e1.trans e2).trans e3) ok h9
  · exact h4.elim⟩
end
end DL

set_option Elab.async false
set_option linter.all false
set_option maxRecDepth 100000
set_option maxHeartbeats 4000000
/-! sorted(set(texts)) -/
namespace DL
open PySem PySem.Spec PyProof.Rows L2 PySem.Froz
section
variable {P : Program} {w : World} {A : Around} {E : Value → Shared → Prop} {s : Shared}
/-- at a stands the set of the texts l; its table rises -/
def TXs (P : Program) (w : World) (h : Heap) (a : Addr) (l : List Str) : Prop :=
  ∃ D : SD, h.get? a = some (sObj "set" D) ∧ TxOk P w D l ∧ Ris D.2.2.place.toList ∧ (w.params.followText "set-order" = true ∨ D.2.2.led = true)
theorem TXs.at {h h' : Heap} {a : Addr} {l : List Str} (R : TXs P w h a l) (k : ∀ o, h.get? a = some o → h'.get? a = some o) : TXs P w h' a l := by
  obtain ⟨D, ho, r⟩ := R
  exact ⟨D, k _ ho, r⟩
theorem tail_tab {ep : Nat} {es : Array (Int × Value)} {t : SetTable} {b : Bool} (r : Ris t.place.toList) : Ris (tailTx ep es t b).2.2.place.toList ∧ (tailTx ep es t b).2.2.led = t.led := by
  unfold tailTx
  by_cases c : (!b && t.tooFull) = true
  · rw [if_pos c]; exact ⟨relayAll_ris t es _, relayAll_led t es _⟩
  · rw [if_neg c]; exact ⟨r, rfl⟩
theorem add_tab {h : Int} {v : Value} {D : SD} (r : Ris D.2.2.place.toList) : Ris (addTx h v D).2.2.place.toList ∧ (addTx h v D).2.2.led = D.2.2.led := by
  have r1 := layNew_ris D.2.2 D.1 h v r
  have l1 := layNew_led D.2.2 D.1 h v
  unfold addTx
  by_cases c : (layNew D.2.2 D.1 h v).2.1.plain = true
  · rw [if_pos c]
    have q := tail_tab (ep := D.2.1) (es := (layNew D.2.2 D.1 h v).1) (t := { (layNew D.2.2 D.1 h v).2.1 with plain := false }) (b := (layNew D.2.2 D.1 h v).2.2.1) r1
    exact ⟨q.1, q.2.trans l1⟩
  · rw [if_neg c]
    have q := tail_tab (ep := D.2.1) (es := (layNew D.2.2 D.1 h v).1) (t := (layNew D.2.2 D.1 h v).2.1) (b := (layNew D.2.2 D.1 h v).2.2.1) r1
    exact ⟨q.1, q.2.trans l1⟩
/-- a text that is there already changes nothing -/
theorem old_text {a : Addr} {D : SD} {l : List Str} {k : Str} {u : Tok} {Q : Bool → Shared → Prop} (ho : s.heap.get? a = some (sObj "set" D)) (F : TxOk P w D l) (hk : k ∈ l) (hb : l.length < scanBound) (h : Q false s) :
    wpAny (model P w) A (setAddHashed a (.str k u) (hashStr w k)) Q E s := by
  obtain ⟨e, he, ie⟩ := (F.mem k).mp hk
  have sz : D.1.size < scanBound := by rw [F.sz]; exact hb
  unfold setAddHashed setAddHashedIn
  refine wpAny_holding (wpAny_bind (wpAny_setState_of ho (es := D.1) (ep := D.2.1) (t := D.2.2) rfl F.fit ?_))
  dsimp only
  rw [byScan_of (x := Value.str k u) rfl sz F.el, if_pos rfl]
  unfold setAddByScan
  refine wpAny_bind (wpAny_bind (wpAny_rule (wpAny_bind (wpAny_setScan_of (knd := strKind P w) (k := k) (is_str k u) ho (es := D.1) (ep := D.2.1) (t := D.2.2) rfl F.fit F.el ?_))))
  cases c : List.findIdx? (fun e => (strKind P w).is k e.2) D.1.toList with
  | none =>
    have z := List.findIdx?_eq_none_iff.mp c e he
    rw [ie] at z
    cases z
  | some j => exact wpAny_pure (wpAny_pure h)
/-- one text more -/
theorem put_text {a : Addr} {l : List Str} {k : Str} {u : Tok} {Q : Bool → Shared → Prop} (R : TXs P w s.heap a l) (nd : l.Nodup) (hb : l.length + 1 < scanBound)
    (h : ∀ b h' l', (∀ c, c ≠ a → h'.get? c = s.heap.get? c) → TXs P w h' a l' → l'.Nodup → l'.length ≤ l.length + 1 → (∀ x, x ∈ l' ↔ x = k ∨ x ∈ l) → Q b { s with heap := h' }) :
    wpAny (model P w) A (setAddHashed a (.str k u) (hashStr w k)) Q E s := by
  obtain ⟨D, ho, F, r, ld⟩ := R
  by_cases c : k ∈ l
  · refine old_text ho F c (by omega) (h false s.heap l (fun _ _ => rfl) ⟨D, ho, F, r, ld⟩ nd (by omega) fun x => ⟨.inr, fun q => q.elim (fun e => e ▸ c) id⟩)
  · have t := add_tab (h := hashStr w k) (v := .str k u) r
    refine add_x ho F c hb (h true _ (k :: l) (fun b hb => Heap.get?_update_ne _ _ _ _ hb) ⟨_, get_upd _ ho rfl, add_ok u F, t.1, ld.imp id fun z => t.2.trans z⟩ (List.nodup_cons.mpr ⟨c, nd⟩) (Nat.le_refl _) fun x => List.mem_cons)
theorem upd_texts {I : Addr} {fp wr : List Addr} {G : Array GenState → Array GenState → Prop} {n : Nat} {Pv : Nat → Value → Prop} {St : Nat → Shared → Prop} {R : Result → Shared → Prop}
    (W : WalksS P w A.in1 I fp wr G n Pv St) (S : Addr) (off : S ∉ fp) (xs : List Str) (hn : n = xs.length) (hb : n + 1 < scanBound) (val : ∀ i v, Pv i v → ∃ k t, xs[i]? = some k ∧ v = .str k t) :
    ∀ (m i : Nat) (s : Shared) (l : List Str), n - i = m → i ≤ n → St i s → TXs P w s.heap S l → l.Nodup → l.length ≤ i → (∀ k, k ∈ l ↔ k ∈ xs.take i) →
      (∀ s' l', Moved (S :: wr) G s s' → TXs P w s'.heap S l' → l'.Nodup → l'.length ≤ n → (∀ k, k ∈ l' ↔ k ∈ xs) → R (.ok (.ret .none)) s') →
      codeAny (model P w) A (.builtin "set.update.loop" ⟨[.ref S, .ref I], []⟩) R s := by
  have offw : S ∉ wr := fun z => off (W.sub _ z)
  have up : ∀ b ∈ wr, b ∈ S :: wr := fun b z => List.mem_cons_of_mem _ z
  intro m
  induction m with
  | zero =>
    intro i s l e le st X nd ll mem k
    have e2 : i = n := by omega
    subst e2
    refine codeAny_builtin F.entry_set_update_loop ?_
    rw [Around.under_plainId F.plain_set_update_loop _]
    refine wpAny_bind (m := pyNext (.ref I)) (W.done s _ _ st fun s' mv => ?_)
    refine wpAny_pure (k s' l (mv.mono up) (X.at fun o q => mv.heap S o offw q) nd ll fun x => ?_)
    rw [mem, List.take_of_length_le (by omega)]
  | succ m ih =>
    intro i s l e le st X nd ll mem k
    refine codeAny_builtin F.entry_set_update_loop ?_
    rw [Around.under_plainId F.plain_set_update_loop _]
    refine wpAny_bind (m := pyNext (.ref I)) (W.item i s _ _ (by omega) st fun v s' hv st' mv => ?_)
    obtain ⟨z, t, hz, rfl⟩ := val i v hv
    refine wpAny_bind (m := holding [Value.str z t] (setAdd S (.str z t))) (wpAny_holding ?_)
    unfold setAdd
    refine wpAny_holding (wpAny_bind ((strKind P w).pyHash (k := z) (is_str z t) ?_))
    refine put_text (s := { s' with toks := s'.toks + 1 }) (X.at fun o q => mv.heap S o offw q) nd (by omega) fun b h' l' same X' nd' ll' mem' => ?_
    refine wpAny_pure ⟨plainId_quiet F.plain_set_update_loop _, ih (i + 1) _ l' (by omega) (by omega) (W.frame _ s' _ _ st' (Nat.le_succ _) fun b hb o q => ?_) X' nd' (by omega) (fun x => ?_) fun s2 l2 mv2 X2 nd2 ll2 mem2 => ?_⟩
    · rw [same b fun z => off (z ▸ hb)]; exact q
    · rw [mem', mem, ← take_snoc hz, List.mem_append, List.mem_singleton]; exact Or.comm
    · refine k s2 l2 (Moved.trans W.gtrans ((mv.mono up).then_heap (Nat.le_succ _) fun b o hb q => ?_) mv2) X2 nd2 ll2 mem2
      rw [same b fun z => hb (z ▸ List.mem_cons_self)]; exact q
theorem TXs.new {h : Heap} {a : Addr} (ho : h.get? a = some { cls := .type "set", dict := none, data := .set #[] 0 (.fresh 0 0 (!w.params.followText "set-order")) }) : TXs P w h a [] :=
  ⟨(#[], 0, .fresh 0 0 (!w.params.followText "set-order")), ho, TxOk.nil (by rfl), List.Pairwise.nil, by
    show _ ∨ (!w.params.followText "set-order") = true
    cases w.params.followText "set-order" <;> simp⟩
theorem set_txL {l : Addr} {items : Array Value} {ns : List Str} {Q : Value → Shared → Prop} (hh : A.handled = none) (hl : s.heap.IsList l items) (small : items.size = ns.length) (val : ∀ (i : Nat) (v : Value), items[i]? = some v → ∃ k t, ns[i]? = some k ∧ v = .str k t) (few : ns.length + 1 < scanBound)
    (k : ∀ (h : Heap) (tk : Nat) (l2 : List Str), TXs P w h s.heap.objs.size l2 → l2.Nodup → l2.length ≤ ns.length → (∀ x, x ∈ l2 ↔ x ∈ ns) → (∀ b o, s.heap.get? b = some o → h.get? b = some o) → Q (.ref s.heap.objs.size) { s with heap := h, toks := tk }) :
    wpAny (model P w) A (call (.type "set") [.ref l]) Q E s := by
  refine type_made (Q1 := fun obj t => obj = .ref s.heap.objs.size ∧ t = { s with heap := s.heap.push { cls := .type "set", dict := none, data := .set #[] 0 (.fresh 0 0 (!w.params.followText "set-order")) } }) F.called_set (F.typeCall_set_1 (.ref l)) (code_set_led1 (.ref l) ⟨rfl, rfl⟩) ?_
  rintro obj t ⟨rfl, rfl⟩
  refine ⟨⟨_, Heap.get?_push_size _ rfl, rfl⟩, ?_⟩
  have gs : (s.heap.push { cls := .type "set", dict := none, data := .set #[] 0 (.fresh 0 0 (!w.params.followText "set-order")) }).get? s.heap.objs.size = some { cls := .type "set", dict := none, data := .set #[] 0 (.fresh 0 0 (!w.params.followText "set-order")) } := Heap.get?_push_size _ rfl
  have ty : Shared.TypeIs { s with heap := s.heap.push { cls := .type "set", dict := none, data := .set #[] 0 (.fresh 0 0 (!w.params.followText "set-order")) } } (.ref s.heap.objs.size) "set" := ⟨_, gs, rfl⟩
  obtain ⟨⟨oc, od, odt, osl⟩, gl, cl, nl, dl⟩ := id hl
  cases cl
  cases dl
  have gl1 := Heap.get?_push_of_some { cls := .type "set", dict := none, data := .set #[] 0 (.fresh 0 0 (!w.params.followText "set-order")) } gl
  have noD : (Value.type "list" == Value.type "dict") = false := by decide
  have s1 := F.sub_list_set
  have s2 := F.sub_list_frozenset
  refine codeAny_call_builtin F.called_set.init.plain F.entry_set_init (check_set_init_1 ty ?_)
  unfold Builtin.«set.__init__» noKeywords Builtin.Frozenset.updateFrom
  generalize hp : pyIter = walk
  wp_walk
  subst hp
  have ne1 : l ≠ s.heap.objs.size := Nat.ne_of_lt (Heap.lt_size gl)
  obtain ⟨z, ez⟩ : ∃ z, z = (s.heap.push { cls := .type "set", dict := none, data := .set #[] 0 (.fresh 0 0 (!w.params.followText "set-order")) }).objs.size := ⟨_, rfl⟩
  have sz : z = s.heap.objs.size + 1 := ez.trans (Heap.size_push ..)
  have ll : l < s.heap.objs.size := Heap.lt_size gl
  refine wpAny_pyIter_list ⟨_, gl1, rfl, nl, rfl⟩ (wpAny_bind (wpAny_runValue ?_))
  rw [← ez]
  have three : A.in1.in1.in1.handled = none := hh
  refine upd_texts ((Walks.list three z l (by rw [sz]; exact Nat.ne_of_lt (Nat.lt_succ_of_lt ll)) items).toS) s.heap.objs.size (by rw [sz]; simp only [List.mem_cons, List.not_mem_nil, or_false, not_or]; exact ⟨Nat.ne_of_lt (Nat.lt_succ_self _), Nat.ne_of_gt ll⟩) ns small (by omega) val items.size 0 _ [] (by omega) (Nat.zero_le _) ⟨⟨_, by rw [ez]; exact Heap.get?_push_size _ rfl, rfl, rfl⟩, ⟨_, Heap.get?_push_of_some _ gl1, rfl, nl, rfl⟩⟩ (TXs.new (Heap.get?_push_of_some _ gs)) List.nodup_nil (Nat.zero_le _) (fun x => by simp) fun s' l2 mv X nd ll2 mem => ?_
  rw [mv.eq_with]
  rw [small] at ll2
  refine wpAny_pure (wpAny_pure ⟨rfl, k s'.heap s'.toks l2 X nd ll2 mem fun b o e => ?_⟩)
  have lb : b < s.heap.objs.size := Heap.lt_size e
  refine mv.heap b o (fun hm => ?_) (Heap.get?_push_of_some _ (Heap.get?_push_of_some _ e))
  rcases List.mem_cons.mp hm with q | hm
  · exact Nat.ne_of_lt lb q
  · have q := List.mem_singleton.mp hm
    rw [sz] at q
    exact Nat.ne_of_lt (Nat.lt_succ_of_lt lb) q
theorem set_txT {l : Addr} {items : Array Value} {ns : List Str} {Q : Value → Shared → Prop} (hh : A.handled = none) (hl : s.heap.IsTuple l items) (small : items.size = ns.length) (val : ∀ (i : Nat) (v : Value), items[i]? = some v → ∃ k t, ns[i]? = some k ∧ v = .str k t) (few : ns.length + 1 < scanBound)
    (k : ∀ (h : Heap) (tk : Nat) (l2 : List Str), TXs P w h s.heap.objs.size l2 → l2.Nodup → l2.length ≤ ns.length → (∀ x, x ∈ l2 ↔ x ∈ ns) → (∀ b o, s.heap.get? b = some o → h.get? b = some o) → Q (.ref s.heap.objs.size) { s with heap := h, toks := tk }) :
    wpAny (model P w) A (call (.type "set") [.ref l]) Q E s := by
  refine type_made (Q1 := fun obj t => obj = .ref s.heap.objs.size ∧ t = { s with heap := s.heap.push { cls := .type "set", dict := none, data := .set #[] 0 (.fresh 0 0 (!w.params.followText "set-order")) } }) F.called_set (F.typeCall_set_1 (.ref l)) (code_set_led1 (.ref l) ⟨rfl, rfl⟩) ?_
  rintro obj t ⟨rfl, rfl⟩
  refine ⟨⟨_, Heap.get?_push_size _ rfl, rfl⟩, ?_⟩
  have gs : (s.heap.push { cls := .type "set", dict := none, data := .set #[] 0 (.fresh 0 0 (!w.params.followText "set-order")) }).get? s.heap.objs.size = some { cls := .type "set", dict := none, data := .set #[] 0 (.fresh 0 0 (!w.params.followText "set-order")) } := Heap.get?_push_size _ rfl
  have ty : Shared.TypeIs { s with heap := s.heap.push { cls := .type "set", dict := none, data := .set #[] 0 (.fresh 0 0 (!w.params.followText "set-order")) } } (.ref s.heap.objs.size) "set" := ⟨_, gs, rfl⟩
  obtain ⟨⟨oc, od, odt, osl⟩, gl, cl, nl, dl⟩ := id hl
  cases cl
  cases dl
  have gl1 := Heap.get?_push_of_some { cls := .type "set", dict := none, data := .set #[] 0 (.fresh 0 0 (!w.params.followText "set-order")) } gl
  have noD : (Value.type "tuple" == Value.type "dict") = false := by decide
  have s1 := F.sub_tuple_set
  have s2 := F.sub_tuple_frozenset
  refine codeAny_call_builtin F.called_set.init.plain F.entry_set_init (check_set_init_1 ty ?_)
  unfold Builtin.«set.__init__» noKeywords Builtin.Frozenset.updateFrom
  generalize hp : pyIter = walk
  wp_walk
  subst hp
  have ne1 : l ≠ s.heap.objs.size := Nat.ne_of_lt (Heap.lt_size gl)
  obtain ⟨z, ez⟩ : ∃ z, z = (s.heap.push { cls := .type "set", dict := none, data := .set #[] 0 (.fresh 0 0 (!w.params.followText "set-order")) }).objs.size := ⟨_, rfl⟩
  have sz : z = s.heap.objs.size + 1 := ez.trans (Heap.size_push ..)
  have ll : l < s.heap.objs.size := Heap.lt_size gl
  refine wpAny_pyIter_tuple ⟨_, gl1, rfl, nl, rfl⟩ (wpAny_bind (wpAny_runValue ?_))
  rw [← ez]
  have three : A.in1.in1.in1.handled = none := hh
  refine upd_texts ((Walks.tuple three z l (by rw [sz]; exact Nat.ne_of_lt (Nat.lt_succ_of_lt ll)) items).toS) s.heap.objs.size (by rw [sz]; simp only [List.mem_cons, List.not_mem_nil, or_false, not_or]; exact ⟨Nat.ne_of_lt (Nat.lt_succ_self _), Nat.ne_of_gt ll⟩) ns small (by omega) val items.size 0 _ [] (by omega) (Nat.zero_le _) ⟨⟨_, by rw [ez]; exact Heap.get?_push_size _ rfl, rfl, rfl⟩, ⟨_, Heap.get?_push_of_some _ gl1, rfl, nl, rfl⟩⟩ (TXs.new (Heap.get?_push_of_some _ gs)) List.nodup_nil (Nat.zero_le _) (fun x => by simp) fun s' l2 mv X nd ll2 mem => ?_
  rw [mv.eq_with]
  rw [small] at ll2
  refine wpAny_pure (wpAny_pure ⟨rfl, k s'.heap s'.toks l2 X nd ll2 mem fun b o e => ?_⟩)
  have lb : b < s.heap.objs.size := Heap.lt_size e
  refine mv.heap b o (fun hm => ?_) (Heap.get?_push_of_some _ (Heap.get?_push_of_some _ e))
  rcases List.mem_cons.mp hm with q | hm
  · exact Nat.ne_of_lt lb q
  · have q := List.mem_singleton.mp hm
    rw [sz] at q
    exact Nat.ne_of_lt (Nat.lt_succ_of_lt lb) q
end
end DL

set_option Elab.async false
set_option linter.all false
set_option maxRecDepth 100000
set_option maxHeartbeats 4000000
/-! sorted(set(xs)): whole numbers or texts, any number of them -/
namespace DL
open PySem PySem.Spec PyProof.Rows L2 PySem.Froz
theorem perm_of_sub {α : Type} [DecidableEq α] : ∀ {l D : List α}, l.Nodup → (∀ x ∈ l, x ∈ D) → D.length = l.length → l.Perm D
  | [], D, _, _, h => by
    have : D = [] := List.length_eq_zero_iff.mp h
    rw [this]
  | x :: l, D, nd, hs, h => by
    obtain ⟨n1, n2⟩ := List.nodup_cons.mp nd
    have mx := hs x List.mem_cons_self
    have p := List.perm_cons_erase mx
    have q := perm_of_sub (l := l) (D := D.erase x) n2 (fun y hy => (List.mem_erase_of_ne fun e : y = x => n1 (by rw [← e]; exact hy)).mpr (hs y (List.mem_cons_of_mem _ hy))) (by
      have := p.length_eq
      simp only [List.length_cons] at this h
      omega)
    exact (q.cons x).trans p.symm
section
variable {P : Program} {w : World} {A : Around} {E : Value → Shared → Prop} {s : Shared} {a : Addr} {es : Array (Int × Value)} {ep : Nat} {t : SetTable} {β : Type} {enc : β → PyData} {R : Value → β → Prop}
theorem sort_members {bs : List β} {Q : Value → Shared → Prop} (hh : A.handled = none) (ha : SetAt s.heap a es ep t) (hf : t.fits es.size = true) (hsz : es.size < scanBound) (r : Ris t.place.toList) (hl : w.params.followText "set-order" = true ∨ t.led = true)
    (hv : ∀ vs : List Value, vs.Perm (es.toList.map (·.2)) → ∃ bs' : List β, bs'.Perm bs ∧ PySem.W.EachIs R vs bs') (rd : ∀ h v b, R v b → Reads h v (enc b) []) (al : ∀ x y, PySem.W.alike (enc x) (enc y) = true)
    (sr : ∀ b, enc b ≠ .none ∧ ∀ xs, enc b ≠ .tuple xs) (dp : ∀ b, (enc b).depth = 0) (hu : A.units + 8 < cLine)
    (k : ∀ s' p (out : List Value) (c : Nat) (bs' : List β), (∀ b o, s.heap.get? b = some o → s'.heap.get? b = some o) → s'.gens = s.gens → s'.os = s.os → s.heap.objs.size ≤ p → s'.heap.get? p = some (seqObj "list" out.toArray c) →
      bs'.Perm bs → PySem.W.EachIs R out (bs'.mergeSort (PySem.W.dataLe false enc)) → Q (.ref p) s') :
    wpAny (model P w) A (call (.builtin "sorted") [.ref a]) Q E s := by
  refine Calls.call_function_entry kind_sorted plain_sorted entry_sorted (args_sorted1 _) ?_
  unfold Builtin.«sorted»
  refine wpAny_bind (m := checkCount "sorted" 1 1 _) (wpAny_pure ?_)
  refine wpAny_bind (collect_set (A := A.in1) hh ha hf hsz r hl fun s1 vs old up gs os pm => ?_)
  obtain ⟨bs', pb, ev⟩ := hv vs pm
  have len : vs.length = es.size := by rw [pm.length_eq, List.length_map, Array.length_toList]
  have few : vs.length ≤ sizeLine := by rw [len]; exact fits_of_scanBound hsz
  have hb : bs'.length = vs.length := ev.length.symm
  refine wpAny_bind (wpAny_newList ?_ few)
  have hL : (s1.heap.push (seqObj "list" vs.toArray 0)).get? s1.heap.objs.size = some (seqObj "list" vs.toArray 0) := Heap.get?_push_size _ rfl
  refine wpAny_bind (wpAny_holding (PySem.W.list_sort_data (enc := enc) (bs := bs') hL ev (ev.mono fun v b q => ⟨[], rd _ _ _ q, by simp⟩) (PySem.W.AllAlike.of al) (PySem.W.Sortable.others sr) (by rw [hb]; exact few)
    (fun b _ => by rw [dp]; show A.units + 1 + 1 + 0 < cLine; omega) fun out lo eo => ?_))
  obtain ⟨c, hc⟩ := sortedHeap_at (vs := vs) (out := out.toArray) hL
  refine wpAny_pure ⟨_, rfl, k _ s1.heap.objs.size out c bs' (fun b o e => ?_) gs os up hc pb eo⟩
  have q := old b o e
  have lt := Heap.lt_size q
  show (sortedHeap (s1.heap.push (seqObj "list" vs.toArray 0)) s1.heap.objs.size vs out.toArray).get? b = some o
  rw [sortedHeap_old (Nat.ne_of_lt lt) (by rw [size_push']; exact Nat.lt_succ_of_lt lt)]
  exact Heap.get?_push_of_some _ q
end
/-! the rules -/
def cle (x y : Str) : Bool := decide (x.cps.toList ≤ y.cps.toList)
theorem cle_tr {x y z : Str} (h1 : cle x y = true) (h2 : cle y z = true) : cle x z = true := decide_eq_true (List.le_trans (of_decide_eq_true h1) (of_decide_eq_true h2))
theorem cle_tot (x y : Str) : (cle x y || cle y x) = true := by
  rcases List.le_total x.cps.toList y.cps.toList with h | h
  · rw [show cle x y = true from decide_eq_true h]; rfl
  · rw [show cle y x = true from decide_eq_true h, Bool.or_true]
theorem cle_anti {x y : Str} (h1 : cle x y = true) (h2 : cle y x = true) : x = y := by
  have e := List.le_antisymm (of_decide_eq_true h1) (of_decide_eq_true h2)
  cases x; cases y
  simp only [PySem.Str.mk.injEq]
  exact Array.toList_inj.mp e
def SetTX (P : Program) (w : World) (a : Addr) (l : List Str) : HO := .ext fun h => TXs P w h a l
theorem setTX_new {w : World} {P : Program} {H : Hp} {h : Heap} {a : Addr} {l : List Str} (R : TXs P w h a l) : ObjOk P w H h a (SetTX P w a l) := by
  have ⟨D, ho, _⟩ := R
  exact ⟨R, ⟨_, ho⟩, fun _ _ p k => TXs.at p k⟩
/-- a list or a tuple -/
def SqX (K : PySem.W.Frag) (H : Hp) (l : Addr) (xs : List V) : Prop := SqL K H l xs ∨ SqT K H l xs
def rSetX (K : PySem.W.Frag) (P : Program) (w : World) : List V → Hp → VK → Prop := fun vs H Q => ∃ l : Addr, vs = [V.ref l] ∧
  ((∃ ns : List Int, SqX K H l (ns.map V.int) ∧ ns.length < 4000 ∧ ∀ (p : Addr) (c : Nat), c ≤ ns.length → H p = none → Q (.ref p) (upd H p (SetO w p (fun j => decide (j ∈ ns)) c))) ∨
   (∃ xs : List Str, SqX K H l (xs.map V.str) ∧ xs.length < 4000 ∧ ∀ (p : Addr) (l2 : List Str), l2.Nodup → l2.length ≤ xs.length → (∀ x, x ∈ l2 ↔ x ∈ xs) → H p = none → Q (.ref p) (upd H p (SetTX P w p l2))))
theorem strs_at {us : List Value} {xs : List Str} (r : Vals (xs.map V.str) us) : ∀ (i : Nat) (v : Value), us.toArray[i]? = some v → ∃ k t, xs[i]? = some k ∧ v = .str k t := fun i v h => by
  obtain ⟨e1, e2⟩ := vals_each r
  have h' : us[i]? = some v := by simpa using h
  have lt : i < us.length := (List.getElem?_eq_some_iff.mp h').1
  rw [List.length_map] at e1
  have lx : i < xs.length := by omega
  obtain ⟨t, q⟩ := e2 i (V.str xs[i]) v (by simp [lx]) h'
  exact ⟨xs[i], t, List.getElem?_eq_getElem lx, q⟩
section
variable {X : Cx}
theorem cr_setX (hc : X.calm = true) : CallR X (.type "set") (rSetX X.K X.prog X.w) := by
  intro pins s σ H vs us Q I r h
  obtain ⟨l, rfl, h⟩ := h
  rw [Vals.ref1 r]
  rcases h with ⟨ns, hq, few, q⟩ | ⟨xs, hq, few, q⟩
  · have fin : ∀ (h2 : Heap) (tk c : Nat), SetR X.w h2 s.heap.objs.size (fun j => decide (j ∈ ns)) c → c ≤ ns.length → (∀ b o, s.heap.get? b = some o → h2.get? b = some o) → EP X pins σ Q (.ref s.heap.objs.size) { s with heap := h2, toks := tk } :=
      fun h2 tk c R cn old => ⟨.ref _, _, I.laid (t' := tk) old (Nat.le_refl _) (setO_new R), rfl, q _ c cn (I.hok.fresh (Nat.le_refl _))⟩
    rcases hq with hq | hq
    · obtain ⟨its, rv, pl, hz⟩ := I.list hq
      exact set_of_list (I.ok.hd hc) pl.isList (by simpa using ints_of_vals rv) (by unfold scanBound; omega) fin
    · obtain ⟨its, rv, pl, hz⟩ := I.tuple hq
      exact call_set_tupI ns (I.ok.hd hc) (show s.heap.IsTuple l its.toArray from pl) (by simpa using ints_of_vals rv) (by unfold scanBound; omega) fin
  · have fin : ∀ (h2 : Heap) (tk : Nat) (l2 : List Str), TXs X.prog X.w h2 s.heap.objs.size l2 → l2.Nodup → l2.length ≤ xs.length → (∀ x, x ∈ l2 ↔ x ∈ xs) → (∀ b o, s.heap.get? b = some o → h2.get? b = some o) → EP X pins σ Q (.ref s.heap.objs.size) { s with heap := h2, toks := tk } :=
      fun h2 tk l2 R nd ll mem old => ⟨.ref _, _, I.laid (t' := tk) old (Nat.le_refl _) (setTX_new R), rfl, q _ l2 nd ll mem (I.hok.fresh (Nat.le_refl _))⟩
    have len : ∀ {its : List Value}, Vals (xs.map V.str) its → its.toArray.size = xs.length := fun r => by
      have q := (vals_each r).1
      rw [List.length_map] at q
      rw [List.size_toArray]
      exact q.symm
    rcases hq with hq | hq
    · obtain ⟨its, rv, pl, hz⟩ := I.list hq
      exact set_txL (I.ok.hd hc) pl.isList (len rv) (strs_at rv) (by unfold scanBound; omega) fin
    · obtain ⟨its, rv, pl, hz⟩ := I.tuple hq
      exact set_txT (I.ok.hd hc) (show s.heap.IsTuple l its.toArray from pl) (len rv) (strs_at rv) (by unfold scanBound; omega) fin
def rSortX (P : Program) (w : World) : List V → Hp → VK → Prop := fun vs H Q => ∃ a : Addr, vs = [V.ref a] ∧
  ((∃ (S : Int → Bool) (n : Nat), H a = some (SetO w a S n) ∧ ∀ (ms : List Int) (p : Addr), ms.Nodup → ms.Pairwise (fun x y => decide (x ≤ y) = true) → (∀ k, k ∈ ms ↔ S k = true) → H p = none → Q (.ref p) (upd H p (.lst (ms.map V.int)))) ∨
   (∃ l : List Str, H a = some (SetTX P w a l) ∧ l.Nodup ∧ l.length < 4000 ∧ ∀ (ts : List Str) (p : Addr), ts.Perm l → ts.Pairwise (fun x y => cle x y = true) → H p = none → Q (.ref p) (upd H p (.lst (ts.map V.str)))))
theorem cr_sortX (hc : X.calm = true) (hu : X.A.units + 64 < cLine) : CallR X (.builtin "sorted") (rSortX X.prog X.w) := by
  intro pins s σ H vs us Q I r h
  obtain ⟨a, rfl, h⟩ := h
  rw [Vals.ref1 r]
  have fin : ∀ (s' : Shared) (p : Addr) (out : List Value) (c : Nat) (xs : List V), (∀ b o, s.heap.get? b = some o → s'.heap.get? b = some o) → s'.gens = s.gens → s'.os = s.os → s.heap.objs.size ≤ p → s'.heap.get? p = some (seqObj "list" out.toArray c) →
      Vals xs out → xs.length ≤ sizeLine → (H p = none → Q (.ref p) (upd H p (.lst xs))) → EP X pins σ Q (.ref p) s' := fun s' p out c xs k g o hp hg hi hlen q => by
    have hn : H p = none := I.hok.fresh hp
    have J : Inv X pins σ (upd H p (.lst xs)) { s with heap := s'.heap, gens := s'.gens, drawn := s'.drawn, toks := s'.toks } :=
      I.call (ch := []) (Un.laid k hp hn) (I.hok.laid k hp ⟨hlen, out, c, hi, hg⟩) (by rw [g]; exact I.bare) (fun _ z => nomatch z)
    have e : s' = { s with heap := s'.heap, gens := s'.gens, drawn := s'.drawn, toks := s'.toks } := by
      cases s'
      cases s
      cases o
      rfl
    rw [e]
    exact ⟨.ref p, _, J, rfl, q hn⟩
  rcases h with ⟨S, n, ha, q⟩ | ⟨l, ha, nd, few, q⟩
  · obtain ⟨o, es, ep, t, ho, hex, hd, g, nd, hm, hb, hf, hn, hr, hl⟩ := setO_get I ha
    refine sort_members (R := fun v (b : Int) => ∃ t, v = .int b t) (enc := PyData.int) (bs := es.toList.map keyOf) (I.ok.hd hc) ⟨o, ho, hex.1, hd⟩ hf hb hr hl (fun vs pm => ?_) (fun h v b q => by obtain ⟨t, rfl⟩ := q; exact .int _ _) (fun _ _ => rfl)
      (fun b => ⟨PyData.noConfusion, fun xs => PyData.noConfusion⟩) (fun _ => rfl) (by omega) fun s' p out c bs k g o hp hg pb eo => ?_
    · have pk := pm.map Builtin.Re.reRawOf
      rw [List.map_map] at pk
      refine ⟨vs.map Builtin.Re.reRawOf, pk, ?_⟩
      have all : ∀ v ∈ vs, ∃ k tk, v = Value.int k tk := fun v hv => by
        obtain ⟨e, he, q⟩ := List.mem_map.mp (pm.mem_iff.mp hv)
        obtain ⟨k, tk, h1, _⟩ := g e he
        exact ⟨k, tk, by rw [← q]; exact h1⟩
      clear pm pk
      induction vs with
      | nil => exact .nil
      | cons v vs ih =>
        obtain ⟨k, tk, rfl⟩ := all v List.mem_cons_self
        exact .cons ⟨tk, rfl⟩ (ih fun u hu => all u (List.mem_cons_of_mem _ hu))
    · rw [PySem.W.dataLe_int (fun b => b)] at eo
      have pq := (List.mergeSort_perm bs fun a b => decide (a ≤ b)).trans pb
      have so : (bs.mergeSort fun a b => decide (a ≤ b)).Pairwise fun a b => decide (a ≤ b) = true := List.pairwise_mergeSort (fun a b c h1 h2 => by simp at *; omega) (fun a b => by simp; omega) _
      generalize (bs.mergeSort fun a b => decide (a ≤ b)) = ms at eo pq so
      refine fin s' p out c (ms.map V.int) k g o hp hg ?_ ?_ fun hn => q ms p (pq.nodup_iff.mpr nd) so (fun k => by rw [pq.mem_iff, ← hm k]) hn
      · clear so pq hg
        induction eo with
        | nil => exact .nil
        | cons a _ ih => exact .cons a ih
      · rw [List.length_map, pq.length_eq, List.length_map, Array.length_toList]; exact fits_of_scanBound hb
  · obtain ⟨D, ho, F, hr, hl⟩ := (I.hok a _ ha).1
    have sz : D.1.size < scanBound := by rw [F.sz]; unfold scanBound; omega
    refine sort_members (R := fun v (b : Str) => ∃ t, v = .str b t) (enc := PyData.str) (bs := l) (es := D.1) (ep := D.2.1) (t := D.2.2) (I.ok.hd hc) ⟨_, ho, rfl, rfl⟩ F.fit sz hr hl (fun vs pm => ?_) (fun h v b q => by obtain ⟨t, rfl⟩ := q; exact .str _ _) (fun _ _ => rfl)
      (fun b => ⟨PyData.noConfusion, fun xs => PyData.noConfusion⟩) (fun _ => rfl) (by omega) fun s' p out c bs k g o hp hg pb eo => ?_
    · have all : ∀ v ∈ vs, ∃ k tk, v = Value.str k tk := fun v hv => by
        obtain ⟨e, he, q⟩ := List.mem_map.mp (pm.mem_iff.mp hv)
        obtain ⟨⟨k, h1, _⟩, _⟩ := F.el e he
        obtain ⟨t, h2⟩ := Value.isStrOf_shape h1
        exact ⟨k, t, by rw [← q]; exact h2⟩
      have mm : ∀ x ∈ l, ∃ t, Value.str x t ∈ vs := fun x hx => by
        obtain ⟨e, he, h1⟩ := (F.mem x).mp hx
        obtain ⟨t, h2⟩ := Value.isStrOf_shape h1
        exact ⟨t, pm.mem_iff.mpr (List.mem_map.mpr ⟨e, he, h2⟩)⟩
      have ln : vs.length = l.length := by rw [pm.length_eq, List.length_map, Array.length_toList]; exact F.sz
      obtain ⟨bs, eb⟩ : ∃ bs : List Str, PySem.W.EachIs (fun v (b : Str) => ∃ t, v = .str b t) vs bs := by
        clear mm ln pm
        induction vs with
        | nil => exact ⟨[], .nil⟩
        | cons v vs ih =>
          obtain ⟨k, tk, rfl⟩ := all v List.mem_cons_self
          obtain ⟨bs, q⟩ := ih fun u hu => all u (List.mem_cons_of_mem _ hu)
          exact ⟨k :: bs, .cons ⟨tk, rfl⟩ q⟩
      refine ⟨bs, (perm_of_sub nd (fun x hx => ?_) (by rw [← ln]; exact eb.length.symm)).symm, eb⟩
      obtain ⟨t, mt⟩ := mm x hx
      clear mm ln pm all
      induction eb with
      | nil => cases mt
      | cons a _ ih =>
        obtain ⟨t2, e⟩ := a
        rcases List.mem_cons.mp mt with q | q
        · rw [e] at q
          cases q
          exact List.mem_cons_self
        · exact List.mem_cons_of_mem _ (ih q)
    · rw [PySem.W.dataLe_str (fun b => b)] at eo
      have pq := (List.mergeSort_perm bs cle).trans pb
      have so : (bs.mergeSort cle).Pairwise fun a b => cle a b = true := List.pairwise_mergeSort (le := cle) (fun _ _ _ h1 h2 => cle_tr h1 h2) (fun a b => cle_tot a b) bs
      change PySem.W.EachIs _ out (bs.mergeSort cle) at eo
      generalize bs.mergeSort cle = ms at eo pq so
      refine fin s' p out c (ms.map V.str) k g o hp hg ?_ ?_ fun hn => q ms p pq so hn
      · clear so pq hg
        induction eo with
        | nil => exact .nil
        | cons a _ ih => exact .cons a ih
      · rw [List.length_map, pq.length_eq]; exact fits_of_scanBound (by unfold scanBound; omega)
end
/-! as readings -/
def SorX (ds : List D) (q : RS → Prop) : Prop :=
  (∃ ns ms : List Int, ds = ns.map D.int ∧ ns.length < 4000 ∧ ms.Pairwise (· < ·) ∧ (∀ k, k ∈ ms ↔ k ∈ ns) ∧ q (.new (.lst (ms.map D.int)))) ∨
  (∃ xs ts : List Str, ds = xs.map D.str ∧ xs.length < 4000 ∧ ts.Nodup ∧ ts.Pairwise (fun x y => cle x y = true) ∧ (∀ x, x ∈ ts ↔ x ∈ xs) ∧ q (.new (.lst (ts.map D.str))))
theorem sorX_int {ns ms : List Int} {q : RS → Prop} (h1 : ns.length < 4000) (h2 : ms.Pairwise (· < ·)) (h3 : ∀ k, k ∈ ms ↔ k ∈ ns) (k : q (.new (.lst (ms.map D.int)))) : SorX (ns.map D.int) q := .inl ⟨ns, ms, rfl, h1, h2, h3, k⟩
theorem sorX_str {xs ts : List Str} {q : RS → Prop} (h1 : xs.length < 4000) (h2 : ts.Nodup) (h3 : ts.Pairwise fun x y => cle x y = true) (h4 : ∀ x, x ∈ ts ↔ x ∈ xs) (k : q (.new (.lst (ts.map D.str)))) : SorX (xs.map D.str) q := .inr ⟨xs, ts, rfl, h1, h2, h3, h4, k⟩
def dSorX (de : DE) (γ : Env) (q : RS → Env → Prop) : Prop := de γ fun s γ1 => match s.data with
  | .lst ds => SorX ds fun r => q r γ1
  | .tup ds => SorX ds fun r => q r γ1
  | _ => False
theorem asc_nodup {ms : List Int} (h : ms.Pairwise (· < ·)) : ms.Nodup := h.imp fun a => Int.ne_of_lt a
theorem cle_uniq {ts l : List Str} (h1 : ts.Pairwise fun x y => cle x y = true) (h2 : l.Pairwise fun x y => cle x y = true) (p : ts.Perm l) : ts = l :=
  p.eq_of_pairwise (fun a b _ _ c d => cle_anti c d) h1 h2
section
variable {K : PySem.W.Frag} {B : Bs}
theorem se_sorX {P : Program} {w : World} {te : TE} {de : DE} (h : SE K B te de) : SE K B (tCB (rSortX P w) (tCons (tCB (rSetX K P w) (tCons te tNil)) tNil)) (dSorX de) := fun F H σ γ Q q R hq k => by
  refine h F H σ γ _ _ R hq fun v F1 H1 γ1 s R1 e1 o1 h1 => ?_
  have go : ∀ (a : Addr) (vs : List V) (ds : List D), SqX K H1 a vs → RpAll (B.kz K) F1 vs ds → SorX ds (fun r => q r γ1) → rSetX K P w [.ref a] H1 fun x H2 => rSortX P w [x] H2 Q := fun a vs ds hs ra sx => by
    rcases sx with ⟨ns, ms, rfl, ln, asc, mem, hq⟩ | ⟨xs, ts, rfl, ln, nd, asc, mem, hq⟩
    · have ev := rp_ints ra
      subst ev
      refine ⟨a, rfl, .inl ⟨ns, hs, ln, fun p c cn hp => ⟨p, rfl, .inl ⟨_, c, upd_same .., fun xs p2 nx ax mx hp2 => ?_⟩⟩⟩⟩
      have ex : xs = ms := asc_uniq (lt_of_le_nodup xs (ax.imp fun h => of_decide_eq_true h) nx) asc fun k => by rw [mx, mem]; exact decide_eq_true_iff
      subst ex
      have R2 := R1.alloc (SetO w p (fun j => decide (j ∈ ns)) c) hp
      obtain ⟨R3, o⟩ := R2.newL hp2 (vs := xs.map V.int) (ds := xs.map D.int) (ints_rp xs)
      exact k _ F1 _ γ1 _ R3 e1 o hq
    · have ev := rp_strs ra
      subst ev
      refine ⟨a, rfl, .inr ⟨xs, hs, ln, fun p l2 n2 ll m2 hp => ⟨p, rfl, .inr ⟨l2, upd_same .., n2, by omega, fun ys p2 py ay hp2 => ?_⟩⟩⟩⟩
      have ex : ys = ts := cle_uniq ay asc (py.trans ((List.perm_ext_iff_of_nodup n2 nd).mpr fun x => by rw [m2, mem]))
      subst ex
      have R2 := R1.alloc (SetTX P w p l2) hp
      obtain ⟨R3, o⟩ := R2.newL hp2 (vs := ys.map V.str) (ds := ys.map D.str) (strs_rp ys)
      exact k _ F1 _ γ1 _ R3 e1 o hq
  have rv := o1.rs R1
  split at h1
  · rename_i ds es
    rw [es] at rv
    obtain ⟨a, vs, rfl, ha, ra⟩ := rv.lst R1.fh
    exact go a vs ds (.inl (Evl.sq_of ha)) ra h1
  · rename_i ds es
    rw [es] at rv
    obtain ⟨a, vs, rfl, ha, ra⟩ := rv.tup R1.fh
    exact go a vs ds (.inr ha) ra h1
  · exact h1.elim
end
section
variable {X : Cx} {B : Bs} {e : Expr} {te : TE} {de : DE} {p p2 q pos : Pos}
theorem x_sorX (hm : X.mg "sorted" = none) (hm2 : X.mg "set" = none) (he : XE X B e te de) (hu : X.A.units + 64 < cLine) (hg : Gl X "sorted" := by rfl) (hg2 : Gl X "set" := by rfl) (hc : X.calm = true := by rfl) (na : starEach [e] X.env = (false, eval e X.env) :: starEach [] X.env := by rfl)
    (na2 : starEach [.Call (.Name "set" p2) [e] [] q] X.env = (false, eval (.Call (.Name "set" p2) [e] [] q) X.env) :: starEach [] X.env := by rfl) :
    XE X B (.Call (.Name "sorted" p) [.Call (.Name "set" p2) [e] [] q] [] pos) (tCB (rSortX X.prog X.w) (tCons (tCB (rSetX X.K X.prog X.w) (tCons te tNil)) tNil)) (dSorX de) :=
  ⟨pe_callB (cr_sortX hc hu) hg hm boot_sorted (pa_cons (pe_callTy (cr_setX hc) hg2 hm2 boot_set (pa_cons he.pe pa_nil na) (he := na)) pa_nil na2) (he := na2), se_sorX he.se⟩
end
end DL

set_option Elab.async false
set_option linter.all false
set_option maxRecDepth 100000
set_option maxHeartbeats 4000000
/-! defs with *names alone: the arguments lie in a new tuple -/
namespace DL
open PySem PySem.Spec PyProof.Rows L2
/-- the arguments are laid -/
def star (s : Shared) (us : List Value) : Shared := { s with heap := s.heap.push { cls := .type "tuple", data := .seq us.toArray } }
def BindsStar (fd : FuncData) (x : Str) : Prop := ∀ us : List Value, bindArgs fd ⟨us, []⟩ = (newTuple us >>= fun t => pure [(x, t)])
structure FnStar (P : Program) (w : World) (K : PySem.W.Frag) (mg : Str → Option Value) (base : Heap) (CX : CXT) (k : Nat) (f : Addr) (sp : Sp) : Prop where
  run : ∀ (A : Around) (outer : List PySem.Env) (s : Shared) (H : Hp) (us : List Value) (Q : VK) (E : XK), Room k A → (∀ b o, base.get? b = some o → s.heap.get? b = some o) → us.length ≤ sizeLine → Env0 P w K mg base A outer (star s us) H →
    sp [.ref s.heap.objs.size] H Q E → codeAny (model P w) A (.call (.ref f) ⟨us, []⟩) (CR CX outer P w H (star s us) Q E) s
theorem Fun.bindsStar {K : PySem.W.Frag} {x qual nm : Str} {st : Stmt} {f : Addr} {fd : FuncData} (F : Fun K x qual st f fd)
    (h : ∀ (kV doc pm : Value) (an : Option Addr) (cdv ct : Value) (us : List Value), bindArgs (PySem.W.fnOf x qual (defArgs st) (defBody st) (defScope st) .none kV doc pm an cdv ct) ⟨us, []⟩ = (newTuple us >>= fun t => pure [(nm, t)])) : BindsStar fd nm := by
  obtain ⟨_, _, kV, doc, pm, an, cdv, ct, _, rfl, _, _⟩ := F.ex
  exact h kV doc pm an cdv ct
section
variable {P : Program} {w : World} {K : PySem.W.Frag} {mg : Str → Option Value} {base : Heap} {CX : CXT}
theorem FnStar.mono {j k : Nat} {f : Addr} {sp : Sp} (F : FnStar P w K mg base CX j f sp) (h : j ≤ k) : FnStar P w K mg base CX k f sp := ⟨fun A outer s H us Q E hr => F.run A outer s H us Q E (hr.mono h)⟩
theorem fn_star {x qual nm : Str} {st : Stmt} {f : Addr} {fd : FuncData} {N : List Str} {k : Nat} {sp : Sp} (F : Fun K x qual st f fd) (S : FnScope N [nm] (defScope st)) (bd : BindsStar fd nm)
    (body : ∀ (cd : Value) (A : Around) (o : List PySem.Env) (s : Shared) (H : Hp) (vs : List V) (Q : VK) (E : XK), vs.length = 1 → Room k (A.deeper (envOfC qual (defScope st) s.heap.objs.size f cd)) → sp vs H Q E →
      ∃ t, PSs (cxOf CX P w K mg base N qual (defScope st) f cd A o s H E) (defBody st) t ∧ t { nx := fun _ H' => Q .non H', rt := Q } (L2.start N vs) H) : FnStar P w K mg base CX (k + 1) f sp := by
  obtain ⟨_, _, kV, doc, pm, an, cd, ct, _, rfl, lk, hc⟩ := F.ex
  refine ⟨fun A outer s H us Q E hr old few e0 hs => ?_⟩
  have KX : K.In s.heap := e0.mod.kin.keeps old
  obtain ⟨p, ep⟩ : ∃ p : Addr, p = s.heap.objs.size := ⟨_, rfl⟩
  rw [← ep] at hs
  refine codeAny_call_function hr.depth (KX _ _ lk) rfl S.co S.gen rfl (PySem.W.codeRec_of KX hc) ?_
  rw [bd us]
  refine wpAny_bind (wpAny_newTuple (wpAny_pure ?_) few)
  rw [← ep]
  have kinds : ∀ y ∈ [nm].zip [Value.ref p], (defScope st).names.lookup y.1 = some .local ∨ ((defScope st).names.lookup y.1 = some .cell ∧ ((cellsFrom ((star s us).heap.objs.size + 1) (defScope st).names []).lookup y.1).isSome = true) := fun y hy => by
    rcases S.par y.1 (List.of_mem_zip (show (y.1, y.2) ∈ _ from hy)).1 with q | q
    · exact .inl q
    · exact .inr ⟨q, PySem.W.cellsFrom_some _ _ _ (.inl q)⟩
  refine wpAny_newFunctionEnv_cells (s := star s us) S.kind kinds fun env he s1 x => ?_
  subst he
  refine ⟨(e0.mod.nolimit.keeps fun b o e => (e0.bs b o e).1).keeps x.toInCall.keep, codeAny_func ?_⟩
  obtain ⟨t, ht, hq⟩ := body cd A outer (star s us) H [.ref p] Q E rfl (hr.deeper _) hs
  have I := inv_start (CX := CX) (E := E) (us := [Value.ref p]) (vs := [V.ref p]) S hr.hd e0 rfl (.cons rfl .nil) x
  refine wpAny_mono (ht.run [] s1 (L2.start N [V.ref p]) H _ I hq) (fun fl s' hs => ?_) fun e s' hs => hs
  cases fl with
  | ret u =>
    obtain ⟨v, σ', H', J, rv, q⟩ := hs
    exact ⟨v, H', J.os, J.bare, J.base, J.hok, rv, q⟩
  | next =>
    obtain ⟨σ', H', J, q⟩ := hs
    exact ⟨.non, H', J.os, J.bare, J.base, J.hok, rfl, q⟩
  | brk => exact hs.elim fun _ h => h.elim fun _ h => h.2.elim
  | cont => exact hs.elim fun _ h => h.elim fun _ h => h.2.elim
end
section
variable {X : Cx} {CX : CXT} {k : Nat} {f : Addr} {sp : Sp} {E : L2.St → XK} {x : Str} {p pos : Pos} {e : Expr} {es : List Expr} {t : TA}
theorem run_star {pins : List (Addr × Obj)} {σ : L2.St} {H : Hp} {s : Shared} {Q : VK} {us : List Value} {vs : List V} (F : FnStar X.prog X.w X.K X.mg X.base CX k f sp) (hr : Room k X.A) (hx : PassesAt CX X σ (E σ)) (I : Inv X pins σ H s) (r : Vals vs us) (few : vs.length ≤ sizeLine)
    (h : ∀ p, H p = none → sp [.ref p] (upd H p (.tup vs)) Q (E σ)) : wpAny (model X.prog X.w) X.A (call (.ref f) us) (EP X pins σ Q) X.xe s := by
  have z : us.length ≤ sizeLine := by rw [← r.length]; exact few
  have J : Inv X pins σ (upd H s.heap.objs.size (.tup vs)) (star s us) := I.laid (t' := s.toks) (fun b u e => Heap.get?_push_of_some _ e) (Nat.le_refl _) ⟨few, us, r, ⟨_, Heap.get?_push_size _ rfl, rfl, _, rfl⟩⟩
  refine wpAny_call (codeAny_mono (F.run X.A X.stack s _ us Q (E σ) hr (fun b o q => (I.bs b o q).1) z J.env0 (h _ (I.hok.fresh (Nat.le_refl _)))) fun r s' hq => ?_)
  cases r with
  | error e => exact hx pins _ _ e s' J hq
  | ok fl =>
    cases fl with
    | ret u => exact J.after hq
    | next => exact hq.elim
    | brk => exact hq.elim
    | cont => exact hq.elim
theorem pe_star (F : FnStar X.prog X.w X.K X.mg X.base CX k f sp) (hr : Room k X.A) (hg : Gl X x) (hm : X.mg x = some (.ref f)) (hk : PySem.W.keepIn X.K (.ref f) = true) (hx : ∀ σ, PassesAt CX X σ (E σ)) (ha : PA X (e :: es) t) (hdb : (x == ("__debug__" : Str)) = false := by decide)
    (he : starEach (e :: es) X.env = (false, eval e X.env) :: starEach es X.env := by rfl) (hpl : (backTo pos (starEach es X.env)).any (·.1) = false := by rfl) : PE X (.Call (.Name x p) (e :: es) [] pos) (tCallSD sp [] E (tCons (tTup t) tNil)) :=
  ⟨fun pins s σ H Q I h => wpAny_Call_Name_kw (ld_glob I hg hm (PySem.W.callWith_K (h₀ := X.base) I.ok.mod.kin hk (thn (ha.run pos pins s σ H _ I h) fun us s1 ⟨vs, H1, I1, r, few, q⟩ => ⟨I1.kIn, run_star F hr (hx σ) I1 r few q⟩) he hpl) hdb)⟩
theorem pe_star0 (F : FnStar X.prog X.w X.K X.mg X.base CX k f sp) (hr : Room k X.A) (hg : Gl X x) (hm : X.mg x = some (.ref f)) (hk : PySem.W.keepIn X.K (.ref f) = true) (hx : ∀ σ, PassesAt CX X σ (E σ)) (hdb : (x == ("__debug__" : Str)) = false := by decide) :
    PE X (.Call (.Name x p) [] [] pos) (tCallSD sp [] E (tCons (tTup tNil) tNil)) :=
  ⟨fun pins s σ H Q I h => wpAny_Call_Name_kw (ld_glob I hg hm (PySem.W.callWith_K0 I.kIn hk (run_star (us := []) F hr (hx σ) I .nil h.1 h.2)) hdb)⟩
end
section
variable {P : Program} {w : World} {K : PySem.W.Frag} {mg : Str → Option Value} {base : Heap} {ct : Nat → Addr}
theorem fn_starX {x qual nm : Str} {st : Stmt} {f : Addr} {fd : FuncData} {N : List Str} {k : Nat} {fs : FSX} {ds : DX → DS} (F : Fun K x qual st f fd) (S : FnScope N [nm] (defScope st)) (bd : BindsStar fd nm) (hN : 1 ≤ N.length)
    (body : ∀ (B : Bs) (W : WX) (xc : DX) (cdv : Value) (A : Around) (outer : List PySem.Env) (s : Shared) (H : Hp) (E : XK), Room k (A.deeper (envOfC qual (defScope st) s.heap.objs.size f cdv)) → XOk K ct B W xc →
      L2N.Takes (cxOf (L2N.CX P w) P w K mg base N qual (defScope st) f cdv A outer s H E) W → ∃ ts, XSs (cxOf (L2N.CX P w) P w K mg base N qual (defScope st) f cdv A outer s H E) B (defBody st) ts (ds xc))
    (h : ∀ as p x, as.length = 1 → fs as p x → ds (xcOf as x) (endsOf as p) (startG N.length as)) : FnStar P w K mg base (L2N.CX P w) (k + 1) f (spOfX K ct 1 fs) := by
  have hn : [nm].length = 1 := rfl
  refine fn_star F S bd fun cdv A outer s H vs Q E lv hr hsp => ?_
  obtain ⟨hl, F0, m, z, as, p, x, R0, hf, hq, he⟩ := hsp
  have ha : as.length = 1 := by have := R0.len; rw [List.length_map] at this; omega
  have xo : XOk K ct (entry F0 H m z vs) (fun cls d _ H => E cls d H) (xcOf as x) := fun F' H' σ' γ' nm dd xs R' xd h1 => by
    obtain ⟨zs, ho, hp⟩ := outP h1
    exact he nm xs dd zs F' H' hp (R0.outs R' ho) xd
  obtain ⟨ts, b⟩ := body (entry F0 H m z vs) _ _ cdv A outer s H E hr xo (L2N.takes_of rfl rfl rfl rfl)
  refine ⟨ts, b.ps, ?_⟩
  refine b.ss F0 H _ _ _ (endsOf as p) (R0.start (by rw [hl]; exact hN)) (h as p x ha hf) ⟨fun F' H' σ' γ' R' _ h1 => ?_, fun F' H' σ' γ' v r R' _ o ⟨hk, h1⟩ => ?_, fun _ _ _ _ _ _ z => z, fun _ _ _ _ _ _ z => z⟩
  · obtain ⟨zs, ho, hp⟩ := outP h1
    exact hq (.val .non) zs .non F' H' hp (R0.outs R' ho) .non trivial
  · obtain ⟨zs, ho, hp⟩ := outP h1
    have R2 := R0.outs R' ho
    refine hq r zs v F' H' hp R2 ?_ hk
    cases r with
    | val d => exact o
    | own j c => exact hk.elim
    | new c =>
      obtain ⟨a, rfl, N⟩ := o
      refine ⟨a, rfl, N.fa, N.ok, N.bn, N.bm, fun i p' c' h1 h2 => ?_⟩
      obtain ⟨_, ok⟩ := R2.ownObj h1 h2
      have e1 : H a = none := N.bn
      obtain ⟨_, h3⟩ := outs_get ho
      rcases h3 i _ h1 with ⟨p2, c0, c2, e2, _, _⟩ | ⟨_, n2⟩
      · obtain ⟨_, ok2⟩ := R0.ownObj e2 h2
        obtain ⟨o, ho, _⟩ := ok2.obj
        rw [e1] at ho; cases ho
      · exact n2 p' c' rfl
end
theorem se_tupA {K : PySem.W.Frag} {B : Bs} {ta : TA} {da : DA} (h : SA K B ta da) : SE K B (tTup ta) (dTup da) := fun F H σ γ Q q R hq k => by
  refine h F H σ γ _ _ R hq fun vs F1 H1 γ1 rs R1 e1 o1 ⟨h1, h2, h3⟩ => ?_
  have ra := allV_rp o1 h1
  refine ⟨sz_le (by rw [P_len o1]; exact h2), fun p hp => ?_⟩
  obtain ⟨R', ex, rp⟩ := R1.newT hp ra
  exact k _ _ _ γ1 (.val _) R' (e1.trans ex) rp h3
section
variable {X : Cx} {B : Bs} {ct : Nat → Addr} {a : Expr} {es : List Expr} {ta : TA} {da : DA} {k : Nat} {f : Addr} {fs : FSX} {x : Str} {p pos : Pos} {W : WX} {xc : DX}
theorem x_starX (xo : XOk X.K ct B W xc) (tk : L2N.Takes X W) (G : FnStar X.prog X.w X.K X.mg X.base (L2N.CX X.prog X.w) k f (spOfX X.K ct 1 fs)) (hr : Room k X.A) (hm : X.mg x = some (.ref f)) (hk : PySem.W.keepIn X.K (.ref f) = true) (h : XA X B (a :: es) ta da)
    (hg : Gl X x := by rfl) (hdb : (x == ("__debug__" : Str)) = false := by decide) (he : starEach (a :: es) X.env = (false, eval a X.env) :: starEach es X.env := by rfl) (hpl : (backTo pos (starEach es X.env)).any (·.1) = false := by rfl) :
    XE X B (.Call (.Name x p) (a :: es) [] pos) (tCallSD (spOfX X.K ct 1 fs) [] (WE W) (tCons (tTup ta) tNil)) (dCallX xc 1 fs [] (dCons (dTup da) dNil)) := ⟨pe_star G hr hg hm hk (fun σ => L2N.passAt tk σ) h.pa hdb he hpl, se_callX (sa_cons (se_tupA h.sa) sa_nil) .nil xo⟩
theorem x_star0X (xo : XOk X.K ct B W xc) (tk : L2N.Takes X W) (G : FnStar X.prog X.w X.K X.mg X.base (L2N.CX X.prog X.w) k f (spOfX X.K ct 1 fs)) (hr : Room k X.A) (hm : X.mg x = some (.ref f)) (hk : PySem.W.keepIn X.K (.ref f) = true)
    (hg : Gl X x := by rfl) (hdb : (x == ("__debug__" : Str)) = false := by decide) :
    XE X B (.Call (.Name x p) [] [] pos) (tCallSD (spOfX X.K ct 1 fs) [] (WE W) (tCons (tTup tNil) tNil)) (dCallX xc 1 fs [] (dCons (dTup dNil) dNil)) := ⟨pe_star0 G hr hg hm hk (fun σ => L2N.passAt tk σ) hdb, se_callX (sa_cons (se_tupA sa_nil) sa_nil) .nil xo⟩
theorem x_starXC (K : PySem.W.Frag) (hK : X.K = K) (xo : XOk X.K ct B W xc) (tk : L2N.Takes X W) (G : FnStar X.prog X.w X.K X.mg X.base (L2N.CX X.prog X.w) k f (spOfX X.K ct 1 fs)) (hr : Room k X.A) (hm : X.mg x = some (.ref f)) (hk : PySem.W.keepIn X.K (.ref f) = true) (h : XA X B (a :: es) ta da)
    (hg : Gl X x := by rfl) (hdb : (x == ("__debug__" : Str)) = false := by decide) (he : starEach (a :: es) X.env = (false, eval a X.env) :: starEach es X.env := by rfl) (hpl : (backTo pos (starEach es X.env)).any (·.1) = false := by rfl) :
    XE X B (.Call (.Name x p) (a :: es) [] pos) (tCallSD (spOfX K ct 1 fs) [] (WE W) (tCons (tTup ta) tNil)) (dCallX xc 1 fs [] (dCons (dTup da) dNil)) := by
  have g := x_starX (p := p) (pos := pos) xo tk G hr hm hk h hg hdb he hpl
  rw [hK] at g
  exact g
theorem x_star0XC (K : PySem.W.Frag) (hK : X.K = K) (xo : XOk X.K ct B W xc) (tk : L2N.Takes X W) (G : FnStar X.prog X.w X.K X.mg X.base (L2N.CX X.prog X.w) k f (spOfX X.K ct 1 fs)) (hr : Room k X.A) (hm : X.mg x = some (.ref f)) (hk : PySem.W.keepIn X.K (.ref f) = true)
    (hg : Gl X x := by rfl) (hdb : (x == ("__debug__" : Str)) = false := by decide) :
    XE X B (.Call (.Name x p) [] [] pos) (tCallSD (spOfX K ct 1 fs) [] (WE W) (tCons (tTup tNil) tNil)) (dCallX xc 1 fs [] (dCons (dTup dNil) dNil)) := by
  have g := x_star0X (B := B) (p := p) (pos := pos) xo tk G hr hm hk hg hdb
  rw [hK] at g
  exact g
end
end DL

set_option Elab.async false
set_option linter.all false
set_option maxRecDepth 100000
set_option maxHeartbeats 2000000
/-! xs.index(v) where the place's K shows only by looking -/
namespace DL
open PySem PySem.Spec PyProof.Rows L2
theorem x_indexK {X : Cx} {B : Bs} {o e : Expr} {es : List Expr} {te : TE} {de : DE} {ta : TA} {da : DA} {apos cpos : Pos} (K : PySem.W.Frag) (hK : X.K = K) (ho : XE X B o te de) (h : XA X B (e :: es) ta da)
    (hbase : attributeBase o "index" X.env (eval o X.env) = eval o X.env := by rfl)
    (hfew : ((backTo cpos (starEach (e :: es) X.env)).all (fun x => !x.1) && (backToKw cpos (keywordEach [] X.env)).all (fun x => x.1.isSome) && decide ((e :: es).length + ([] : List Keyword).length + (if ([] : List Keyword).isEmpty then 0 else 1) < 30)) = true := by rfl)
    (hline : (apos.endLine == cpos.line) = true := by rfl) (hs : starEach (e :: es) X.env = (false, eval e X.env) :: starEach es X.env := by rfl) (hplain : (backTo cpos (starEach es X.env)).any (·.1) = false := by rfl) :
    XE X B (.Call (.Attribute o "index" apos) (e :: es) [] cpos) (tBM K "list" (rIndex K) te ta) (dRd mIndex de da) := by
  subst hK
  exact x_rd (fun p q => pe_bm PySem.F.plainAttrs_list PySem.F.slot_list_index PySem.F.type_list_index mt_index p q hbase hfew hline hs hplain) rd_index ho h
end DL

set_option Elab.async false
set_option linter.all false
set_option maxRecDepth 100000
set_option maxHeartbeats 4000000
/-! isinstance(e, (T1, T2)): e a number, a text, a truth value or None -/
namespace DL
open PySem PySem.Spec PyProof.Rows L2
open Evl (Ex)
def flN : D → Option String
  | .int _ => some "int"
  | .bl _ => some "bool"
  | .str _ => some "str"
  | .non => some "NoneType"
  | _ => none
def dIsB2 (T1 T2 : String) (de : DE) (γ : Env) (q : RS → Env → Prop) : Prop := de γ fun s γ1 => match flN s.data with
  | some n => ∃ b1 b2, kitB n T1 = some b1 ∧ kitB n T2 = some b2 ∧ q (.val (.bl (b1 || b2))) γ1
  | none => False
section
variable {K : PySem.W.Frag} {B : Bs} {te : TE} {de : DE} {T1 T2 : String}
theorem se_isB2 (h : SE K B te de) : SE K B (tCB (rIsiT K) (tCons te (tCons (tTup (tCons (tC (.ty T1)) (tCons (tC (.ty T2)) tNil))) tNil))) (dIsB2 T1 T2 de) := fun F H σ γ Q q R hq k => by
  refine h F H σ γ _ _ R hq fun v F1 H1 γ1 s R1 e1 o1 h1 => ?_
  have rv := o1.rs R1
  have go : ∀ n : String, (∀ H2, TyX K H2 v (.type n)) → (∃ b1 b2, kitB n T1 = some b1 ∧ kitB n T2 = some b2 ∧ q (.val (.bl (b1 || b2))) γ1) → (tTup (tCons (tC (.ty T1)) (tCons (tC (.ty T2)) tNil))) σ H1 fun x H2 => tNil σ H2 fun xs H3 => rIsiT K (v :: x :: xs) H3 Q := fun n ty ⟨b1, b2, k1, k2, hq⟩ => by
    refine ⟨sz_le (by decide : 2 ≤ 1000000), fun p hp => ?_⟩
    obtain ⟨R2, ex, rp⟩ := R1.newT (vs := [.ty T1, .ty T2]) (ds := [.ty T1, .ty T2]) hp (.cons (Rp.ty T1) (.cons (Rp.ty T2) .nil))
    refine ⟨v, p, _, _, _, b1 || b2, rfl, upd_same, .cons (.ty _) (.cons (.ty _) .nil), ty _, kit_two (kit_ty k1) (kit_ty k2), ?_⟩
    exact k _ _ _ γ1 (.val (.bl (b1 || b2))) R2 (e1.trans ex) (.bl _) hq
  split at h1
  · rename_i n en
    generalize s.data = d at rv en
    cases d <;> simp only [flN, Option.some.injEq, reduceCtorEq] at en
    all_goals subst en
    · exact go _ (fun H2 => by rw [rv.non]; exact .base .non) h1
    · exact go _ (fun H2 => by rw [rv.bl]; exact .base (.bl _)) h1
    · exact go _ (fun H2 => by rw [rv.int]; exact .base (.int _)) h1
    · exact go _ (fun H2 => by rw [rv.str]; exact .base (.str _)) h1
  · exact h1.elim
end
theorem x_isB2 {X : Cx} {B : Bs} {e : Expr} {te : TE} {de : DE} {T1 T2 : String} {c1 c2 : Str} {p p1 p2 tp pos : Pos} {x1} (hm : X.mg "isinstance" = none) (h1 : X.mg c1 = none) (h2 : X.mg c2 = none) (he : XE X B e te de)
    (g0 : Gl X "isinstance" := by rfl) (g1 : Gl X c1 := by rfl) (g2 : Gl X c2 := by rfl) (v1 : bootBuiltins c1 = some (.type T1) := by decide +kernel) (v2 : bootBuiltins c2 = some (.type T2) := by decide +kernel) (n1 : c1 ≠ "__name__" := by decide) (n2 : c2 ≠ "__name__" := by decide)
    (d1 : (c1 == ("__debug__" : Str)) = false := by decide) (d2 : (c2 == ("__debug__" : Str)) = false := by decide)
    (s1 : starEach [e, .Tuple [.Name c1 p1, .Name c2 p2] x1 tp] X.env = (false, eval e X.env) :: starEach [.Tuple [.Name c1 p1, .Name c2 p2] x1 tp] X.env := by rfl)
    (s2 : starEach [.Tuple [.Name c1 p1, .Name c2 p2] x1 tp] X.env = (false, eval (.Tuple [.Name c1 p1, .Name c2 p2] x1 tp) X.env) :: starEach [] X.env := by rfl)
    (s3 : starEach [.Name c1 p1, .Name c2 p2] X.env = (false, eval (.Name c1 p1) X.env) :: starEach [.Name c2 p2] X.env := by rfl)
    (s4 : starEach [.Name c2 p2] X.env = (false, eval (.Name c2 p2) X.env) :: starEach [] X.env := by rfl)
    (hpl : (backTo pos (starEach [.Tuple [.Name c1 p1, .Name c2 p2] x1 tp] X.env)).any (·.1) = false := by rfl) :
    XE X B (.Call (.Name "isinstance" p) [e, .Tuple [.Name c1 p1, .Name c2 p2] x1 tp] [] pos) (tCB (rIsiT X.K) (tCons te (tCons (tTup (tCons (tC (.ty T1)) (tCons (tC (.ty T2)) tNil))) tNil))) (dIsB2 T1 T2 de) :=
  ⟨pe_callB call_isiT g0 hm (by decide +kernel) (pa_cons he.pe (pa_cons (pe_tup (pa_cons (pe_bltn g1 h1 v1 rfl n1 d1) (pa_cons (pe_bltn g2 h2 v2 rfl n2 d2) pa_nil s4) s3)) pa_nil s2) s1) (by decide) (by decide) s1 hpl, se_isB2 he.se⟩
end DL

set_option Elab.async false
set_option linter.all false
set_option maxRecDepth 100000
set_option maxHeartbeats 2000000
/-! xs.index(v) of flat values: numbers, truth values, texts -/
namespace DL
open PySem PySem.Spec PyProof.Rows L2
theorem rp_gets {K : KZ} {F : Hp} : ∀ {vs : List V} {ds : List D}, RpAll K F vs ds → ∀ (j : Nat), (∀ v, vs[j]? = some v → ∃ d, ds[j]? = some d ∧ Rp K F v d) ∧ (∀ d, ds[j]? = some d → ∃ v, vs[j]? = some v ∧ Rp K F v d)
  | _, _, .nil, j => ⟨fun v h => (by cases h), fun d h => (by cases h)⟩
  | _, _, .cons a b, 0 => ⟨fun v h => (by cases h; exact ⟨_, rfl, a⟩), fun d h => (by cases h; exact ⟨_, rfl, a⟩)⟩
  | _, _, .cons a b, j + 1 => rp_gets b j
def mIndexV (ds as : List D) (q : D → Prop) : Prop := match as with
  | [y] => y.flt = true ∧ ds.all D.flt = true ∧ ∃ (j : Nat) (z : D), ds[j]? = some z ∧ deq z y = true ∧ (∀ (m : Nat) (z' : D), m < j → ds[m]? = some z' → deq z' y = false) ∧ q (.int (j : Nat))
  | _ => False
theorem rd_indexV {K : PySem.W.Frag} : RdD K (rIndex K) mIndexV := fun z F H a vs ds xs as Q q eFH ha ra rx hf k => by
  unfold mIndexV at hf
  split at hf
  · rename_i y
    obtain ⟨x, rfl, r1⟩ := one_rs rx.p
    obtain ⟨fy, fa, j, z1, h1, h2, h3, hq⟩ := hf
    obtain ⟨w, hw, rw1⟩ := (rp_gets ra j).2 z1 h1
    obtain ⟨ff, eqf⟩ := flt_v r1 fy
    have fe : ∀ {m : Nat} {d : D}, ds[m]? = some d → d.flt = true := fun {m d} h => (List.all_eq_true.mp fa) d (List.mem_of_getElem? h)
    refine ⟨a, _, x, j, w, rfl, rfl, Evl.sq_of ha, ff, (flt_all r1 fy ra fa).1, hw, by rw [eqf rw1 (fe h1)]; exact h2, fun m z' hm hz => ?_, k _ _ (.int _) hq⟩
    obtain ⟨d, hd, rd⟩ := (rp_gets ra m).1 z' hz
    rw [eqf rd (fe hd)]
    exact h3 m d hm hd
  · exact hf.elim
section
variable {X : Cx} {B : Bs} {o e : Expr} {es : List Expr} {te : TE} {de : DE} {ta : TA} {da : DA} {apos cpos : Pos}
theorem x_indexV (K : PySem.W.Frag) (hK : X.K = K) (ho : XE X B o te de) (h : XA X B (e :: es) ta da)
    (hbase : attributeBase o "index" X.env (eval o X.env) = eval o X.env := by rfl)
    (hfew : ((backTo cpos (starEach (e :: es) X.env)).all (fun x => !x.1) && (backToKw cpos (keywordEach [] X.env)).all (fun x => x.1.isSome) && decide ((e :: es).length + ([] : List Keyword).length + (if ([] : List Keyword).isEmpty then 0 else 1) < 30)) = true := by rfl)
    (hline : (apos.endLine == cpos.line) = true := by rfl) (hs : starEach (e :: es) X.env = (false, eval e X.env) :: starEach es X.env := by rfl) (hplain : (backTo cpos (starEach es X.env)).any (·.1) = false := by rfl) :
    XE X B (.Call (.Attribute o "index" apos) (e :: es) [] cpos) (tBM K "list" (rIndex K) te ta) (dRd mIndexV de da) := by
  subst hK
  exact x_rd (fun p q => pe_bm PySem.F.plainAttrs_list PySem.F.slot_list_index PySem.F.type_list_index mt_index p q hbase hfew hline hs hplain) rd_indexV ho h
end
/-- by a proof of its own: what stands behind is not opened by the kernel (lists of texts there are slow) -/
theorem dNext_u (d : DEnds) (γ : Env) : dNext d γ = d.nx γ := propext ⟨fun h => h, fun h => h⟩
end DL

set_option Elab.async false
set_option linter.all false
set_option maxRecDepth 100000
set_option maxHeartbeats 2000000
/-! methods of texts: s.rstrip(t), s.find(t), s.index(t), s.ljust(n, t); t * n; str(x) -/
namespace DL
open PySem PySem.Spec PyProof.Rows L2
open Evl (Ex ex_l ex_t)
section
variable {X : Cx}
theorem op_mulS : OpR X (binaryOp .Mult) (fun x y H Q => ∃ (i : Str) (n : Int), x = .str i ∧ y = .int n ∧ MulOk i n ∧ Q (.str (Txt.mul i n)) H) := by
  intro pins s σ H x y v u Q I rx ry h
  obtain ⟨i, n, rfl, rfl, hz, q⟩ := h
  obtain ⟨t, rfl⟩ := rx
  obtain ⟨t', rfl⟩ := ry
  exact SB.mul hz fun t' tk => ⟨.str (Txt.mul i n), H, I.tok _, ⟨_, rfl⟩, q⟩
theorem mt_ljustF : MtR X "str.ljust" (fun x xs H Q => ∃ (a : Str) (i : Int) (c : Nat), x = .str a ∧ xs = [.int i, .str ⟨#[c]⟩] ∧ PadOk i = true ∧ Q (.str (Txt.ljustF a i c)) H) := by
  intro pins s σ H x xs v us Q I rx rs h
  obtain ⟨a, i, c, rfl, rfl, hp, q⟩ := h
  obtain ⟨t, rfl⟩ := rx
  cases rs with
  | cons r1 rs =>
    cases rs with
    | cons r2 rs =>
      cases rs
      obtain ⟨u, rfl⟩ := r1
      obtain ⟨w, rfl⟩ := r2
      exact ljust_fill hp rfl fun t' tk => ⟨.str (Txt.ljustF a i c), H, I.tok _, ⟨_, rfl⟩, q⟩
theorem mt_indexT : MtR X "str.index" (fun x xs H Q => ∃ (a b : Str) (k : Nat) (r : List Nat), x = .str a ∧ xs = [.str b] ∧ Builtin.Str.occurrences a b 0 a.length 1 = k :: r ∧ Q (.int (k : Nat)) H) := by
  intro pins s σ H x xs v us Q I rx rs h
  obtain ⟨a, b, k, r, rfl, rfl, ho, q⟩ := h
  obtain ⟨t, rfl⟩ := rx
  cases rs with
  | cons r1 rs =>
    cases rs
    obtain ⟨u, rfl⟩ := r1
    exact PySem.SC.index ho ⟨.int (k : Nat), H, I.tok _, ⟨_, rfl⟩, q⟩
end
/-- what a method of a text asks of what it is given -/
def SmD (K : PySem.W.Frag) (r : V → List V → Hp → VK → Prop) (f : Str → List D → (D → Prop) → Prop) : Prop := ∀ (z : Addr → Prop) (F H : Hp) (a : Str) (xs : List V) (as : List D) (Q : VK) (q : D → Prop), RpAll ⟨K, z⟩ F xs as → f a as q →
  (∀ v d, Rp ⟨K, z⟩ F v d → q d → Q v H) → r (.str a) xs H Q
def dSm (f : Str → List D → (D → Prop) → Prop) (de : DE) (da : DA) (γ : Env) (q : RS → Env → Prop) : Prop := de γ fun s γ1 => match s.data with
  | .str a => da γ1 fun rs γ2 => allV rs ∧ f a (rs.map RS.data) fun d => q (.val d) γ2
  | _ => False
section
variable {K : PySem.W.Frag} {B : Bs}
theorem se_sm {te : TE} {de : DE} {ta : TA} {da : DA} {r : V → List V → Hp → VK → Prop} {f : Str → List D → (D → Prop) → Prop} (hm : SmD K r f) (he : SE K B te de) (ha : SA K B ta da) : SE K B (tBM K "str" r te ta) (dSm f de da) := fun F H σ γ Q q R hq k => by
  refine he F H σ γ _ _ R hq fun x F1 H1 γ1 s R1 e1 o1 h1 => ?_
  have rx := o1.rs R1
  split at h1
  · rename_i a es
    rw [es] at rx
    have hx := rx.str
    subst hx
    exact ⟨rfl, ha F1 H1 σ γ1 _ _ R1 h1 fun ws F3 H3 γ3 rs R3 e3 o3 ⟨h4, h5⟩ => hm B.z F3 H3 a ws _ Q _ (allV_rp o3 h4) h5 fun v d rd hq => k v F3 H3 γ3 (.val d) R3 (e1.trans e3) rd hq⟩
  · exact h1.elim
def mFind (a : Str) (as : List D) (q : D → Prop) : Prop := match as with
  | [.str b] => q (.int (Txt.find a b))
  | _ => False
theorem sm_find : SmD K (fun x xs H Q => ∃ a b, x = .str a ∧ xs = [.str b] ∧ Q (.int (Txt.find a b)) H) mFind := fun z F H a xs as Q q rx hf k => by
  unfold mFind at hf
  split at hf
  · obtain ⟨x, rfl, r1⟩ := one_rs rx.p
    cases r1
    exact ⟨a, _, rfl, rfl, k _ _ (.int _) hf⟩
  · exact hf.elim
def mRstrip (a : Str) (as : List D) (q : D → Prop) : Prop := match as with
  | [.str b] => a.length ≤ 1000000 ∧ q (.str (Txt.rstripChars a b))
  | _ => False
theorem sm_rstrip : SmD K (fun x xs H Q => ∃ a b, x = .str a ∧ xs = [.str b] ∧ a.length ≤ sizeLine ∧ Q (.str (Txt.rstripChars a b)) H) mRstrip := fun z F H a xs as Q q rx hf k => by
  unfold mRstrip at hf
  split at hf
  · obtain ⟨x, rfl, r1⟩ := one_rs rx.p
    cases r1
    exact ⟨a, _, rfl, rfl, sz_le hf.1, k _ _ (.str _) hf.2⟩
  · exact hf.elim
def mIndexT (a : Str) (as : List D) (q : D → Prop) : Prop := match as with
  | [.str b] => ∃ (k : Nat) (r : List Nat), Builtin.Str.occurrences a b 0 a.length 1 = k :: r ∧ q (.int (k : Nat))
  | _ => False
theorem sm_index : SmD K (fun x xs H Q => ∃ (a b : Str) (k : Nat) (r : List Nat), x = .str a ∧ xs = [.str b] ∧ Builtin.Str.occurrences a b 0 a.length 1 = k :: r ∧ Q (.int (k : Nat)) H) mIndexT := fun z F H a xs as Q q rx hf k => by
  unfold mIndexT at hf
  split at hf
  · obtain ⟨x, rfl, r1⟩ := one_rs rx.p
    obtain ⟨j, r, ho, hq⟩ := hf
    cases r1
    exact ⟨a, _, j, r, rfl, rfl, ho, k _ _ (.int _) hq⟩
  · exact hf.elim
def mLjust (a : Str) (as : List D) (q : D → Prop) : Prop := match as with
  | [.int i, .str b] => ∃ c, b = ⟨#[c]⟩ ∧ PadOk i = true ∧ q (.str (Txt.ljustF a i c))
  | _ => False
theorem sm_ljust : SmD K (fun x xs H Q => ∃ (a : Str) (i : Int) (c : Nat), x = .str a ∧ xs = [.int i, .str ⟨#[c]⟩] ∧ PadOk i = true ∧ Q (.str (Txt.ljustF a i c)) H) mLjust := fun z F H a xs as Q q rx hf k => by
  unfold mLjust at hf
  split at hf
  · obtain ⟨x, y, rfl, r1, r2⟩ := two_rs rx.p
    obtain ⟨c, rfl, hp, hq⟩ := hf
    cases r1
    cases r2
    exact ⟨a, _, c, rfl, rfl, hp, k _ _ (.str _) hq⟩
  · exact hf.elim
/-! t * n -/
def fMulS : D → D → (RS → Prop) → Prop
  | .str i, .int n, q => MulOk i n ∧ q (.val (.str (Txt.mul i n)))
  | _, _, _ => False
theorem od_mulS : OpD K (fun x y H Q => ∃ (i : Str) (n : Int), x = .str i ∧ y = .int n ∧ MulOk i n ∧ Q (.str (Txt.mul i n)) H) fMulS := fun B F H σ γ x y d e Q q R rx ry hf k => by
  unfold fMulS at hf
  split at hf
  · exact ⟨_, _, rx.str, ry.int, hf.1, vk R k (.str _) hf.2⟩
  · exact hf.elim
/-! str(n) -/
def fStrI : List D → (RS → Prop) → Prop
  | [.int i], q => i.natAbs.log2 < 1920 ∧ q (.val (.str (toString i)))
  | _, _ => False
theorem cd_strI : CallD K (fun xs H Q => ∃ i, xs = [.int i] ∧ i.natAbs.log2 < 1920 ∧ Q (.str (toString i)) H) fStrI := fun B F H σ γ xs ds Q q R rx hf k => by
  unfold fStrI at hf
  split at hf
  · obtain ⟨x, rfl, r⟩ := one_rs rx
    rw [r.int]
    exact ⟨_, rfl, hf.1, vk R k (.str _) hf.2⟩
  · exact hf.elim
end
section
variable {X : Cx} {B : Bs} {o c : Expr} {es : List Expr} {te : TE} {de : DE} {ta : TA} {da : DA}
theorem x_sm {r : V → List V → Hp → VK → Prop} {f : Str → List D → (D → Prop) → Prop} (pe : PE X o te → PA X es ta → PE X c (tBM X.K "str" r te ta)) (hd : SmD X.K r f) (ho : XE X B o te de) (h : XA X B es ta da) : XE X B c (tBM X.K "str" r te ta) (dSm f de da) := ⟨pe ho.pe h.pa, se_sm hd ho.se h.sa⟩
end
theorem padOk_small {i : Int} (h0 : 0 ≤ i) (h1 : i ≤ 1000) : PadOk i = true := by
  unfold PadOk fitsSsize
  have e1 : ¬ i < -(2 ^ 63 : Int) := by omega
  have e2 : ¬ i ≥ 2 ^ 63 := by omega
  have e3 : Builtin.Str.tooLong i.toNat = false := by
    unfold Builtin.Str.tooLong
    rw [sizeLine_eq]
    exact decide_eq_false (by omega)
  rw [e3, decide_eq_false e1, decide_eq_false e2]
  rfl
theorem mulOk_small {c : Nat} {n : Int} (h0 : -1000 ≤ n) (h1 : n ≤ 1000) : MulOk ⟨#[c]⟩ n := by
  have e0 : (⟨#[c]⟩ : Str).length = 1 := rfl
  refine ⟨?_, fun a b => ?_, fun a b => ?_⟩
  · have e1 : ¬ n < -(2 ^ 63 : Int) := by omega
    have e2 : ¬ n ≥ 2 ^ 63 := by omega
    rw [decide_eq_false e1, decide_eq_false e2]
    rfl
  · rw [e0]
    have : 1 ≤ (2 ^ 63 - 1) / n := Int.le_ediv_of_mul_le (by omega) (by omega)
    omega
  · rw [e0]
    unfold Builtin.Str.tooLong
    rw [sizeLine_eq]
    exact decide_eq_false (by omega)
end DL

set_option Elab.async false
set_option linter.all false
set_option maxRecDepth 100000
set_option maxHeartbeats 2000000
/-! d.get(k); {k: v, ..} whose keys and values are names, names[i] or written -/
namespace DL
open PySem PySem.Spec PyProof.Rows L2
open Evl (Ex ex_l ex_t)
def dDGet1 (dd dk : DE) (γ : Env) (q : RS → Env → Prop) : Prop := dd γ fun s γ1 => match s.data with
  | .dct kd => dk γ1 fun t γ2 => s.ok γ2 ∧ ∃ k, keyD t.data = some k ∧ q (.val ((vlk kd k).getD .non)) γ2
  | _ => False
section
variable {K : PySem.W.Frag} {B : Bs}
theorem se_dget1 {td tk : TE} {dd dk : DE} (hd : SE K B td dd) (hk : SE K B tk dk) : SE K B (tDGet1 td tk) (dDGet1 dd dk) := fun F H σ γ Q q R hq k => by
  refine hd F H σ γ _ _ R hq fun x F1 H1 γ1 s R1 e1 o1 h1 => ?_
  obtain ⟨F2, R2, e2, o2⟩ := o1.fz R1
  split at h1
  · rename_i kd es
    have rx := o2.rs R2
    rw [RS.fz_data, es] at rx
    obtain ⟨a, kv, rfl, ha, ra⟩ := rx.dct R2.fh
    refine ⟨a, rfl, .inl ⟨kv, ha⟩, hk F2 H1 σ γ1 _ _ R2 h1 fun y F3 H3 γ3 t R3 e3 o3 ⟨h4, kk, hkk, hq⟩ => ?_⟩
    have hy := key_v hkk (o3.rs R3)
    subst hy
    have ox := (o2.later e3 R3 (fz_ok s γ3 h4) (fz_idem s)).rs R3
    rw [RS.fz_data, es] at ox
    obtain ⟨a', kv', ea, ha', ra'⟩ := ox.dct R3.fh
    cases ea
    refine ⟨_, dgetR ha', ?_⟩
    have ex : Ex F F3 := (e1.trans e2).trans e3
    rcases ks_val (k := kk) ra' with ⟨z1, z2⟩ | ⟨v, d, g1, g2, g3⟩
    · rw [z1]
      rw [z2] at hq
      exact k _ F3 H3 γ3 (.val .non) R3 ex .non hq
    · rw [g1]
      rw [g2] at hq
      exact k _ F3 H3 γ3 (.val d) R3 ex g3 hq
  · exact h1.elim
/-- what is read without a change of anything -/
abbrev QD := Env → D → Prop
def SQ (K : PySem.W.Frag) (B : Bs) (te : TE) (g : QD) : Prop := ∀ (F H : Hp) (σ : L2.St) (γ : Env) (d : D) (Q : VK), Rep K B F H σ γ → g γ d → (∀ v, Rp (B.kz K) F v d → Q v H) → te σ H Q
def gVar (j : Nat) : QD := fun γ d => look γ j = .val d
def gC (d : D) : QD := fun _ e => e = d
/-- an element of a list or a tuple in slot j -/
def gIxL (j : Nat) (i : Int) : QD := fun γ d => ∃ xs, (look γ j = .val (.lst xs) ∨ ∃ p, look γ j = .own p (.lst xs)) ∧ atI xs i = some d
def gIxT (j : Nat) (i : Int) : QD := fun γ d => ∃ xs, look γ j = .val (.tup xs) ∧ atI xs i = some d
theorem sq_var {j : Nat} : SQ K B (tVar j) (gVar j) := fun F H σ γ d Q R h k => by
  obtain ⟨v, hs, r⟩ := R.val h
  exact ⟨v, hs, k v r⟩
theorem sq_c {v : V} {d : D} (r : ∀ z F, Rp ⟨K, z⟩ F v d) : SQ K B (tC v) (gC d) := fun F H σ γ e Q R h k => by
  cases h
  exact k v (r _ _)
theorem sq_ixL {j : Nat} {i : Int} : SQ K B (tOp (rIxL K) (tVar j) (tC (.int i))) (gIxL j i) := fun F H σ γ d Q R ⟨xs, h, ha⟩ k => by
  rcases h with h | ⟨p, h⟩
  · obtain ⟨v, hs, r⟩ := R.val h
    obtain ⟨a, vs, rfl, h1, r1⟩ := (show Rs (B.kz K) F H v (.lst xs) from .inl r).lst R.fh
    obtain ⟨u, hu, ru⟩ := atI_p r1.p ha
    exact ⟨_, hs, a, vs, _, u, rfl, rfl, Evl.sq_of h1, hu, k u ru⟩
  · obtain ⟨a, hs, hg, _⟩ := R.own h
    have o : RsOk K B F H σ γ (.ref a) (.own j (.lst xs)) := ⟨hs, p, hg⟩
    obtain ⟨b, vs, e, h1, r1⟩ := (o.rs R).lst R.fh
    cases e
    obtain ⟨u, hu, ru⟩ := atI_p r1.p ha
    exact ⟨_, hs, a, vs, _, u, rfl, rfl, Evl.sq_of h1, hu, k u ru⟩
theorem sq_ixT {j : Nat} {i : Int} : SQ K B (tOp (rIxT K) (tVar j) (tC (.int i))) (gIxT j i) := fun F H σ γ d Q R ⟨xs, h, ha⟩ k => by
  obtain ⟨v, hs, r⟩ := R.val h
  obtain ⟨a, vs, rfl, h1, r1⟩ := (show Rs (B.kz K) F H v (.tup xs) from .inl r).tup R.fh
  obtain ⟨u, hu, ru⟩ := atI_p r1.p ha
  exact ⟨_, hs, a, vs, _, u, rfl, rfl, h1, hu, k u ru⟩
/-- the pairs of a dict that is written -/
def gDisp : List (QD × QD) → Env → (List (Key × D) → Prop) → Prop
  | [], _, q => q []
  | (gk, gv) :: r, γ, q => ∃ dk k dv, gk γ dk ∧ keyD dk = some k ∧ gv γ dv ∧ gDisp r γ fun kd => q ((k, dv) :: kd)
def mrg (acc kd : List (Key × D)) : List (Key × D) := kd.foldl (fun a e => ptk a e.1 e.2) acc
def dDisp (ps : List (QD × QD)) (γ : Env) (q : RS → Env → Prop) : Prop := gDisp ps γ fun kd => kd.length ≤ 15 ∧ q (.new (.dct (mrg [] kd))) γ
theorem disp_run {ts : List (TE × TE)} {ps : List (QD × QD)} (h : Paired (fun t p => SQ K B t.1 p.1 ∧ SQ K B t.2 p.2) ts ps) {F H : Hp} {σ : L2.St} {γ : Env} (R : Rep K B F H σ γ) :
    ∀ (q : List (Key × D) → Prop) (Q : List (V × V) → Hp → Prop), gDisp ps γ q → (∀ kv kd, RpKs (B.kz K) F kv kd → q kd → Q (kv.map fun e => (kV e.1, e.2)) H) → tPairs ts σ H Q := by
  induction h with
  | nil => exact fun q Q g k => k [] [] .nil g
  | @cons t p ts ps a _ ih =>
    rintro q Q ⟨dk, kk, dv, g1, g2, g3, g4⟩ k
    refine a.1 F H σ γ dk _ R g1 fun x rx => ?_
    have hx := key_v (H := H) g2 (.inl rx)
    subst hx
    refine a.2 F H σ γ dv _ R g3 fun y ry => ih _ _ g4 fun kv kd r hq => ?_
    exact k ((kk, y) :: kv) ((kk, dv) :: kd) (.cons ry r) hq
theorem mrg_rp {F : Hp} : ∀ {kv : List (Key × V)} {kd : List (Key × D)} {acc : List (Key × V)} {ad : List (Key × D)}, RpKs (B.kz K) F kv kd → RpKs (B.kz K) F acc ad → RpKs (B.kz K) F (mergeK acc kv) (mrg ad kd)
  | [], _, _, _, h, g => by cases h; exact g
  | (n, v) :: kv, _, acc, ad, h, g => by
    cases h with
    | cons r t => exact mrg_rp (acc := putK acc n v) (ad := ptk ad n _) t (ks_put r g)
theorem se_disp {ts : List (TE × TE)} {ps : List (QD × QD)} (h : Paired (fun t p => SQ K B t.1 p.1 ∧ SQ K B t.2 p.2) ts ps) : SE K B (tDisp ts) (dDisp ps) := fun F H σ γ Q q R hq k => fun p hp => by
  refine disp_run h (R.alloc (.dK []) hp) _ _ hq fun kv kd r ⟨few, hq⟩ => ⟨upd_same, kv, rfl, by rw [ks_len r]; exact few, ?_⟩
  have e1 : ∀ o, upd (upd H p (.dK [])) p o = upd H p o := fun o => by
    funext b
    by_cases c : b = p
    · subst c; rw [upd_same, upd_same]
    · rw [upd_ne c, upd_ne c, upd_ne c]
  rw [e1]
  obtain ⟨R', o⟩ := R.newK hp (mrg_rp r .nil)
  exact k _ F _ γ _ R' (Evl.Ex.refl F) o hq
end
structure XQ (X : Cx) (B : Bs) (e : Expr) (te : TE) (g : QD) : Prop where
  pe : PE X e te
  sq : SQ X.K B te g
structure XD (X : Cx) (B : Bs) (pos : Pos) (ks : List (Option Expr)) (vs : List Expr) (ts : List (TE × TE)) (ps : List (QD × QD)) : Prop where
  pp : PPs X pos ks vs ts
  sp : Paired (fun t p => SQ X.K B t.1 p.1 ∧ SQ X.K B t.2 p.2) ts ps
section
variable {X : Cx} {B : Bs} {pos p1 p2 : Pos} {k v a b : Expr} {ks : List (Option Expr)} {vs : List Expr} {tk tv te : TE} {gk gv : QD} {ts : List (TE × TE)} {ps : List (QD × QD)} {de : DE}
theorem xd_nil : XD X B pos [] [] [] [] := ⟨pps_nil, .nil⟩
theorem xd_cons (hk : XQ X B k tk gk) (hv : XQ X B v tv gv) (r : XD X B pos ks vs ts ps) : XD X B pos (some k :: ks) (v :: vs) ((tk, tv) :: ts) ((gk, gv) :: ps) := ⟨pps_cons hk.pe hv.pe r.pp, .cons ⟨hk.sq, hv.sq⟩ r.sp⟩
theorem x_disp (h : XD X B pos ks vs ts ps) (hall : ks.all (·.isSome) = true := by rfl) (hl : ks.length = vs.length := by rfl) (h0 : ks ≠ [] := by intro z; cases z) (h15 : ks.length ≤ 15 := by decide) : XE X B (.Dict ks vs pos) (tDisp ts) (dDisp ps) := ⟨pe_disp h.pp hall hl h0 h15, se_disp h.sp⟩
theorem xq_var {i : Nat} (h : XE X B v (tVar i) de) : XQ X B v (tVar i) (gVar i) := ⟨h.pe, sq_var⟩
theorem xq_str {i : Str} {j : Nat} : XQ X B (.Constant (.str i) j pos) (tC (.str i)) (gC (.str i)) := ⟨pe_str, sq_c fun _ _ => .str i⟩
theorem xq_ixL {j : Nat} {i : Int} (h : XE X B a (tOp (rIxL X.K) (tVar j) (tC (.int i))) de) : XQ X B a (tOp (rIxL X.K) (tVar j) (tC (.int i))) (gIxL j i) := ⟨h.pe, sq_ixL⟩
theorem xq_ixT {j : Nat} {i : Int} (h : XE X B a (tOp (rIxT X.K) (tVar j) (tC (.int i))) de) : XQ X B a (tOp (rIxT X.K) (tVar j) (tC (.int i))) (gIxT j i) := ⟨h.pe, sq_ixT⟩
theorem x_dget1 {o e : Expr} {to : TE} {d de : DE} {te : TE} {apos pos : Pos} (hu : X.A.units + 1 < cLine) (ho : XE X B o to d) (he : XE X B e te de) (m : M1 X o "get" apos e pos := by exact ⟨rfl, rfl, rfl, rfl⟩) : XE X B (.Call (.Attribute o "get" apos) [e] [] pos) (tDGet1 to te) (dDGet1 d de) := ⟨pe_dget1 hu ho.pe he.pe m, se_dget1 ho.se he.se⟩
end
/-! ### z in D, D a dict of the module of texts, z one of some texts -/
def KdIn (w : World) (K : PySem.W.Frag) (a : Addr) (tt : TT) (zs : List Str) : Prop := (∃ es n, KDict K w a es n) ∧ ∀ z ∈ zs, ∃ r, PySem.W.nsIn K a z = some r ∧ r.isSome = (tt.lookup z).isSome
def dInD (tt : TT) (zs : List Str) (neg : Bool) (de : DE) (γ : Env) (q : RS → Env → Prop) : Prop := de γ fun s γ1 => match s.data with
  | .str z => z ∈ zs ∧ q (.val (.bl (if neg then !(tt.lookup z).isSome else (tt.lookup z).isSome))) γ1
  | _ => False
def rInD (K : PySem.W.Frag) (a : Addr) (neg : Bool) : R2 := fun x y H Q => ∃ (z : Str) (r : Option Value), x = .str z ∧ y = .ref a ∧ PySem.W.nsIn K a z = some r ∧ Q (.bl (if neg then !r.isSome else r.isSome)) H
theorem se_inD {w : World} {K : PySem.W.Frag} {B : Bs} {te : TE} {de : DE} {a : Addr} {tt : TT} {zs : List Str} {neg : Bool} (hd : KdIn w K a tt zs) (h : SE K B te de) : SE K B (tOp (rInD K a neg) te (tC (.ref a))) (dInD tt zs neg de) := fun F H σ γ Q q R hq k => by
  refine h F H σ γ _ _ R hq fun v F1 H1 γ1 s R1 e1 o1 h1 => ?_
  split at h1
  · rename_i z es
    obtain ⟨hz, hq⟩ := h1
    have rv := o1.rs R1
    rw [es] at rv
    obtain ⟨r, hr, e⟩ := hd.2 z hz
    exact ⟨z, r, rv.str, rfl, hr, by rw [e]; exact k _ F1 H1 γ1 (.val (.bl _)) R1 e1 (.bl _) hq⟩
  · exact h1.elim
theorem x_inD {X : Cx} {B : Bs} {x : Str} {a : Addr} {tt : TT} {zs : List Str} {e : Expr} {te : TE} {de : DE} {p pos : Pos} (hm : X.mg x = some (.ref a)) (hd : KdIn X.w X.K a tt zs) (he : XE X B e te de) (hg : Gl X x := by rfl) (hdb : (x == ("__debug__" : Str)) = false := by decide) (hb : behindInMarks .In (.Name x p) = false := by first | exact nomark _ | rfl) :
    XE X B (.Compare e [.In] [.Name x p] pos) (tOp (rInD X.K a false) te (tC (.ref a))) (dInD tt zs false de) := by
  obtain ⟨⟨es, n, D⟩, _⟩ := id hd
  exact ⟨pe_cmpR (op_in_kd D) he.pe (pe_glob hg hm rfl hdb) hb, se_inD hd he.se⟩
theorem t_inD {X : Cx} {B : Bs} {x : Str} {a : Addr} {tt : TT} {zs : List Str} {e : Expr} {te : TE} {de : DE} {p pos : Pos} (hm : X.mg x = some (.ref a)) (hd : KdIn X.w X.K a tt zs) (he : XE X B e te de) (hg : Gl X x := by rfl) (hdb : (x == ("__debug__" : Str)) = false := by decide) (hb : behindInMarks .In (.Name x p) = false := by first | exact nomark _ | rfl) :
    XT X B (.Compare e [.In] [.Name x p] pos) (tB (tOp (rInD X.K a false) te (tC (.ref a)))) (dB (dInD tt zs false de)) := by
  obtain ⟨⟨es, n, D⟩, _⟩ := id hd
  exact ⟨pt_cmpR (op_in_kd D) he.pe (pe_glob hg hm rfl hdb) hb, st_B (se_inD hd he.se)⟩
end DL

set_option Elab.async false
set_option linter.all false
set_option maxRecDepth 100000
set_option maxHeartbeats 2000000
namespace DL
open PySem PySem.Spec PyProof.Rows L2
open Evl (Ex ex_l ex_t)
/-! ### dicts that are lent; what comes back holds no dict that may change -/
mutual
def D.nod : D → Bool
  | .dct _ => false
  | .lst xs => nodAll xs | .tup xs => nodAll xs | .obj _ fs => nodF fs | .ldc kd => nodK kd | .fr d => d.nod
  | _ => true
def nodAll : List D → Bool
  | [] => true
  | x :: xs => x.nod && nodAll xs
def nodF : List (Str × D) → Bool
  | [] => true
  | (_, x) :: xs => x.nod && nodF xs
def nodK : List (Key × D) → Bool
  | [] => true
  | (_, x) :: xs => x.nod && nodK xs
end
theorem nodAll_iff : ∀ {xs : List D}, nodAll xs = true ↔ ∀ x ∈ xs, x.nod = true
  | [] => ⟨fun _ x h => (by cases h), fun _ => rfl⟩
  | x :: xs => by
    show (x.nod && nodAll xs) = true ↔ _
    rw [Bool.and_eq_true, nodAll_iff (xs := xs)]
    exact ⟨fun h y hy => (List.mem_cons.mp hy).elim (fun e => e ▸ h.1) (h.2 y), fun h => ⟨h x List.mem_cons_self, fun y hy => h y (List.mem_cons_of_mem _ hy)⟩⟩
/-- all but dicts that may change stands in F' as in F -/
structure OffD (K : PySem.W.Frag) (F F' : Hp) : Prop where
  l : ∀ a xs, F a = some (.lst xs) → F' a = some (.lst xs)
  i : ∀ a C dx fs, F a = some (.ins C dx fs) → F dx = some (.own a) → F' a = some (.ins C dx fs) ∧ F' dx = some (.own a)
  q : ∀ a vs, SqL K F a vs → SqL K F' a vs
  t : ∀ a vs, SqT K F a vs → SqT K F' a vs
  z : ∀ a o u, F a = some (.frz o u) → F' a = some (.frz o u)
section
variable {K : PySem.W.Frag} {z : Addr → Prop} {F F' : Hp}
mutual
theorem Rp.offD (O : OffD K F F') : ∀ {v : V} {d : D}, Rp ⟨K, z⟩ F v d → d.nod = true → Rp ⟨K, z⟩ F' v d
  | _, _, .non, _ => .non
  | _, _, .bl b, _ => .bl b
  | _, _, .int b, _ => .int b
  | _, _, .str b, _ => .str b
  | _, _, .ref b, _ => .ref b
  | _, _, .ty b, _ => .ty b
  | _, _, .kls b, _ => .kls b
  | _, _, .lst h a, n => .lst (O.l _ _ h) (RpAll.offD O a n)
  | _, _, .scr h, _ => .scr (O.q _ _ h)
  | _, _, .dct h a, n => absurd n (by simp [D.nod])
  | _, _, .ldc h a, n => .ldc (O.z _ _ _ h) (RpKs.offD O a n)
  | _, _, .fr h a, n => .fr h (Rp.offD O a n)
  | _, _, .tup h a, n => .tup (O.t _ _ h) (RpAll.offD O a n)
  | _, _, .obj h1 h2 a, n => .obj (O.i _ _ _ _ h1 h2).1 (O.i _ _ _ _ h1 h2).2 (RpFs.offD O a n)
theorem RpAll.offD (O : OffD K F F') : ∀ {v : List V} {d : List D}, RpAll ⟨K, z⟩ F v d → nodAll d = true → RpAll ⟨K, z⟩ F' v d
  | _, _, .nil, _ => .nil
  | _, _, .cons h t, n => .cons (Rp.offD O h (Bool.and_eq_true_iff.mp n).1) (RpAll.offD O t (Bool.and_eq_true_iff.mp n).2)
theorem RpFs.offD (O : OffD K F F') : ∀ {v : List (Str × V)} {d : List (Str × D)}, RpFs ⟨K, z⟩ F v d → nodF d = true → RpFs ⟨K, z⟩ F' v d
  | _, _, .nil, _ => .nil
  | _, _, .cons h t, n => .cons (Rp.offD O h (Bool.and_eq_true_iff.mp n).1) (RpFs.offD O t (Bool.and_eq_true_iff.mp n).2)
theorem RpKs.offD (O : OffD K F F') : ∀ {v : List (Key × V)} {d : List (Key × D)}, RpKs ⟨K, z⟩ F v d → nodK d = true → RpKs ⟨K, z⟩ F' v d
  | _, _, .nil, _ => .nil
  | _, _, .cons h t, n => .cons (Rp.offD O h (Bool.and_eq_true_iff.mp n).1) (RpKs.offD O t (Bool.and_eq_true_iff.mp n).2)
end
end
/-- owned dicts alone are lent -/
def lentD : List RS → Prop
  | [] => True
  | .val _ :: r => lentD r
  | .own _ (.dct _) :: r => lentD r
  | _ :: _ => False
section
variable {K : PySem.W.Frag} {B : Bs} {F H : Hp} {σ : L2.St} {γ : Env}
theorem Rep.freezeD (R : Rep K B F H σ γ) {i : Nat} {p : Option Nat} {kd : List (Key × D)} (e : look γ i = .own p (.dct kd)) : ∃ a kv, σ[i]? = some (some (.ref a)) ∧ H a = some (.dK kv) ∧ Rep K B (upd F a (.dK kv)) H σ (put γ i (.val (.dct kd))) ∧ Ex F (upd F a (.dK kv)) ∧ Rp (B.kz K) (upd F a (.dK kv)) (.ref a) (.dct kd) := by
  obtain ⟨a, hs, hg, fa, ok⟩ := R.own e
  have R0 : Rep K B F H σ (put γ i .no) := R.told (fun _ _ => trivial) (fun _ _ z => by cases z)
  have na : ∀ (j : Nat) q c', (put γ i .no)[j]? = some (.own q c') → σ[j]? ≠ some (some (.ref a)) := fun j q c' h1 h2 => by
    rcases get_put h1 with ⟨_, z⟩ | ⟨n, z⟩
    · cases z
    · exact n (R.nd j i a q c' p _ z hg h2 hs)
  have b5 := R.b5 i a p _ hg hs
  obtain ⟨kv, h1, h2⟩ := ok
  obtain ⟨R', ex⟩ := R0.freeze h1 fa b5 fun i q c' hg => ⟨na i q c' hg, fun x _ z => by cases z⟩
  have rp : Rp (B.kz K) (upd F a (.dK kv)) (.ref a) (.dct kd) := .dct (.inl upd_same) (h2.mono ex)
  have q := R'.told (i := i) (t := .val (.dct kd)) (fun s hs' => by rw [hs] at hs'; cases hs'; exact ⟨_, rfl, rp⟩) (fun _ _ z => by cases z)
  have pp : put (put γ i .no) i (.val (.dct kd)) = put γ i (.val (.dct kd)) := by rw [put_set, put_set, put_set, List.set_set]
  rw [pp] at q
  exact ⟨a, kv, hs, h1, q, ex, rp⟩
def LentD (K : PySem.W.Frag) (B : Bs) (F : Hp) (σ : L2.St) (γ : Env) (v : V) (r : RS) : Prop := (∃ d, r = .val d ∧ Rp (B.kz K) F v d) ∨ ∃ j kd, r = .own j (.dct kd) ∧ (σ[j]? = some (some v) ∧ (∃ p, look γ j = .own p (.dct kd)) ∨ Rp (B.kz K) F v (.dct kd))
theorem Rep.lendD {B : Bs} {H : Hp} {σ : L2.St} : ∀ {vs : List V} {rs : List RS} {F : Hp} {γ : Env}, Rep K B F H σ γ → Paired (LentD K B F σ γ) vs rs →
    ∃ F', Ex F F' ∧ Ex F' H ∧ RpAll (B.kz K) F' vs (rs.map RS.data) ∧ ∀ b, F' b = F b ∨ ∃ kv, H b = some (.dK kv)
  | _, _, F, γ, R, .nil => ⟨F, Evl.Ex.refl F, R.fh, .nil, fun _ => .inl rfl⟩
  | _, _, F, γ, R, @Paired.cons _ _ _ v r vs rs h t => by
    have step : ∃ F1 γ1, Rep K B F1 H σ γ1 ∧ Ex F F1 ∧ Rp (B.kz K) F1 v r.data ∧ (∀ b, F1 b = F b ∨ ∃ kv, H b = some (.dK kv)) ∧ ∀ j p kd, look γ j = .own p (.dct kd) → look γ1 j = .own p (.dct kd) ∨ ∃ a, σ[j]? = some (some (.ref a)) ∧ Rp (B.kz K) F1 (.ref a) (.dct kd) := by
      rcases h with ⟨d, rfl, h⟩ | ⟨j, kd, rfl, ⟨hs, p, hp⟩ | h⟩
      · exact ⟨F, γ, R, Evl.Ex.refl F, h, fun _ => .inl rfl, fun j p c h => .inl h⟩
      · obtain ⟨a, kv, hs', ha, R1, e1, r1⟩ := R.freezeD hp
        rw [hs] at hs'
        cases hs'
        refine ⟨_, _, R1, e1, r1, fun b => ?_, fun i p' c' hl => ?_⟩
        · by_cases hb : b = a
          · subst hb; exact .inr ⟨kv, ha⟩
          · exact .inl (upd_ne hb)
        · by_cases e : i = j
          · subst e
            rw [hp] at hl
            cases hl
            exact .inr ⟨a, hs, r1⟩
          · refine .inl (look_of ?_)
            have := of_look hl (by intro z; cases z)
            rw [put_set, List.getElem?_set_ne (Ne.symm e)]
            exact this
      · exact ⟨F, γ, R, Evl.Ex.refl F, h, fun _ => .inl rfl, fun j p c h => .inl h⟩
    obtain ⟨F1, γ1, R1, e1, r1, d1, hk⟩ := step
    obtain ⟨F2, e2, e3, r2, d2⟩ := Rep.lendD (vs := vs) (rs := rs) R1 (P_mono (fun v r h => by
      rcases h with ⟨d, rfl, h⟩ | ⟨j, c, rfl, ⟨hs, p, hp⟩ | h⟩
      · exact .inl ⟨d, rfl, h.mono e1⟩
      · rcases hk j p c hp with z | ⟨a, z1, z2⟩
        · exact .inr ⟨j, c, rfl, .inl ⟨hs, p, z⟩⟩
        · rw [hs] at z1
          cases z1
          exact .inr ⟨j, c, rfl, .inr z2⟩
      · exact .inr ⟨j, c, rfl, .inr (h.mono e1)⟩) t)
    refine ⟨F2, e1.trans e2, e3, .cons (r1.mono e2) r2, fun b => ?_⟩
    rcases d2 b with z | z
    · rw [z]; exact d1 b
    · exact .inr z
theorem lentPD : ∀ {vs : List V} {rs : List RS}, Paired (RsOk K B F H σ γ) vs rs → lentD rs → Paired (LentD K B F σ γ) vs rs
  | _, _, .nil, _ => .nil
  | _, .val d :: _, .cons h t, n => .cons (.inl ⟨d, rfl, h⟩) (lentPD t n)
  | _, .own j (.dct kd) :: _, .cons ⟨hs, p, hg⟩ t, n => .cons (.inr ⟨j, kd, rfl, .inl ⟨hs, p, look_of hg⟩⟩) (lentPD t n)
/-- behind a call to which dicts were lent -/
theorem lend_backD {F1 H1 F2 F3 H3 : Hp} (R1 : Rep K B F1 H1 σ γ) (fh : Ex F3 H3) (eH : Ex H1 H3) (s3 : ∀ b o, H1 b = some o → F3 b = F2 b) (s2 : ∀ b, F2 b = F1 b ∨ ∃ kv, H1 b = some (.dK kv)) :
    Rep K B (newF H1 F1 F3) H3 σ γ ∧ Ex F1 (newF H1 F1 F3) ∧ ∀ v d, Rp (B.kz K) F3 v d → d.nod = true → Rp (B.kz K) (newF H1 F1 F3) v d := by
  have eF : Ex F1 (newF H1 F1 F3) := fun a o e => by rw [newF_old (R1.fh a o e)]; exact e
  have same : ∀ a o, F3 a = some o → (∀ kv, o ≠ .dK kv) → newF H1 F1 F3 a = some o := fun a o e n => by
    cases h : H1 a with
    | none => rw [newF_new h]; exact e
    | some o' =>
      rw [newF_old h]
      rcases s2 a with z | ⟨xs, z⟩
      · rw [← z, ← s3 a o' h]; exact e
      · have := fh a o e
        rw [eH a _ z] at this
        cases this
        exact absurd rfl (n xs)
  have O : OffD K F3 (newF H1 F1 F3) := by
    refine ⟨fun a xs e => same a _ e (fun _ z => by cases z), fun a C dx fs e1 e2 => ⟨same a _ e1 (fun _ z => by cases z), same dx _ e2 (fun _ z => by cases z)⟩, fun a vs h => ?_, fun a vs h => ?_, fun a o u e => same a _ e (fun _ z => by cases z)⟩
    · rcases h with (h | ⟨o, h⟩) | h
      · exact .inl (.inl (same a _ h fun _ z => by cases z))
      · exact .inl (.inr ⟨o, same a _ h fun _ z => by cases z⟩)
      · exact .inr h
    · rcases h with (h | ⟨o, h⟩) | h
      · exact .inl (.inl (same a _ h fun _ z => by cases z))
      · exact .inl (.inr ⟨o, same a _ h fun _ z => by cases z⟩)
      · exact .inr h
  refine ⟨R1.later (fun a o e => ?_) eH eF fun b o e => newF_old e, eF, fun v d r n => Rp.offD O r n⟩
  cases h : H1 a with
  | none => rw [newF_new h] at e; exact fh a o e
  | some o' => rw [newF_old h] at e; exact eH a o (R1.fh a o e)
end
/-- what comes back -/
def lendND : RS → (RS → Prop) → Prop
  | .val d, q => d.nod = true ∧ q (.val d)
  | _, _ => False
def dCallND (n : Nat) (fs : FS) (da : DA) (γ : Env) (q : RS → Env → Prop) : Prop := da γ fun rs γ1 => lentD rs ∧ rs.length = n ∧ fs (rs.map fun r => Sx.val r.data) fun r _ => lendND r fun r => q r γ1
section
variable {K : PySem.W.Frag} {B : Bs}
theorem se_callND {n : Nat} {fs : FS} {E : XK} {ta : TA} {da : DA} (h : SA K B ta da) : SE K B (tCall (spOf K n fs) [] E ta) (dCallND n fs da) := fun F H σ γ Q q R hq k => by
  refine h F H σ γ _ _ R hq fun vs F1 H1 γ1 rs R1 e1 o1 ⟨h0, h2, h3⟩ => ?_
  obtain ⟨F2, e2, e3, all, s2⟩ := Rep.lendD R1 (lentPD o1 h0)
  have RE : Rep K (entry F2 H1 [] R1.zn (vs ++ [])) F2 H1 ((vs ++ []).map some) (rs.map fun r => Sx.val r.data) := by
    have none : ∀ {i : Nat} {p : Option Nat} {c : OC}, (rs.map fun r => Sx.val r.data)[i]? ≠ some (.own p c) := fun {i p c} h => by
      rw [List.getElem?_map] at h
      cases q : rs[i]? with
      | none => rw [q] at h; cases h
      | some d => rw [q] at h; cases h
    rw [List.append_nil]
    refine ⟨e3, by rw [List.length_map, List.length_map, P_len o1], fun i s t hs hg => ?_, fun i j a p c q c' h1 => absurd h1 none, fun b o e => ⟨fun _ => e, o, e⟩, Evl.Ex.refl F2, fun b o _ _ => rfl, fun i a p c h1 => absurd h1 none, fun i a p c h1 => absurd h1 none, fun b o e => ⟨o, e⟩, fun a o e => ⟨o, e, .refl o⟩⟩
    rw [List.getElem?_map] at hs hg
    cases q : rs[i]? with
    | none => rw [q] at hg; cases hg
    | some d =>
      rw [q] at hg
      cases hg
      obtain ⟨v, hv, r⟩ := P_get all.p (show (rs.map RS.data)[i]? = some d.data by rw [List.getElem?_map, q]; rfl)
      rw [hv] at hs
      exact ⟨v, (Option.some.inj hs).symm, r⟩
  refine ⟨by rw [List.append_nil, P_len o1]; exact h2, F2, [], _, _, _, RE, h3, fun r as' v F3 H3 hp R3 ok hk => ?_⟩
  have eH : Ex H1 H3 := fun b o e => (R3.b1 b o e).1 (by simp [entry])
  have s3 : ∀ b o, H1 b = some o → F3 b = F2 b := fun b o e => R3.b3 b o e (by simp [entry])
  obtain ⟨R4, e4, c1⟩ := lend_backD R1 R3.fh eH s3 s2
  unfold lendND at hp
  split at hp
  · exact k v _ H3 γ1 (.val _) R4 (e1.trans e4) (c1 _ _ ok hp.1) hp.2
  · exact hp.elim
end
section
variable {X : Cx} {B : Bs} {a : Expr} {es : List Expr} {ta : TA} {da : DA} {k n : Nat} {f : Addr} {fd : FuncData} {ps : List Str} {fs : FS} {x : Str} {p pos : Pos}
theorem x_callND (K : PySem.W.Frag) (hK : X.K = K) (G : FnOk X.prog X.w X.K X.mg X.base CX0 k f fd ps (spOf X.K n fs)) (hr : Room k X.A) (hm : X.mg x = some (.ref f)) (hk : PySem.W.keepIn X.K (.ref f) = true) (hb : Binds X.K fd ps []) (h : XA X B (a :: es) ta da)
    (hg : Gl X x := by rfl) (hdb : (x == ("__debug__" : Str)) = false := by decide) (he : starEach (a :: es) X.env = (false, eval a X.env) :: starEach es X.env := by rfl) (hpl : (backTo pos (starEach es X.env)).any (·.1) = false := by rfl) :
    XE X B (.Call (.Name x p) (a :: es) [] pos) (tCall (spOf K n fs) [] E0 ta) (dCallND n fs da) := by
  subst hK
  exact ⟨pe_call G hr hg hm hk hb .nil pass0 h.pa hdb he hpl, se_callND h.sa⟩
end
end DL

set_option Elab.async false
set_option linter.all false
set_option maxRecDepth 100000
set_option maxHeartbeats 4000000
namespace DL
open PySem PySem.Spec PyProof.Rows L2
open Evl (Ex)
/-! ### list(d) of a dict that may change: its keys -/
def rKeysD : List V → Hp → VK → Prop := fun vs H Q => ∃ (p : Addr) (kv : List (Key × V)), vs = [V.ref p] ∧ Rd H p (.dK kv) ∧ ∀ a, H a = none → Q (.ref a) (upd H a (.lst (kv.map fun e => kV e.1)))
theorem call_keysD {X : Cx} (hc : X.calm = true) : CallR X (.type "list") rKeysD := by
  intro pins s σ H vs us Q I r hyp
  obtain ⟨p, kv, rfl, atp, fin⟩ := hyp
  obtain ⟨u, rfl, ru⟩ := vals1 r
  obtain rfl : u = Value.ref p := ru
  obtain ⟨small, low, vl, rel, dc⟩ := dk_rd I.hok atp
  obtain ⟨ep, place⟩ := dc.dictAt
  have same : kv.length = vl.length := Paired.length rel
  have keys : ∀ j : Nat, (kv.map fun e => kV e.1)[j]? = (vl.map (·.1))[j]?.map kV := fun j => by
    rw [← KV.keys rel, List.getElem?_map, List.getElem?_map, Option.map_map]
    rfl
  refine PySem.W.kdl_call (PySem.W.kdl_dict (kvs := vl) (knd := mixKind X.prog X.w) (ep := ep) low) (I.ok.hd hc) place (by omega) fun h2 t2 arr n2 old new got => ?_
  have size : arr.toList.length = vl.length := by rw [Array.length_toList]; exact got.1
  have rv : Vals (kv.map fun e => kV e.1) arr.toList := by
    refine vals_of_at (by rw [List.length_map, size, same]) fun j x w hx hw => ?_
    rw [keys j] at hx
    obtain ⟨k, y, ky, is⟩ := got.2 j w (by rw [← Array.getElem?_toList]; exact hw)
    rw [List.getElem?_map, ky] at hx
    cases hx
    exact keyIs_rel is
  have laid : ObjOk X.prog X.w (upd H s.heap.objs.size (.lst (kv.map fun e => kV e.1))) h2 s.heap.objs.size (.lst (kv.map fun e => kV e.1)) := ⟨by rw [List.length_map]; exact small, arr.toList, n2, rv, by rw [Array.toArray_toList]; exact new⟩
  exact ⟨.ref s.heap.objs.size, _, I.laid old (Nat.le_refl _) laid, rfl, fin _ (I.hok.fresh (Nat.le_refl _))⟩
def fKeysD : List D → (RS → Prop) → Prop
  | [.dct kd], q => q (.new (.lst (kd.map fun e => kD e.1)))
  | _, _ => False
theorem cd_keysD {K : PySem.W.Frag} : CallD K rKeysD fKeysD := fun B F H σ γ xs ds Q q R rx hf k => by
  unfold fKeysD at hf
  split at hf
  · obtain ⟨x, rfl, r⟩ := one_rs rx
    obtain ⟨a, kv, rfl, ha, ra⟩ := r.dct R.fh
    refine ⟨a, kv, rfl, ha, fun p hp => ?_⟩
    obtain ⟨R', o'⟩ := R.newL hp (keys_rp ra)
    exact k _ F _ _ R' (Evl.Ex.refl F) o' hf
  · exact hf.elim
end DL

/-! The head of a law whose top asks the world's row "special-get-raises": one kernel run for either answer. -/
set_option maxRecDepth 100000
namespace DL
open PySem PySem.W PyProof.Rows
theorem bothW (row : String) {P : World → Prop} (h : ∀ (b : Bool) (w : World), P (w.withFollow row b)) (w : World) : P w := by
  have := h (w.params.followText row) w
  rwa [World.withFollow_self] at this
/-- what is kept of the top's end: the view's tables and the records -/
def hX (r : OpenRow) (q : Program) (s : Shared) : Bool := xlAt q [] s && recOk r.records s
theorem headBy {r : OpenRow} {q : Program} {loose : List PySem.Str} {H : Hook} {d : DefRec} {kwd : List (PySem.Str × PySem.Expr)} {N : Nat}
    (left : LeftO r.prog q loose (hX r q) (Hook.obs H) (Hook.val H) N)
    (hdef : defOf q r.name = some (d, kwd)) (hp : r.prog.theDef r.name = some (d.params, d.body, d.scope)) (hk : kwWritten? d.params.kwonlyargs d.params.kw_defaults = some kwd)
    (hwr : (!r.writes || r.records.isEmpty) = true) (k1 : r.wellSaid = true) (ok : (chainsOk q && opensWell r.prog && (frees r.toRowW && r.within.isEmpty)) = true)
    (hb : r.prog.bare) (hw : r.toRowW.promised) (call : WalkO q loose (XL q []) (Hook.says H) r.toRowW d kwd fun f vs => PySem.call f vs) : r.Holds := by
  refine holds_open left (Hook.of H) (Hook.keeps H) ?_ XL.keeps hdef hp hk ?_ hwr k1 ok hb hw call
  · intro s e; exact xl_of s (Bool.and_eq_true_iff.mp e).1
  · intro s e; exact recFacts_of (Bool.and_eq_true_iff.mp e).2
end DL

set_option Elab.async false
set_option linter.all false
set_option maxRecDepth 100000
set_option maxHeartbeats 4000000
/-! A name bound to a tuple that holds a new list; the list is changed later, then the name is read no more. -/
namespace DL
open PySem PySem.Spec PyProof.Rows L2
open Evl (Ex ex_l ex_t)
/-- data without marks of newness; what is owned is left aside -/
def nofrG : Env → Prop
  | [] => True
  | .val d :: r => d.nofr = true ∧ nofrG r
  | _ :: r => nofrG r
theorem nofrG_get : ∀ {γ : Env} {i : Nat} {d : D}, nofrG γ → γ[i]? = some (.val d) → d.nofr = true
  | .val _ :: _, 0, _, h, e => by cases e; exact h.1
  | .own _ _ :: _, 0, _, _, e => by cases e
  | .no :: _, 0, _, _, e => by cases e
  | .val _ :: γ, i + 1, _, h, e => nofrG_get (γ := γ) (i := i) h.2 e
  | .own _ _ :: γ, i + 1, _, h, e => nofrG_get (γ := γ) (i := i) h e
  | .no :: γ, i + 1, _, h, e => nofrG_get (γ := γ) (i := i) h e
/-- a base drawn here, with its line -/
def lineB (F H : Hp) : Bs := { N := H, pa := fun _ => none, F := F, H := H, m := [], z := fun a => ∃ o, H a = some o, zn := fun _ h => h }
section
variable {K : PySem.W.Frag} {B : Bs} {F H F' H' : Hp} {σ : L2.St} {γ γ' : Env}
theorem Rep.line (R : Rep K B F H σ γ) (n : nofrG γ) : Rep K (lineB F H) F H σ (hide γ) := by
  have no : ∀ {i : Nat} {q : Option Nat} {c : OC}, (hide γ)[i]? ≠ some (.own q c) := fun {i q c} h => (hide_get h).1 q c rfl
  refine ⟨R.fh, by rw [hide_len]; exact R.len, fun i s t hs hg => ?_, fun i j a p c q c' h1 => absurd h1 no, fun b o e => ⟨fun _ => e, o, e⟩, Evl.Ex.refl F, fun b o _ _ => rfl, fun i a p c h1 => absurd h1 no, fun i a p c h1 => absurd h1 no, fun b o e => ⟨o, e⟩, fun a o e => ⟨o, e, .refl o⟩⟩
  cases t with
  | no => trivial
  | own p c => exact absurd hg no
  | val d =>
    rcases (hide_get hg).2 with z | z
    · cases z
    · obtain ⟨v, e, r⟩ := R.sl i s _ hs z
      exact ⟨v, e, Rp.line r (nofrG_get n z)⟩
theorem Rep.lost (R : Rep K B F H σ γ) (i : Nat) (s : Option V) : Rep K B F H (σ.set i s) (put γ i .no) := by
  have key : ∀ {j : Nat} {p : Option Nat} {c : OC} {x : Option V}, (put γ i .no)[j]? = some (.own p c) → (σ.set i s)[j]? = some x → γ[j]? = some (.own p c) ∧ σ[j]? = some x := fun {j p c x} h1 h2 => by
    rcases get_put h1 with ⟨_, z⟩ | ⟨n, z⟩
    · cases z
    · rw [List.getElem?_set_ne (fun e => n e.symm)] at h2
      exact ⟨z, h2⟩
  refine ⟨R.fh, by rw [put_len, List.length_set]; exact R.len, fun j t u hs hg => ?_, fun j k a p c q c' h1 h2 h3 h4 => R.nd j k a p c q c' (key h1 h3).1 (key h2 h4).1 (key h1 h3).2 (key h2 h4).2, R.b1, R.b2, R.b3, fun j a p c h1 h2 => R.b4 j a p c (key h1 h2).1 (key h1 h2).2, fun j a p c h1 h2 => R.b5 j a p c (key h1 h2).1 (key h1 h2).2, R.bN, R.bd⟩
  rcases get_put hg with ⟨_, z⟩ | ⟨n, z⟩
  · subst z; trivial
  · rw [List.getElem?_set_ne (fun e => n e.symm)] at hs
    exact R.sl j t u hs z
theorem Rep.same (R : Rep K (lineB F H) F' H' σ γ) : Ex H H' := fun b o e => (R.b1 b o e).1 (by simp [lineB])
end
/-- statements behind the name i: γ as it stood ahead of it -/
def SL (K : PySem.W.Frag) (i : Nat) (ts : TS) (dl : Env → DEnds → Env → Prop) : Prop := ∀ (B : Bs) (F H F3 H3 : Hp) (σ : L2.St) (γ γ3 : Env) (E : Ends) (d : DEnds) (v : V), Rep K B F H σ γ → Rep K (lineB F H) F3 H3 (σ.set i (some v)) γ3 → dl γ d γ3 → EndsOk K B F E d → ts E (σ.set i (some v)) H3
structure XL (X : Cx) (i : Nat) (st : List Stmt) (ts : TS) (dl : Env → DEnds → Env → Prop) : Prop where
  ps : PSs X st ts
  sl : SL X.K i ts dl
/-- it begins -/
def dScope (i : Nat) (de : DE) (dl : Env → DEnds → Env → Prop) (d : DEnds) (γ : Env) : Prop := nofrG γ ∧ de (hide γ) fun s γ1 => match s with
  | .val x => dl γ d (put γ1 i (.val x))
  | _ => False
/-- if c: return a flat value -/
def dScIf (i : Nat) (dc : DT) (de : DE) (dl : Env → DEnds → Env → Prop) (γ : Env) (d : DEnds) (γ3 : Env) : Prop := dc γ3 fun b γ4 => (b = true → de γ4 fun r _ => ∃ x, r = .val x ∧ flatD x ∧ d.rt (.val x) (put γ i .no)) ∧ (b = false → dl γ d γ4)
/-- o.append(e), o the new list -/
def dScApp (i : Nat) (de : DE) (da : DA) (dr : DS) (γ : Env) (d : DEnds) (γ3 : Env) : Prop := de γ3 fun s γ4 => ∃ ds, s = .val (.fr (.lst ds)) ∧ da γ4 fun rs _ => allV rs ∧ rs.length = 1 ∧ ds.length < 1000000 ∧ dr d (put γ i .no)
theorem flat_one {K K' : KZ} {F F' : Hp} {v : V} {x : D} (r : Rp K F v x) (h : flatD x) : Rp K' F' v x := by
  cases r with
  | non => exact .non
  | bl b => exact .bl b
  | int i => exact .int i
  | str x => exact .str x
  | _ => exact h.elim
section
variable {X : Cx} {B : Bs} {e c o a : Expr} {te to : TE} {de do_ : DE} {tc : L2.TT} {dc : DT} {ta : TA} {da : DA} {st : Stmt} {rest : List Stmt} {tr : TS} {dl : Env → DEnds → Env → Prop} {dr : DS} {i : Nat} {pos p2 p3 p4 : Pos} {es : List Expr}
theorem xl_start (i : Nat) {dx : DS} {x : Str} (he : ∀ B, XE X B e te de) (hs : XS X B (.Assign [.Name x p3] e p4) (tAsg te (gName i)) dx) (hl : XL X i rest tr dl) : XSs X B (.Assign [.Name x p3] e p4 :: rest) (tSeq (tAsg te (gName i)) tr) (dScope i de dl) := ⟨pss_cons hs.ps hl.ps, fun F H σ γ E d R ⟨n, hq⟩ k => by
  refine (he (lineB F H)).se F H σ _ _ _ (R.line n) hq fun v F1 H1 γ1 s R1 e1 o1 h1 => ?_
  cases s with
  | val x => exact hl.sl B F H F1 H1 σ γ _ E d v R (R1.setVal i o1) h1 k
  | own j c => exact h1.elim
  | new c => exact h1.elim⟩
theorem xl_if (hc : ∀ B, XT X B c tc dc) (he : ∀ B, XE X B e te de) (hl : XL X i rest tr dl) : XL X i (.If c [.Return (some e) p2] [] pos :: rest) (tSeq (tIfS tc (tRet te) tNext) tr) (dScIf i dc de dl) := ⟨pss_cons (ps_if (hc (lineB X.H_0 X.H_0)).pt (pss_one (ps_ret (he (lineB X.H_0 X.H_0)).pe)) pss_nil) hl.ps, fun B F H F3 H3 σ γ γ3 E d v R R3 hq k => by
  refine (hc (lineB F H)).st F3 H3 _ γ3 _ _ R3 hq fun b F4 H4 γ4 R4 e4 q => ?_
  cases b with
  | false => exact hl.sl B F H F4 H4 σ γ γ4 E d v R R4 (q.2 rfl) k
  | true =>
    refine (he (lineB F H)).se F4 H4 _ γ4 _ _ R4 (q.1 rfl) fun u F5 H5 γ5 s R5 e5 o5 ⟨x, es, fx, h⟩ => ?_
    subst es
    exact k.rt F H5 _ _ u (.val x) ((R.grow R5.same).lost i (some v)) (Evl.Ex.refl F) (flat_one o5 fx) h⟩
theorem xl_app (ho : ∀ B, XE X B o to do_) (ha : ∀ B, XA X B (a :: es) ta da) (hp : PE X o to → PA X (a :: es) ta → PE X e (tBM X.K "list" rAppend to ta)) (hr : ∀ B, XSs X B rest tr dr) (hs : swapsWith e none pos.line X.env = pure false := by rfl) : XL X i (.Expr e pos :: rest) (tSeq (tDrop (tBM X.K "list" rAppend to ta)) tr) (dScApp i do_ da dr) := ⟨pss_cons (ps_expr (hp (ho (lineB X.H_0 X.H_0)).pe (ha (lineB X.H_0 X.H_0)).pa) hs) (hr (lineB X.H_0 X.H_0)).ps, fun B F H F3 H3 σ γ γ3 E d v R R3 hq k => by
  refine (ho (lineB F H)).se F3 H3 _ γ3 _ _ R3 hq fun u F4 H4 γ4 s R4 e4 o4 ⟨ds, es, h⟩ => ?_
  subst es
  have o4' : Rp ⟨X.K, fun a => ∃ o, H a = some o⟩ F4 u (.fr (.lst ds)) := o4
  cases o4' with
  | fr nz r =>
    cases r with
    | lst hl ra =>
      rename_i a vs
      have ha4 := R4.fh _ _ hl
      refine ⟨Or.inl ⟨rfl, vs, Evl.sq_of ha4⟩, (ha (lineB F H)).sa F4 H4 _ γ4 _ _ R4 h fun xs F5 H5 γ5 rs R5 e5 o5 ⟨h1, h2, h3, h5⟩ => ?_⟩
      have ha5 := R5.fh _ _ (e5 _ _ hl)
      obtain ⟨x, rfl⟩ : ∃ x, xs = [x] := by
        have hl : xs.length = 1 := (P_len o5).trans h2
        match xs, hl with
        | [x], _ => exact ⟨x, rfl⟩
      refine ⟨a, vs, x, rfl, rfl, ha5, Nat.lt_of_lt_of_le (by rw [ra.length]; exact h3) (by decide), ?_⟩
      have na : H a = none := by
        cases e : H a with
        | none => rfl
        | some o => exact absurd ⟨o, e⟩ nz
      have gx : Ex H (upd H5 a (.lst (vs ++ [x]))) := fun b o e => by
        rw [upd_ne (ne_of_none e na)]
        exact R5.same b o e
      exact (hr B).ss F _ _ _ E d ((R.grow gx).lost i _) h5 k⟩
end
/-! marks of newness are taken off -/
def bareT : D → D
  | .fr d => d
  | d => d
def bareD : D → D
  | .tup ds => .tup (ds.map bareT)
  | d => bareT d
theorem rp_bareT {K : KZ} {F : Hp} : ∀ {v : V} {d : D}, Rp K F v d → Rp K F v (bareT d)
  | _, _, .fr _ r => r
  | _, _, .non => .non
  | _, _, .bl b => .bl b
  | _, _, .int b => .int b
  | _, _, .str b => .str b
  | _, _, .ref b => .ref b
  | _, _, .ty b => .ty b
  | _, _, .kls b => .kls b
  | _, _, .lst h a => .lst h a
  | _, _, .scr h => .scr h
  | _, _, .tup h a => .tup h a
  | _, _, .obj h1 h2 a => .obj h1 h2 a
  | _, _, .dct h1 a => .dct h1 a
  | _, _, .ldc h1 a => .ldc h1 a
theorem rpAll_bareT {K : KZ} {F : Hp} : ∀ {vs : List V} {ds : List D}, RpAll K F vs ds → RpAll K F vs (ds.map bareT)
  | _, _, .nil => .nil
  | _, _, .cons h t => .cons (rp_bareT h) (rpAll_bareT t)
theorem rp_bareD {K : KZ} {F : Hp} {v : V} {d : D} (h : Rp K F v d) : Rp K F v (bareD d) := by
  cases h with
  | tup h a => exact .tup h (rpAll_bareT a)
  | fr n r => exact rp_bareT (.fr n r)
  | non => exact .non
  | bl b => exact .bl b
  | int b => exact .int b
  | str b => exact .str b
  | ref b => exact .ref b
  | ty b => exact .ty b
  | kls b => exact .kls b
  | lst h a => exact .lst h a
  | scr h => exact .scr h
  | obj h1 h2 a => exact .obj h1 h2 a
  | dct h1 a => exact .dct h1 a
  | ldc h1 a => exact .ldc h1 a
def dBare (de : DE) (γ : Env) (q : RS → Env → Prop) : Prop := de γ fun s γ1 => match s with
  | .val d => q (.val (bareD d)) γ1
  | _ => False
theorem x_bare {X : Cx} {B : Bs} {e : Expr} {te : TE} {de : DE} (h : XE X B e te de) : XE X B e te (dBare de) := ⟨h.pe, fun F H σ γ Q q R hq k => by
  refine h.se F H σ γ _ _ R hq fun v F1 H1 γ1 s R1 e1 o1 h1 => ?_
  cases s with
  | val d => exact k v F1 H1 γ1 (.val (bareD d)) R1 e1 (rp_bareD o1) h1
  | own j c => exact h1.elim
  | new c => exact h1.elim⟩
/-! t.find(u, i) -/
def mFind3 (a : Str) (as : List D) (q : D → Prop) : Prop := match as with
  | [.str b, .int i] => q (.int (Txt.find3 a b i))
  | _ => False
theorem sm_find3 {K : PySem.W.Frag} : SmD K (fun x xs H Q => ∃ (a b : Str) (i : Int), x = .str a ∧ xs = [.str b, .int i] ∧ Q (.int (Txt.find3 a b i)) H) mFind3 := fun z F H a xs as Q q rx hf k => by
  unfold mFind3 at hf
  split at hf
  · obtain ⟨x, y, rfl, r1, r2⟩ := two_rs rx.p
    cases r1
    cases r2
    exact ⟨a, _, _, rfl, rfl, k _ _ (.int _) hf⟩
  · exact hf.elim
end DL


set_option Elab.async false
set_option linter.all false
set_option maxRecDepth 100000
set_option maxHeartbeats 4000000
namespace K28
open PySem PySem.Spec PyProof.Rows L2 DL
def ltrN (c : Nat) : Bool := decide (97 ≤ c ∧ c ≤ 122)
def dgtN (c : Nat) : Bool := decide (48 ≤ c ∧ c ≤ 57)
def runN (p : Nat → Bool) : List Nat → Nat
  | [] => 0
  | c :: r => if p c = true then runN p r + 1 else 0
def lngN (a : Nat) : List Nat → Bool
  | b :: _ => decide ((a = 60 ∧ b = 62) ∨ (a = 60 ∧ b = 61) ∨ (a = 62 ∧ b = 61))
  | [] => false
/-- the first place of a quote -/
def fqN : List Nat → Option Nat
  | [] => none
  | c :: r => if c = 39 then some 0 else (fqN r).map (· + 1)
/-- the length of the word in front, 0 if there is none -/
def wlN : List Nat → Nat
  | [] => 0
  | c :: r => if c = 40 ∨ c = 41 ∨ c = 44 then 1 else if lngN c r = true then 2 else if c = 60 ∨ c = 61 ∨ c = 62 then 1 else if c = 39 then (match fqN r with | some k => k + 2 | none => 0)
    else if ltrN c = true then runN ltrN (c :: r) else if c = 45 then (if runN dgtN r > 0 then runN dgtN r + 1 else 0) else runN dgtN (c :: r)
inductive TkN : List Nat → List (List Nat) → Bool → Prop
  | sp {l : List Nat} {ws : List (List Nat)} {b : Bool} : TkN l ws b → TkN (32 :: l) ws b
  | fin : TkN [] [] true
  | word {c : Nat} {r : List Nat} {ws : List (List Nat)} {b : Bool} : c ≠ 32 → 0 < wlN (c :: r) → TkN ((c :: r).drop (wlN (c :: r))) ws b → TkN (c :: r) ((c :: r).take (wlN (c :: r)) :: ws) b
  | bad {c : Nat} {r : List Nat} : c ≠ 32 → wlN (c :: r) = 0 → TkN (c :: r) [] false
/-- may c not stand behind w at once -/
def oneN (w : List Nat) (c : Nat) : Bool := match w.getLast? with
  | none => false
  | some z => (ltrN z && ltrN c) || (dgtN z && dgtN c) || (decide (w = [60]) && decide (c = 61 ∨ c = 62)) || (decide (w = [62]) && decide (c = 61))
def AptN (w : List Nat) : List Nat → Prop
  | [] => True
  | c :: _ => oneN w c = false
/-- w is a word wherever it stands apart -/
def WdN (w : List Nat) : Prop := (∃ c r, w = c :: r ∧ c ≠ 32) ∧ ∀ X, AptN w X → wlN (w ++ X) = w.length
def JnN : List Nat → List (List Nat) → List Nat → Prop
  | _, [], l => l = []
  | z, w :: ws, l => ∃ (g : Nat) (m : List Nat), l = List.replicate g 32 ++ w ++ m ∧ (g = 0 → ∀ c r, w = c :: r → oneN z c = false) ∧ JnN w ws m
/-- nothing behind the last word goes on with it -/
def EndN (z : List Nat) (ws : List (List Nat)) (X : List Nat) : Prop := AptN (ws.getLast?.getD z) X
/-- signs of no word -/
def oddN (c : Nat) : Bool := !(ltrN c || dgtN c || decide (c ∈ [32, 39, 40, 41, 44, 45, 60, 61, 62]))
def hd1N (r : List Nat) (c : Nat) : Bool := match r with
  | [] => false
  | d :: _ => decide (d = c)
/-- what the law tells, n the place -/
def szN (n : Nat) : List Nat → Int
  | [] => 0
  | c :: r => if c = 40 ∨ c = 41 ∨ c = 44 ∨ c = 61 then 1 else if c = 60 then (if (hd1N r 61 || hd1N r 62) = true then 2 else 1) else if c = 62 then (if hd1N r 61 = true then 2 else 1)
    else if c = 39 then (match fqN r with | some k => ((n + 1 + k : Nat) : Int) | none => -1) - (n : Int) + 1
    else if c = 45 then (if runN dgtN r > 0 then ((runN dgtN r + 1 : Nat) : Int) else 0) else if runN dgtN (c :: r) > 0 then ((runN dgtN (c :: r) : Nat) : Int) else ((runN ltrN (c :: r) : Nat) : Int)
/-! ### texts -/
theorem at_one {α : Type} {x y : α} {xs : List α} : atI (x :: y :: xs) 1 = some y := atI_nat (j := 1) rfl
theorem at_two {α : Type} {x y z : α} {xs : List α} : atI (x :: y :: z :: xs) 2 = some z := atI_nat (j := 2) rfl
theorem ixN_s1 {n : Nat} : ixN (n + 2) 1 = some 1 := ixN_of (j := 1) (by omega)
theorem set_1 {α : Type} {x y z : α} {xs : List α} : (x :: y :: xs).set 1 z = x :: z :: xs := rfl
def tS (l : List Nat) : Str := ⟨l.toArray⟩
abbrev tsD (ws : List (List Nat)) : List D := ws.map fun w => D.str (tS w)
abbrev strsD (ss : List Str) : List D := ss.map D.str
abbrev intsD (ns : List Int) : List D := ns.map D.int
def inZ (z : Str) (c : Nat) : Bool := decide (c ∈ z.cps.toList)
def cpOk (l : List Nat) : Prop := ∀ c ∈ l, c < 1000
/-- a pool: what is left of a cell, how many cells were taken, the cells -/
structure Pl where
  a : Int
  b : Int
  cs : List Int
def plD (q : Pl) : List D := [.int q.a, .int q.b, .lst (intsD q.cs)]
structure PlOk (q : Pl) : Prop where
  a0 : 0 ≤ q.a
  b0 : 0 ≤ q.b
  c0 : ∀ x ∈ q.cs, 0 ≤ x
  len : q.cs.length ≤ 63
def lettersS : Str := "abcdefghijklmnopqrstuvwxyz"
def strangeS : Str := "!\"#$&*+./:;?\x40[\\]^_`{|}~ABCDEFGHIJKLMNOPQRSTUVWXYZ"
def keysS : List Str := ["from", "join", "on", "where", "and", "or", "not", "in", "group", "tell", "count", "distinct", "least", "greatest", "sum", "order", "down", "first", "at", "inn", "fromm", "price", "oslo", "aa", "zzzzzzzz", "always", "value"]
def signsS : List Str := ["=", "<>", "<", "<=", ">", ">=", "(", ")", ","]
def fs_stretch_end : FS := fun as p => ∃ (l : List Nat) (n : Nat) (z : Str), as = [.val (.str (tS l)), .val (.int (n : Int)), .val (.str z)] ∧ n ≤ l.length ∧ l.length ≤ 10000 ∧ p (.val (.int ((n + runN (inZ z) (l.drop n) : Nat) : Int))) as
def fs_quoted_end : FS := fun as p => ∃ (l : List Nat) (n : Nat), as = [.val (.str (tS l)), .val (.int (n : Int))] ∧ n < l.length ∧ l.length ≤ 10000 ∧ p (.val (.int ((match fqN (l.drop (n + 1)) with | some k => n + k + 2 | none => n : Nat) : Int))) as
def fs_number_end : FS := fun as p => ∃ (l : List Nat) (n c : Nat) (r : List Nat), as = [.val (.str (tS l)), .val (.int (n : Int))] ∧ l.drop n = c :: r ∧ l.length ≤ 10000 ∧ p (.val (.int ((n + (if c = 45 then (if runN dgtN r > 0 then runN dgtN r + 1 else 0) else runN dgtN (c :: r)) : Nat) : Int))) as
def fs_word_end : FS := fun as p => ∃ (l : List Nat) (n : Nat), as = [.val (.str (tS l)), .val (.int (n : Int))] ∧ n < l.length ∧ l.length ≤ 10000 ∧ p (.val (.int ((n + wlN (l.drop n) : Nat) : Int))) as
def fs_split_words : FSX := fun as p x => ∃ (l : List Nat) (ws : List (List Nat)) (b : Bool), as = [.val (.str (tS l))] ∧ TkN l ws b ∧ l.length ≤ 10000 ∧ (b = true → p (.new (.lst (tsD ws))) as) ∧ (b = false → x 1 (some [("at", .int (ws.length : Nat))]) as)
def fs_l_digit : FS := fun as p => ∃ (q : Pl) (m : Int), as = [.own (some 0) (.lst (plD q)), .val (.int m)] ∧ PlOk q ∧ 0 < m ∧ m < 2 ^ 40 ∧
  ∀ (d : Nat) q', (d : Int) < m → PlOk q' → p (.val (.int (d : Int))) [.own (some 0) (.lst (plD q')), .val (.int m)]
def fs_l_letters : FS := fun as p => as = [] ∧ p (.val (.str lettersS)) as
def fs_l_strange : FS := fun as p => as = [] ∧ p (.val (.str strangeS)) as
def fs_l_keys : FS := fun as p => as = [] ∧ p (.new (.lst (strsD keysS))) as
def fs_l_signs : FS := fun as p => as = [] ∧ p (.new (.lst (strsD signsS))) as
def fs_l_drawn : FS := fun as p => ∃ (q : Pl) (z : Str) (n : Nat), as = [.own (some 0) (.lst (plD q)), .val (.str z), .val (.int (n : Int))] ∧ PlOk q ∧ 0 < z.length ∧ z.length ≤ 1000 ∧ n ≤ 12 ∧
  ∀ (w : List Nat) q', w.length = n → (∀ c ∈ w, inZ z c = true) → PlOk q' → p (.val (.str (tS w))) [.own (some 0) (.lst (plD q')), .val (.str z), .val (.int (n : Int))]
/-- a word that the law draws -/
structure GW (w : List Nat) : Prop where
  wd : WdN w
  len : w.length ≤ 14
  cp : cpOk w
def fs_l_word : FS := fun as p => ∃ q : Pl, as = [.own (some 0) (.lst (plD q))] ∧ PlOk q ∧ ∀ (w : List Nat) q', GW w → PlOk q' → p (.val (.str (tS w))) [.own (some 0) (.lst (plD q'))]
def fs_l_one : FS := fun as p => ∃ (z w : List Nat) (c : Nat) (r : List Nat), as = [.val (.str (tS z)), .val (.str (tS w))] ∧ w = c :: r ∧ z.length ≤ 1000 ∧ w.length ≤ 1000 ∧ p (.val (.bl (oneN z c))) as
def fs_l_join : FS := fun as p => ∃ (q : Pl) (ws : List (List Nat)), as = [.own (some 0) (.lst (plD q)), .val (.lst (tsD ws))] ∧ PlOk q ∧ (∀ w ∈ ws, GW w) ∧ ws.length ≤ 60 ∧
  ∀ (l : List Nat) q', JnN [] ws l → l.length ≤ 16 * ws.length → PlOk q' → p (.val (.str (tS l))) [.own (some 0) (.lst (plD q')), .val (.lst (tsD ws))]
def fs_l_spoilt : FS := fun as p => ∃ (q : Pl) (ws : List (List Nat)) (n : Nat) (m : Int), as = [.own (some 0) (.lst (plD q)), .val (.lst (tsD ws)), .val (.int (n : Int)), .val (.int m)] ∧ PlOk q ∧ (∀ w ∈ ws, GW w) ∧ ws.length ≤ 60 ∧ n ≤ ws.length ∧ 3 ≤ m ∧ m ≤ 5 ∧
  ∀ (l : List Nat) q', TkN l (ws.take n) false → l.length ≤ 3000 → PlOk q' → p (.val (.str (tS l))) [.own (some 0) (.lst (plD q')), .val (.lst (tsD ws)), .val (.int (n : Int)), .val (.int m)]
def fs_l_raw : FS := fun as p => ∃ q : Pl, as = [.own (some 0) (.lst (plD q))] ∧ PlOk q ∧ ∀ (l : List Nat) q', l.length ≤ 41 → cpOk l → PlOk q' → p (.val (.str (tS l))) [.own (some 0) (.lst (plD q'))]
def fs_l_stretch : FS := fun as p => ∃ (l : List Nat) (n : Nat) (z : Str), as = [.val (.str (tS l)), .val (.int (n : Int)), .val (.str z)] ∧ n ≤ l.length ∧ l.length ≤ 10000 ∧ p (.val (.int ((runN (inZ z) (l.drop n) : Nat) : Int))) as
def fs_l_size : FS := fun as p => ∃ (l : List Nat) (n : Nat), as = [.val (.str (tS l)), .val (.int (n : Int))] ∧ n < l.length ∧ l.length ≤ 10000 ∧ p (.val (.int (szN n (l.drop n)))) as
/-- what is due -/
def resD (b : Bool) (ws : List (List Nat)) : D := if b = true then .tup [.str "words", .lst (tsD ws)] else .tup [.str "unread", .int (ws.length : Nat)]
/-- the same, the list new -/
def resF (b : Bool) (ws : List (List Nat)) : D := if b = true then .tup [.str "words", .fr (.lst (tsD ws))] else .tup [.str "unread", .int (ws.length : Nat)]
theorem resD_t {ws : List (List Nat)} : resD true ws = .tup [.str "words", .lst (tsD ws)] := rfl
theorem resD_f {ws : List (List Nat)} : resD false ws = .tup [.str "unread", .int (ws.length : Nat)] := rfl
theorem resF_t {ws : List (List Nat)} : resF true ws = .tup [.str "words", .fr (.lst (tsD ws))] := rfl
theorem resF_f {ws : List (List Nat)} : resF false ws = .tup [.str "unread", .int (ws.length : Nat)] := rfl
def fs_l_divided : FS := fun as p => ∃ (l : List Nat) (ws : List (List Nat)) (b : Bool), as = [.val (.str (tS l))] ∧ TkN l ws b ∧ l.length ≤ 10000 ∧ p (.val (resD b ws)) as
def fs_l_told : FS := fun as p => ∃ (l : List Nat) (ws : List (List Nat)) (b : Bool), as = [.val (.str (tS l))] ∧ TkN l ws b ∧ l.length ≤ 10000 ∧ p (.val (resF b ws)) as
def fs_l_alone : FS := fun as p => ∃ (l : List Nat) (ws : List (List Nat)), as = [.val (.str (tS l))] ∧ TkN l ws false ∧ l.length ≤ 10000 ∧ p (.val (.bl true)) as
def fs_l_right : FS := fun as p => ∃ (ws : List (List Nat)) (b : Bool), as = [.val (resD b ws), .val (resD b ws)] ∧ (∀ w ∈ ws, cpOk w) ∧ p (.val (.bl true)) as
abbrev fs_law : FS := fsLaw
/-! printed by gen.py: what each def does, on data -/
/-! error classes: 0 ColonnadeError, 1 Unread, 2 TooMany -/
def exKit_1 (t : Nat) : Option Bool := match t with
  | 0 => some true
  | 1 => some true
  | 2 => some false
  | _ => none
def exKit_2 (t : Nat) : Option Bool := match t with
  | 0 => some true
  | 1 => some false
  | 2 => some true
  | _ => none
def exKit (n t : Nat) : Option Bool := match n with
  | 1 => exKit_1 t
  | 2 => exKit_2 t
  | _ => none
def exRd (n : Nat) (f : Str) : Bool := match n with
  | 1 => decide (f = "at")
  | 2 => decide (f = "part")
  | _ => false
def exSub_0 (n : Nat) : Option Bool := exKit n 0
def exSub_1 (n : Nat) : Option Bool := exKit n 1
def exSub_2 (n : Nat) : Option Bool := exKit n 2
/-- slots: 0 text, 1 at, 2 characters -/
def ds_stretch_end : DS := (dSeq (dWhile (dAnd (dB (d2 fLt (dVar 1) (dCB fLenS (dCons (dVar 0) dNil)))) (dB (d2 (fInC false) (d2 fIxS (dVar 0) (dVar 1)) (dVar 2)))) (dAug 1 (fun i j => i + j) (dC (.int (1)))))
  (dRet (dVarM 1)))
/-- slots: 0 text, 1 at, 2 close -/
def ds_quoted_end : DS := (dSeq (dAsg 2 (dSm mFind3 (dVar 0) (dCons (dC (.str "'")) (dCons (d2 fAdd (dVar 1) (dC (.int (1)))) dNil))))
  (dRet (dIfE (dB (d2 fLt (dVar 2) (dC (.int (0))))) (dVarV 1) (d2 fAdd (dVar 2) (dC (.int (1)))))))
/-- slots: 0 text, 1 at, 2 start, 3 end -/
def ds_number_end : DS := (dSeq (dAsg 2 (dIfE (dB (d2 fEq (d2 fIxS (dVar 0) (dVar 1)) (dC (.str "-")))) (d2 fAdd (dVar 1) (dC (.int (1)))) (dVarV 1)))
  (dSeq (dAsg 3 (dCall 3 fs_stretch_end [] (dCons (dVarV 0) (dCons (dVarV 2) (dCons (dC (.str "0123456789")) dNil)))))
  (dRet (dIfE (dB (d2 fGt (dVar 3) (dVar 2))) (dVarV 3) (dVarV 1)))))
/-- slots: 0 text, 1 at -/
def ds_word_end : DS := (dSeq (dIf (dB (d2 (fInC false) (d2 fIxS (dVar 0) (dVar 1)) (dC (.str "(),")))) (dRet (d2 fAdd (dVar 1) (dC (.int (1))))) dNext)
  (dSeq (dIf (dB (d2 (fInQ false) (dSl fSlS (dVar 0) (dPart (dVar 1)) (dPart (d2 fAdd (dVar 1) (dC (.int (2)))))) (dC (.tup [.str "<>", .str "<=", .str ">="])))) (dRet (d2 fAdd (dVar 1) (dC (.int (2))))) dNext)
  (dSeq (dIf (dB (d2 (fInQ false) (d2 fIxS (dVar 0) (dVar 1)) (dC (.tup [.str "=", .str "<>", .str "<", .str "<=", .str ">", .str ">="])))) (dRet (d2 fAdd (dVar 1) (dC (.int (1))))) dNext)
  (dSeq (dIf (dB (d2 fEq (d2 fIxS (dVar 0) (dVar 1)) (dC (.str "'")))) (dRet (dCall 2 fs_quoted_end [] (dCons (dVarV 0) (dCons (dVarV 1) dNil)))) dNext)
  (dSeq (dIf (dB (d2 (fInC false) (d2 fIxS (dVar 0) (dVar 1)) (dC (.str "abcdefghijklmnopqrstuvwxyz")))) (dRet (dCall 3 fs_stretch_end [] (dCons (dVarV 0) (dCons (dVarV 1) (dCons (dC (.str "abcdefghijklmnopqrstuvwxyz")) dNil))))) dNext)
  (dRet (dCall 2 fs_number_end [] (dCons (dVarV 0) (dCons (dVarV 1) dNil)))))))))
/-- slots: 0 text, 1 words, 2 at, 3 end -/
def ds_split_words (xc : DX) : DS := (dSeq (dAsg 1 (dLst dNil))
  (dSeq (dAsg 2 (dCall 3 fs_stretch_end [] (dCons (dVarV 0) (dCons (dC (.int (0))) (dCons (dC (.str " ")) dNil)))))
  (dSeq (dWhile (dB (d2 fLt (dVar 2) (dCB fLenS (dCons (dVar 0) dNil)))) (dSeq (dAsg 3 (dCall 2 fs_word_end [] (dCons (dVarV 0) (dCons (dVarV 2) dNil))))
  (dSeq (dIf (dB (d2 fEq (dVar 3) (dVar 2))) (dRaise1 xc 1 "at" (dCons (dCB fLen (dCons (dVar 1) dNil)) dNil)) dNext)
  (dSeq (dDrop (dMut 1 mApp (dCons (dSl fSlS (dVar 0) (dPart (dVar 2)) (dPart (dVar 3))) dNil)))
  (dAsg 2 (dCall 3 fs_stretch_end [] (dCons (dVarV 0) (dCons (dVarV 3) (dCons (dC (.str " ")) dNil)))))))))
  (dRet (dVarM 1)))))
/-- slots: 0 _law_pool, 1 _law_many, 2 _law_cells, 3 _law_digit_here, 4 _law_lap -/
def ds_l_digit : DS := (dSeq (dAsg 2 (d2 fIxL (dVar 0) (dC (.int (2)))))
  (dSeq (dIf (dAnd (dB (d2 fEqD (d2 fIxL (dVar 0) (dC (.int (0)))) (dC (.int (0))))) (dB (d2 fNeD (dVar 2) (dLst dNil)))) (dSeq (dAsg 4 (d2 fDivW (d2 fIxL (dVar 0) (dC (.int (1)))) (dCB fLen (dCons (dVar 2) dNil))))
  (dSeq (dSetI 0 (d2 fAdd (d2 fIxQ (dVar 2) (d2 fMod (dCB fInt (dCons (d2 fIxL (dVar 0) (dC (.int (1)))) dNil)) (dCB fLen (dCons (dVar 2) dNil)))) (dVar 4)) (dC (.int (0))))
  (dSetI 0 (d2 fAdd (d2 fIxL (dVar 0) (dC (.int (1)))) (dC (.int (1)))) (dC (.int (1)))))) dNext)
  (dSeq (dAsg 3 (d2 fMod (dCB fInt (dCons (d2 fIxL (dVar 0) (dC (.int (0)))) dNil)) (dVar 1)))
  (dSeq (dSetI 0 (d2 fDivW (d2 fIxL (dVar 0) (dC (.int (0)))) (dVar 1)) (dC (.int (0))))
  (dRet (dVarM 3))))))
/-- slots:  -/
def ds_l_letters : DS := (dRet (dC (.str "abcdefghijklmnopqrstuvwxyz")))
/-- slots:  -/
def ds_l_strange : DS := (dRet (dC (.str "!\"#$&*+./:;?\x40[\\]^_`{|}~ABCDEFGHIJKLMNOPQRSTUVWXYZ")))
/-- slots: 0 _law_words -/
def ds_l_keys : DS := (dSeq (dAsg 0 (dLst (dCons (dC (.str "from")) (dCons (dC (.str "join")) (dCons (dC (.str "on")) (dCons (dC (.str "where")) (dCons (dC (.str "and")) (dCons (dC (.str "or")) (dCons (dC (.str "not")) (dCons (dC (.str "in")) (dCons (dC (.str "group")) (dCons (dC (.str "tell")) (dCons (dC (.str "count")) dNil)))))))))))))
  (dSeq (dAsg 0 (d2 fCat (dVar 0) (dLst (dCons (dC (.str "distinct")) (dCons (dC (.str "least")) (dCons (dC (.str "greatest")) (dCons (dC (.str "sum")) (dCons (dC (.str "order")) (dCons (dC (.str "down")) (dCons (dC (.str "first")) (dCons (dC (.str "at")) (dCons (dC (.str "inn")) dNil))))))))))))
  (dRet (d2 fCat (dVar 0) (dLst (dCons (dC (.str "fromm")) (dCons (dC (.str "price")) (dCons (dC (.str "oslo")) (dCons (dC (.str "aa")) (dCons (dC (.str "zzzzzzzz")) (dCons (dC (.str "always")) (dCons (dC (.str "value")) dNil))))))))))))
/-- slots:  -/
def ds_l_signs : DS := (dRet (dLst (dCons (dC (.str "=")) (dCons (dC (.str "<>")) (dCons (dC (.str "<")) (dCons (dC (.str "<=")) (dCons (dC (.str ">")) (dCons (dC (.str ">=")) (dCons (dC (.str "(")) (dCons (dC (.str ")")) (dCons (dC (.str ",")) dNil)))))))))))
/-- slots: 0 _law_pool, 1 _law_signs_here, 2 _law_size_here, 3 _law_many, 4 _law_k -/
def ds_l_drawn : DS := (dSeq (dAsg 3 (dCB fLenS (dCons (dVar 1) dNil)))
  (dRet (dJoin (dC (.str "")) (dLc (dIR1 (dCons (dVarV 2) dNil)) (gN 4) dYes (d2 fIxS (dVar 1) (dCall 2 fs_l_digit [] (dCons (dVar 0) (dCons (dVarV 3) dNil)))) [4]))))
/-- slots: 0 _law_pool, 1 _law_kind, 2 _law_signs_here, 3 _law_size_here, 4 _law_words -/
def ds_l_word : DS := (dSeq (dAsg 1 (dCall 2 fs_l_digit [] (dCons (dVar 0) (dCons (dC (.int (8))) dNil))))
  (dSeq (dIf (dB (d2 fLt (dVar 1) (dC (.int (2))))) (dSeq (dAsg 4 (dCall 0 fs_l_keys [] dNil))
  (dRet (d2 fIxL (dVar 4) (dCall 2 fs_l_digit [] (dCons (dVar 0) (dCons (dCB fLen (dCons (dVar 4) dNil)) dNil)))))) dNext)
  (dSeq (dIf (dB (d2 fEq (dVar 1) (dC (.int (2))))) (dRet (dCall 3 fs_l_drawn [] (dCons (dVar 0) (dCons (dCall 0 fs_l_letters [] dNil) (dCons (d2 fAdd (dC (.int (1))) (dCall 2 fs_l_digit [] (dCons (dVar 0) (dCons (dC (.int (12))) dNil)))) dNil))))) dNext)
  (dSeq (dIf (dB (d2 fEq (dVar 1) (dC (.int (3))))) (dRet (dCall 3 fs_l_drawn [] (dCons (dVar 0) (dCons (dC (.str "0123456789")) (dCons (d2 fAdd (dC (.int (1))) (dCall 2 fs_l_digit [] (dCons (dVar 0) (dCons (dC (.int (12))) dNil)))) dNil))))) dNext)
  (dSeq (dIf (dB (d2 fEq (dVar 1) (dC (.int (4))))) (dRet (d2 fAddS (dC (.str "-")) (dCall 3 fs_l_drawn [] (dCons (dVar 0) (dCons (dC (.str "0123456789")) (dCons (d2 fAdd (dC (.int (1))) (dCall 2 fs_l_digit [] (dCons (dVar 0) (dCons (dC (.int (12))) dNil)))) dNil)))))) dNext)
  (dSeq (dIf (dB (d2 fLt (dVar 1) (dC (.int (7))))) (dRet (d2 fIxL (dCall 0 fs_l_signs [] dNil) (dCall 2 fs_l_digit [] (dCons (dVar 0) (dCons (dC (.int (9))) dNil))))) dNext)
  (dSeq (dAsg 2 (d2 fAddS (d2 fAddS (dCall 0 fs_l_letters [] dNil) (dC (.str " 0123456789(),<>=-"))) (dCall 0 fs_l_strange [] dNil)))
  (dSeq (dAsg 3 (d2 fIxL (dLst (dCons (dC (.int (3))) (dCons (dC (.int (0))) (dCons (dC (.int (1))) (dCons (dC (.int (2))) (dCons (dC (.int (4))) (dCons (dC (.int (5))) (dCons (dC (.int (6))) (dCons (dC (.int (7))) (dCons (dC (.int (8))) dNil)))))))))) (dCall 2 fs_l_digit [] (dCons (dVar 0) (dCons (dC (.int (9))) dNil)))))
  (dRet (d2 fAddS (d2 fAddS (dC (.str "'")) (dCall 3 fs_l_drawn [] (dCons (dVar 0) (dCons (dVarV 2) (dCons (dVarV 3) dNil))))) (dC (.str "'"))))))))))))
/-- slots: 0 _law_last, 1 _law_word_here, 2 _law_letters_here, 3 _law_figures -/
def ds_l_one : DS := (dSeq (dAsg 2 (dCall 0 fs_l_letters [] dNil))
  (dSeq (dAsg 3 (dC (.str "0123456789")))
  (dSeq (dIf (dB (d2 fEq (dVar 0) (dC (.str "")))) (dRet (dC (.bl false))) dNext)
  (dSeq (dIf (dAnd (dB (d2 (fInC false) (d2 fIxS (dVar 0) (d1 fNeg (dC (.int (1))))) (dVar 2))) (dB (d2 (fInC false) (d2 fIxS (dVar 1) (dC (.int (0)))) (dVar 2)))) (dRet (dC (.bl true))) dNext)
  (dSeq (dIf (dAnd (dB (d2 (fInC false) (d2 fIxS (dVar 0) (d1 fNeg (dC (.int (1))))) (dVar 3))) (dB (d2 (fInC false) (d2 fIxS (dVar 1) (dC (.int (0)))) (dVar 3)))) (dRet (dC (.bl true))) dNext)
  (dSeq (dIf (dB (d2 fEq (dVar 0) (dC (.str "<")))) (dRet (d2 (fInC false) (d2 fIxS (dVar 1) (dC (.int (0)))) (dC (.str "=>")))) dNext)
  (dRet (dAndV (d2 fEq (dVar 0) (dC (.str ">"))) (d2 fEq (d2 fIxS (dVar 1) (dC (.int (0)))) (dC (.str "=")))))))))))
/-- slots: 0 _law_pool, 1 _law_words, 2 _law_text, 3 _law_last, 4 _law_word_here, 5 _law_gap -/
def ds_l_join : DS := (dSeq (dAsg 2 (dC (.str "")))
  (dSeq (dAsg 3 (dC (.str "")))
  (dSeq (dFor (dIL (dVarV 1)) (gN 4) (dSeq (dAsg 5 (dCall 2 fs_l_digit [] (dCons (dVar 0) (dCons (dC (.int (3))) dNil))))
  (dSeq (dIf (dAnd (dB (d2 fEq (dVar 5) (dC (.int (0))))) (dB (dCall 2 fs_l_one [] (dCons (dVarV 3) (dCons (dVarV 4) dNil))))) (dAsg 5 (dC (.int (1)))) dNext)
  (dSeq (dAsg 2 (d2 fAddS (d2 fAddS (dVar 2) (d2 fMulS (dC (.str " ")) (dVar 5))) (dVar 4)))
  (dAsg 3 (dVarV 4))))))
  (dRet (dVarM 2)))))
/-- slots: 0 _law_pool, 1 _law_words, 2 _law_at, 3 _law_mode, 4 _law_front, 5 _law_rest, 6 _law_back, 7 _law_word_here -/
def ds_l_spoilt : DS := (dSeq (dAsg 4 (d2 fAddS (dCall 2 fs_l_join [] (dCons (dVar 0) (dCons (dSl fSlL (dVar 1) dNo (dPart (dVar 2))) dNil))) (d2 fMulS (dC (.str " ")) (dCall 2 fs_l_digit [] (dCons (dVar 0) (dCons (dC (.int (2))) dNil))))))
  (dSeq (dAsg 5 (dSl fSlL (dVar 1) (dPart (dVar 2)) dNo))
  (dSeq (dIf (dB (d2 fEq (dVar 3) (dC (.int (5))))) (dAsg 5 (dLc (dIL (dVarV 5)) (gN 7) (dB (d2 (fInC true) (dC (.str "'")) (dVar 7))) (dVarV 7) [7])) dNext)
  (dSeq (dAsg 6 (dCall 2 fs_l_join [] (dCons (dVar 0) (dCons (dVarV 5) dNil))))
  (dSeq (dIf (dB (d2 fEq (dVar 3) (dC (.int (3))))) (dRet (d2 fAddS (d2 fAddS (dVar 4) (dCall 3 fs_l_drawn [] (dCons (dVar 0) (dCons (dCall 0 fs_l_strange [] dNil) (dCons (dC (.int (1))) dNil))))) (dVar 6))) dNext)
  (dSeq (dIf (dB (d2 fEq (dVar 3) (dC (.int (5))))) (dRet (d2 fAddS (d2 fAddS (dVar 4) (dC (.str "'"))) (dVar 6))) dNext)
  (dSeq (dIf (dAnd (dB (d2 fNe (dVar 6) (dC (.str "")))) (dB (d2 (fInC false) (d2 fIxS (dVar 6) (dC (.int (0)))) (dC (.str "0123456789"))))) (dAsg 6 (d2 fAddS (dC (.str " ")) (dVar 6))) dNext)
  (dRet (d2 fAddS (d2 fAddS (dVar 4) (dC (.str "-"))) (dVar 6))))))))))
/-- slots: 0 _law_pool, 1 _law_signs_here, 2 _law_text, 3 _law_k, 4 _law_size_here -/
def ds_l_raw : DS := (dSeq (dAsg 1 (d2 fAddS (d2 fAddS (d2 fAddS (dC (.str "ab z0'1<>=-(),(<>= -9'")) (dCall 0 fs_l_letters [] dNil)) (dC (.str "23456780"))) (dCall 0 fs_l_strange [] dNil)))
  (dSeq (dAsg 2 (dC (.str "")))
  (dSeq (dFor (dIR1 (dCons (dCall 2 fs_l_digit [] (dCons (dVar 0) (dCons (dC (.int (41))) dNil))) dNil)) (gN 3) (dSeq (dAsg 4 (d2 fIxL (dLst (dCons (dC (.int (22))) (dCons (dC (.int (22))) (dCons (dC (.int (56))) (dCons (dCB fLenS (dCons (dVar 1) dNil)) dNil))))) (dCall 2 fs_l_digit [] (dCons (dVar 0) (dCons (dC (.int (4))) dNil)))))
  (dAsg 2 (d2 fAddS (dVar 2) (d2 fIxS (dVar 1) (dCall 2 fs_l_digit [] (dCons (dVar 0) (dCons (dVarV 4) dNil))))))))
  (dRet (dVarM 2)))))
/-- slots: 0 _law_text, 1 _law_at, 2 _law_signs_here, 3 _law_size_here, 4 _law_sign -/
def ds_l_stretch : DS := (dSeq (dAsg 3 (dC (.int (0))))
  (dSeq (dFor (dIS (dSl fSlS (dVar 0) (dPart (dVar 1)) dNo)) (gN 4) (dSeq (dIf (dB (d2 (fInC true) (dVar 4) (dVar 2))) (dRet (dVarM 3)) dNext)
  (dAsg 3 (d2 fAdd (dVar 3) (dC (.int (1)))))))
  (dRet (dVarM 3))))
/-- slots: 0 _law_text, 1 _law_at, 2 _law_sign, 3 _law_after, 4 _law_size_here -/
def ds_l_size : DS := (dSeq (dAsg 2 (d2 fIxS (dVar 0) (dVar 1)))
  (dSeq (dAsg 3 (dSl fSlS (dVar 0) (dPart (d2 fAdd (dVar 1) (dC (.int (1))))) (dPart (d2 fAdd (dVar 1) (dC (.int (2)))))))
  (dSeq (dIf (dB (d2 (fInC false) (dVar 2) (dC (.str "(),=")))) (dRet (dC (.int (1)))) dNext)
  (dSeq (dIf (dB (d2 fEq (dVar 2) (dC (.str "<")))) (dRet (dIfE (dB (d2 (fInQ false) (dVar 3) (dLst (dCons (dC (.str "=")) (dCons (dC (.str ">")) dNil))))) (dC (.int (2))) (dC (.int (1))))) dNext)
  (dSeq (dIf (dB (d2 fEq (dVar 2) (dC (.str ">")))) (dRet (dIfE (dB (d2 fEq (dVar 3) (dC (.str "=")))) (dC (.int (2))) (dC (.int (1))))) dNext)
  (dSeq (dIf (dB (d2 fEq (dVar 2) (dC (.str "'")))) (dRet (d2 fAdd (d2 fSub (dSm mFind3 (dVar 0) (dCons (dC (.str "'")) (dCons (d2 fAdd (dVar 1) (dC (.int (1)))) dNil))) (dVar 1)) (dC (.int (1))))) dNext)
  (dSeq (dIf (dB (d2 fEq (dVar 2) (dC (.str "-")))) (dSeq (dAsg 4 (dCall 3 fs_l_stretch [] (dCons (dVarV 0) (dCons (d2 fAdd (dVar 1) (dC (.int (1)))) (dCons (dC (.str "0123456789")) dNil)))))
  (dRet (dIfE (dB (d2 fGt (dVar 4) (dC (.int (0))))) (d2 fAdd (dVar 4) (dC (.int (1)))) (dC (.int (0)))))) dNext)
  (dSeq (dAsg 4 (dCall 3 fs_l_stretch [] (dCons (dVarV 0) (dCons (dVarV 1) (dCons (dC (.str "0123456789")) dNil)))))
  (dSeq (dIf (dB (d2 fGt (dVar 4) (dC (.int (0))))) (dRet (dVarM 4)) dNext)
  (dRet (dCall 3 fs_l_stretch [] (dCons (dVarV 0) (dCons (dVarV 1) (dCons (dCall 0 fs_l_letters [] dNil) dNil))))))))))))))
/-- slots: 0 _law_text, 1 _law_words, 2 _law_skip, 3 _law_at, 4 _law_size_here -/
def ds_l_divided : DS := (dSeq (dAsg 1 (dLst dNil))
  (dSeq (dAsg 2 (dC (.int (0))))
  (dSeq (dFor (dIR1 (dCons (dCB fLenS (dCons (dVar 0) dNil)) dNil)) (gN 3) (dIf (dB (d2 fGt (dVar 2) (dC (.int (0))))) (dAsg 2 (d2 fSub (dVar 2) (dC (.int (1))))) (dIf (dB (d2 fNe (d2 fIxS (dVar 0) (dVar 3)) (dC (.str " ")))) (dSeq (dAsg 4 (dCall 2 fs_l_size [] (dCons (dVarV 0) (dCons (dVarV 3) dNil))))
  (dSeq (dIf (dB (d2 fLt (dVar 4) (dC (.int (1))))) (dRet (dTup (dCons (dC (.str "unread")) (dCons (dCB fLen (dCons (dVar 1) dNil)) dNil)))) dNext)
  (dSeq (dDrop (dMut 1 mApp (dCons (dSl fSlS (dVar 0) (dPart (dVar 3)) (dPart (d2 fAdd (dVar 3) (dVar 4)))) dNil)))
  (dAsg 2 (d2 fSub (dVar 4) (dC (.int (1)))))))) dNext)))
  (dRet (dTup (dCons (dC (.str "words")) (dCons (dVarV 1) dNil)))))))
/-- slots: 0 _law_text, 1 e -/
def ds_l_told : DS := (dTryAs exSub_1 1 (fun xc => (dRet (dTup (dCons (dC (.str "words")) (dCons (dFr (dCallX xc 1 fs_split_words [] (dCons (dVarV 0) dNil))) dNil))))) (fun a nm fs => (dRet (dTup (dCons (dC (.str "unread")) (dCons (dXf exRd 1 a nm fs "at") dNil))))) (fun _ _ _ => False))
/-- slots: 0 _law_text, 1 e -/
def ds_l_alone : DS := (dSeq (dTryAs exSub_0 1 (fun xc => (dDrop (dCallX xc 1 fs_split_words [] (dCons (dVarV 0) dNil)))) (fun a nm fs => (dRet (dAndV (dIsE exKit 1 a nm 1) (dAndV (dNotV (dIsE exKit 1 a nm 2)) (dIsEV exKit 1 a nm))))) (fun _ _ _ => False))
  (dRet (dC (.bl false))))
/-- slots: 0 _law_told_here, 1 _law_due -/
def ds_l_right : DS := (dSeq (dIf (dAnd (dB (d2 fEq (d2 fIxT (dVar 0) (dC (.int (0)))) (dC (.str "unread")))) (dNot (dB (dCB fIsi (dCons (d2 fIxT (dVar 0) (dC (.int (1)))) (dCons (dC (.ty "int")) dNil)))))) (dRet (dC (.bl false))) dNext)
  (dRet (dAndV (dNotV (dCB fIsi (dCons (d2 fIxT (dVar 0) (dC (.int (1)))) (dCons (dC (.ty "bool")) dNil)))) (d2 fEqD (dVar 0) (dVar 1)))))
/-- slots: 0 _law_script, 1 _law_pool, 2 _law_mode, 3 _law_many, 4 _law_words, 5 _law_told_here, 6 _law_text, 7 _law_due, 8 _law_k, 9 _law_at, 10 _law_cell -/
def ds_law : DS := (dSeq (dAsg 1 (dLst (dCons (dC (.int (0))) (dCons (dC (.int (0))) (dCons (dLc (dIL (dSl fSlL (dVar 0) dNo (dPart (dC (.int (63)))))) (gN 10) dYes (dCB fAbs (dCons (dVar 10) dNil)) [10]) dNil)))))
  (dSeq (dAsg 2 (dCall 2 fs_l_digit [] (dCons (dVar 1) (dCons (dC (.int (8))) dNil))))
  (dSeq (dAsg 3 (dIfE (dB (d2 fGt (dVar 2) (dC (.int (5))))) (dC (.int (0))) (d2 fMod (dCB fInt (dCons (d2 fAdd (dCall 2 fs_l_digit [] (dCons (dVar 1) (dCons (dC (.int (21))) dNil))) (dC (.int (5)))) dNil)) (dC (.int (21))))))
  (dSeq (dAsg 4 (dLc (dIR1 (dCons (dVarV 3) dNil)) (gN 8) dYes (dCall 1 fs_l_word [] (dCons (dVar 1) dNil)) [8]))
  (dSeq (dIf (dB (d2 fEq (dCall 2 fs_l_digit [] (dCons (dVar 1) (dCons (dC (.int (8))) dNil))) (dC (.int (7))))) (dAsg 4 (d2 fRep (dVar 4) (dC (.int (3))))) dNext)
  (dSeq (dIf (dB (d2 fGt (dVar 2) (dC (.int (5))))) (dSeq (dAsg 6 (dCall 1 fs_l_raw [] (dCons (dVar 1) dNil)))
  (dAsg 7 (dCall 1 fs_l_divided [] (dCons (dVarV 6) dNil)))) (dIf (dB (d2 fGt (dVar 2) (dC (.int (2))))) (dSeq (dAsg 9 (dCall 2 fs_l_digit [] (dCons (dVar 1) (dCons (d2 fAdd (dCB fLen (dCons (dVar 4) dNil)) (dC (.int (1)))) dNil))))
  (dSeq (dAsg 6 (dCall 4 fs_l_spoilt [] (dCons (dVar 1) (dCons (dVarV 4) (dCons (dVarV 9) (dCons (dVarV 2) dNil))))))
  (dAsg 7 (dTup (dCons (dC (.str "unread")) (dCons (dVarV 9) dNil)))))) (dSeq (dAsg 6 (d2 fAddS (dCall 2 fs_l_join [] (dCons (dVar 1) (dCons (dVarV 4) dNil))) (d2 fMulS (dC (.str " ")) (dCall 2 fs_l_digit [] (dCons (dVar 1) (dCons (dC (.int (3))) dNil))))))
  (dAsg 7 (dTup (dCons (dC (.str "words")) (dCons (dVarV 4) dNil)))))))
  (dScope 5 (dCall 1 fs_l_told [] (dCons (dVarV 6) dNil))
  (dScIf 5 (dNot (dB (dCall 2 fs_l_right [] (dCons (dBare (dVarV 5)) (dCons (dVarV 7) dNil))))) (dC (.bl false)) (dScIf 5 (dB (d2 fEq (d2 fIxT (dVar 7) (dC (.int (0)))) (dC (.str "unread")))) (dCall 1 fs_l_alone [] (dCons (dVarV 6) dNil)) (dScApp 5 (d2 fIxT (dVar 5) (dC (.int (1)))) (dCons (dC (.str "zz")) dNil) (dRet (dCall 2 fs_l_right [] (dCons (dBare (dCall 1 fs_l_told [] (dCons (dVarV 6) dNil))) (dCons (dVarV 7) dNil))))))))))))))
theorem wl_c {c : Nat} {r : List Nat} : wlN (c :: r) = if c = 40 ∨ c = 41 ∨ c = 44 then 1 else if lngN c r = true then 2 else if c = 60 ∨ c = 61 ∨ c = 62 then 1 else if c = 39 then (match fqN r with | some k => k + 2 | none => 0)
    else if ltrN c = true then runN ltrN (c :: r) else if c = 45 then (if runN dgtN r > 0 then runN dgtN r + 1 else 0) else runN dgtN (c :: r) := rfl
theorem run_le (p : Nat → Bool) : ∀ l : List Nat, runN p l ≤ l.length
  | [] => Nat.le_refl _
  | c :: r => by
    unfold runN
    have := run_le p r
    simp only [List.length_cons]
    split <;> omega
theorem fq_lt : ∀ {l : List Nat} {k : Nat}, fqN l = some k → k < l.length
  | [], k, h => by cases h
  | c :: r, k, h => by
    unfold fqN at h
    split at h
    · cases h; simp
    · cases e : fqN r with
      | none => rw [e] at h; cases h
      | some j =>
        rw [e] at h
        cases h
        have := fq_lt e
        simp only [List.length_cons]; omega
theorem wl_le : ∀ l : List Nat, wlN l ≤ l.length
  | [] => Nat.le_refl _
  | c :: r => by
    unfold wlN
    have r1 := run_le ltrN (c :: r)
    have r2 := run_le dgtN (c :: r)
    have r3 := run_le dgtN r
    simp only [List.length_cons] at r1 r2 ⊢
    split
    · omega
    split
    · rename_i h
      cases r with
      | nil => simp [lngN] at h
      | cons b r => simp
    split
    · omega
    split
    · split
      · rename_i k hk
        have := fq_lt hk
        omega
      · omega
    split
    · exact r1
    split
    · split <;> omega
    · exact r2
theorem tk_total : ∀ (n : Nat) (l : List Nat), l.length ≤ n → ∃ ws b, TkN l ws b
  | _, [], _ => ⟨[], true, .fin⟩
  | 0, _ :: _, h => absurd h (by simp)
  | n + 1, c :: r, h => by
    simp only [List.length_cons] at h
    by_cases hc : c = 32
    · subst hc
      obtain ⟨ws, b, t⟩ := tk_total n r (by omega)
      exact ⟨ws, b, .sp t⟩
    · by_cases hk : wlN (c :: r) = 0
      · exact ⟨[], false, .bad hc hk⟩
      · obtain ⟨ws, b, t⟩ := tk_total n ((c :: r).drop (wlN (c :: r))) (by rw [List.length_drop, List.length_cons]; omega)
        exact ⟨_, b, .word hc (by omega) t⟩
theorem tk_sp {l : List Nat} {ws : List (List Nat)} {b : Bool} (h : TkN (32 :: l) ws b) : TkN l ws b := by
  generalize e : 32 :: l = m at h
  cases h with
  | sp t => cases e; exact t
  | fin => cases e
  | word n _ _ => cases e; exact absurd rfl n
  | bad n _ => cases e; exact absurd rfl n
theorem tk_word {c : Nat} {r : List Nat} {ws : List (List Nat)} {b : Bool} (h : TkN (c :: r) ws b) (n : c ≠ 32) (k : wlN (c :: r) ≠ 0) : ∃ us, ws = (c :: r).take (wlN (c :: r)) :: us ∧ TkN ((c :: r).drop (wlN (c :: r))) us b := by
  generalize e : c :: r = m at h
  cases h with
  | sp t => cases e; exact absurd rfl n
  | fin => cases e
  | word _ _ t => cases e; exact ⟨_, rfl, t⟩
  | bad _ z => cases e; exact absurd z k
theorem tk_bad {c : Nat} {r : List Nat} {ws : List (List Nat)} {b : Bool} (h : TkN (c :: r) ws b) (n : c ≠ 32) (k : wlN (c :: r) = 0) : ws = [] ∧ b = false := by
  generalize e : c :: r = m at h
  cases h with
  | sp t => cases e; exact absurd rfl n
  | fin => cases e
  | word _ z t => cases e; rw [k] at z; exact absurd z (Nat.lt_irrefl 0)
  | bad _ z => exact ⟨rfl, rfl⟩
theorem tk_nil {ws : List (List Nat)} {b : Bool} (h : TkN [] ws b) : ws = [] ∧ b = true := by cases h; exact ⟨rfl, rfl⟩
/-- spaces in front are passed -/
theorem tk_run : ∀ {l : List Nat} {ws : List (List Nat)} {b : Bool}, TkN l ws b → TkN (l.drop (runN (fun c => decide (c = 32)) l)) ws b
  | [], _, _, h => h
  | c :: r, ws, b, h => by
    unfold runN
    by_cases hc : c = 32
    · subst hc
      rw [if_pos (by decide)]
      exact tk_run (tk_sp h)
    · rw [if_neg (by simp [hc])]
      exact h
theorem run_stop (p : Nat → Bool) : ∀ {l : List Nat} {c : Nat} {r : List Nat}, l.drop (runN p l) = c :: r → p c = false
  | [], _, _, h => by simp [runN] at h
  | a :: l, c, r, h => by
    unfold runN at h
    by_cases ha : p a = true
    · rw [if_pos ha, List.drop_succ_cons] at h
      exact run_stop p h
    · rw [if_neg ha, List.drop_zero] at h
      cases h
      exact Bool.not_eq_true _ ▸ ha
theorem run_all (p : Nat → Bool) : ∀ {w X : List Nat}, (∀ c ∈ w, p c = true) → (∀ c r, X = c :: r → p c = false) → runN p (w ++ X) = w.length
  | [], [], _, _ => rfl
  | [], c :: X, _, h => by
    show runN p (c :: X) = 0
    unfold runN
    rw [if_neg (by rw [h c X rfl]; decide)]
  | a :: w, X, h, k => by
    show runN p (a :: (w ++ X)) = w.length + 1
    unfold runN
    rw [if_pos (h a List.mem_cons_self), run_all p (fun c hc => h c (List.mem_cons_of_mem _ hc)) k]
theorem last_mem {w : List Nat} {z : Nat} (h : w.getLast? = some z) : z ∈ w := List.mem_of_getLast? h
theorem apt_p {w : List Nat} {z : Nat} (h : w.getLast? = some z) {X : List Nat} (a : AptN w X) {c : Nat} {r : List Nat} (e : X = c :: r) : (ltrN z && ltrN c) = false ∧ (dgtN z && dgtN c) = false := by
  subst e
  have a : oneN w c = false := a
  unfold oneN at a
  rw [h] at a
  simp only [Bool.or_eq_false_iff] at a
  exact ⟨a.1.1.1, a.1.1.2⟩
theorem getLast_of {w : List Nat} (h : w ≠ []) : ∃ z, w.getLast? = some z := ⟨w.getLast h, List.getLast?_eq_some_getLast h⟩
theorem ltr_ne {c : Nat} (h : ltrN c = true) : 97 ≤ c ∧ c ≤ 122 := of_decide_eq_true h
theorem dgt_ne {c : Nat} (h : dgtN c = true) : 48 ≤ c ∧ c ≤ 57 := of_decide_eq_true h
theorem lng_ltr {c : Nat} {r : List Nat} (h : c ≠ 60 ∧ c ≠ 62) : lngN c r = false := by
  cases r with
  | nil => rfl
  | cons b r => unfold lngN; exact decide_eq_false (by omega)
theorem ltr_false {c : Nat} (h : c < 97 ∨ 122 < c) : ltrN c = false := decide_eq_false (by omega)
theorem dgt_false {c : Nat} (h : c < 48 ∨ 57 < c) : dgtN c = false := decide_eq_false (by omega)
theorem wd_ltr {w : List Nat} (n : w ≠ []) (h : ∀ c ∈ w, ltrN c = true) : WdN w := by
  obtain ⟨z, hz⟩ := getLast_of n
  cases w with
  | nil => exact absurd rfl n
  | cons c r =>
    have hc := ltr_ne (h c List.mem_cons_self)
    refine ⟨⟨c, r, rfl, by omega⟩, fun X a => ?_⟩
    have e : wlN ((c :: r) ++ X) = runN ltrN ((c :: r) ++ X) := by
      show wlN (c :: (r ++ X)) = runN ltrN (c :: (r ++ X))
      rw [wl_c]
      rw [if_neg (by omega), if_neg (by rw [lng_ltr (by omega)]; decide), if_neg (by omega), if_neg (by omega), if_pos (h c List.mem_cons_self)]
    rw [e]
    refine run_all ltrN h fun d s e => ?_
    have := (apt_p hz a e).1
    rw [h z (last_mem hz)] at this
    simpa using this
theorem wd_dgt {w : List Nat} (n : w ≠ []) (h : ∀ c ∈ w, dgtN c = true) : WdN w := by
  obtain ⟨z, hz⟩ := getLast_of n
  cases w with
  | nil => exact absurd rfl n
  | cons c r =>
    have hc := dgt_ne (h c List.mem_cons_self)
    refine ⟨⟨c, r, rfl, by omega⟩, fun X a => ?_⟩
    have e : wlN ((c :: r) ++ X) = runN dgtN ((c :: r) ++ X) := by
      show wlN (c :: (r ++ X)) = runN dgtN (c :: (r ++ X))
      rw [wl_c]
      rw [if_neg (by omega), if_neg (by rw [lng_ltr (by omega)]; decide), if_neg (by omega), if_neg (by omega), if_neg (by rw [ltr_false (by omega)]; decide), if_neg (by omega)]
    rw [e]
    refine run_all dgtN h fun d s e => ?_
    have := (apt_p hz a e).2
    rw [h z (last_mem hz)] at this
    simpa using this
theorem wd_neg {w : List Nat} (n : w ≠ []) (h : ∀ c ∈ w, dgtN c = true) : WdN (45 :: w) := by
  obtain ⟨z, hz⟩ := getLast_of n
  have hz2 : (45 :: w).getLast? = some z := by
    cases w with
    | nil => exact absurd rfl n
    | cons c r => rw [List.getLast?_cons_cons]; exact hz
  refine ⟨⟨45, w, rfl, by decide⟩, fun X a => ?_⟩
  have rw_ : runN dgtN (w ++ X) = w.length := run_all dgtN h fun d s e => by
    have := (apt_p hz2 a e).2
    rw [h z (last_mem hz)] at this
    simpa using this
  have lw : 0 < w.length := List.length_pos_iff.mpr n
  show wlN (45 :: (w ++ X)) = w.length + 1
  rw [wl_c]
  rw [if_neg (by decide), if_neg (by rw [lng_ltr (by decide)]; decide), if_neg (by decide), if_neg (by decide), if_neg (by decide), if_pos rfl, rw_, if_pos lw]
theorem wd_one {c : Nat} (h : c = 40 ∨ c = 41 ∨ c = 44 ∨ c = 61) : WdN [c] := by
  refine ⟨⟨c, [], rfl, by omega⟩, fun X a => ?_⟩
  show wlN (c :: X) = 1
  rw [wl_c]
  by_cases e : c = 61
  · subst e
    rw [if_neg (by decide), if_neg (by rw [lng_ltr (by decide)]; decide), if_pos (by decide)]
  · rw [if_pos (by omega)]
theorem wd_ls {c : Nat} (h : c = 60 ∨ c = 62) : WdN [c] := by
  refine ⟨⟨c, [], rfl, by omega⟩, fun X a => ?_⟩
  show wlN (c :: X) = 1
  rw [wl_c]
  rw [if_neg (by omega)]
  have : lngN c X = false := by
    cases X with
    | nil => rfl
    | cons b X =>
      have a : oneN [c] b = false := a
      unfold oneN at a
      simp only [List.getLast?_singleton, Bool.or_eq_false_iff, Bool.and_eq_false_iff, decide_eq_false_iff_not] at a
      unfold lngN
      refine decide_eq_false ?_
      rcases h with h | h
      · subst h; simp at a ⊢; omega
      · subst h; simp at a ⊢; omega
  rw [if_neg (by rw [this]; decide), if_pos (by omega)]
theorem wd_two {a b : Nat} (h : (a = 60 ∧ b = 62) ∨ (a = 60 ∧ b = 61) ∨ (a = 62 ∧ b = 61)) : WdN [a, b] := by
  refine ⟨⟨a, [b], rfl, by omega⟩, fun X ap => ?_⟩
  show wlN (a :: b :: X) = 2
  rw [wl_c]
  rw [if_neg (by omega), if_pos (show lngN a (b :: X) = true from decide_eq_true h)]
theorem fq_app : ∀ {w X : List Nat}, (∀ c ∈ w, c ≠ 39) → fqN (w ++ 39 :: X) = some w.length
  | [], X, _ => by simp [fqN]
  | c :: w, X, h => by
    show fqN (c :: (w ++ 39 :: X)) = _
    unfold fqN
    rw [if_neg (h c List.mem_cons_self), fq_app fun d hd => h d (List.mem_cons_of_mem _ hd)]
    rfl
theorem wd_quo {w : List Nat} (h : ∀ c ∈ w, c ≠ 39) : WdN (39 :: (w ++ [39])) := by
  refine ⟨⟨39, w ++ [39], rfl, by decide⟩, fun X ap => ?_⟩
  show wlN (39 :: (w ++ [39] ++ X)) = (w ++ [39]).length + 1
  rw [wl_c]
  rw [if_neg (by decide), if_neg (by rw [lng_ltr (by decide)]; decide), if_neg (by decide), if_pos rfl, List.append_assoc, List.singleton_append, fq_app h]
  simp
theorem tk_rep {X : List Nat} {us : List (List Nat)} {b : Bool} (t : TkN X us b) : ∀ g : Nat, TkN (List.replicate g 32 ++ X) us b
  | 0 => t
  | g + 1 => by
    rw [List.replicate_succ, List.cons_append]
    exact .sp (tk_rep t g)
theorem tk_join : ∀ {ws : List (List Nat)} {z l X : List Nat} {us : List (List Nat)} {b : Bool}, (∀ w ∈ ws, WdN w) → JnN z ws l → EndN z ws X → TkN X us b → TkN (l ++ X) (ws ++ us) b ∧ (∀ c r, l ++ X = c :: r → c = 32 ∨ oneN z c = false)
  | [], z, l, X, us, b, _, j, e, t => by
    have j : l = [] := j
    subst j
    refine ⟨t, fun c r ex => .inr ?_⟩
    have e : AptN z X := e
    have ex : X = c :: r := ex
    subst ex
    exact e
  | w :: ws, z, l, X, us, b, hw, ⟨g, m, el, ng, j⟩, e, t => by
    have e' : EndN w ws X := by
      unfold EndN at e ⊢
      cases ws with
      | nil => simpa using e
      | cons v ws =>
        rw [List.getLast?_cons_cons] at e
        obtain ⟨y, hy⟩ : ∃ y, (v :: ws).getLast? = some y := ⟨_, List.getLast?_eq_some_getLast (by simp)⟩
        rw [hy] at e ⊢
        exact e
    obtain ⟨t1, a1⟩ := tk_join (fun v hv => hw v (List.mem_cons_of_mem _ hv)) j e' t
    obtain ⟨⟨c, r, ew, nc⟩, wlen⟩ := hw w List.mem_cons_self
    have ap : AptN w (m ++ X) := by
      cases q : m ++ X with
      | nil => trivial
      | cons d s =>
        rcases a1 d s q with k | k
        · subst k
          show oneN w 32 = false
          unfold oneN
          split
          · rfl
          · simp [ltrN, dgtN]
        · exact k
    have wq := wlen _ ap
    have tw : TkN (w ++ (m ++ X)) (w :: (ws ++ us)) b := by
      subst ew
      have h1 : (c :: r) ++ (m ++ X) = c :: (r ++ (m ++ X)) := rfl
      have key : TkN (c :: (r ++ (m ++ X))) ((c :: (r ++ (m ++ X))).take (wlN (c :: (r ++ (m ++ X)))) :: (ws ++ us)) b := by
        refine .word nc ?_ ?_
        · rw [← h1, wq]; simp
        · rw [← h1, wq, List.drop_append_of_le_length (Nat.le_refl _), List.drop_length, List.nil_append]; exact t1
      rw [h1]
      have : (c :: (r ++ (m ++ X))).take (wlN (c :: (r ++ (m ++ X)))) = c :: r := by
        rw [← h1, wq, List.take_append_of_le_length (Nat.le_refl _), List.take_length]
      rw [this] at key
      exact key
    subst el
    refine ⟨?_, fun d s ed => ?_⟩
    · have := tk_rep tw g
      rw [List.append_assoc, List.append_assoc]
      exact this
    · cases g with
      | zero =>
        have ed : w ++ m ++ X = d :: s := by simpa using ed
        subst ew
        rw [List.append_assoc] at ed
        have : c = d := by simpa using congrArg List.head? ed
        subst this
        exact .inr (ng rfl c r rfl)
      | succ g =>
        rw [List.replicate_succ] at ed
        have : (32 : Nat) = d := by simpa using congrArg List.head? ed
        exact .inl this.symm
/-- no word goes on with a sign of no word, a quote or a minus -/
theorem apt_odd {w : List Nat} {c : Nat} {r : List Nat} (h : ltrN c = false) (h2 : dgtN c = false) (h3 : c ≠ 61 ∧ c ≠ 62) : AptN w (c :: r) := by
  show oneN w c = false
  unfold oneN
  split
  · rfl
  · rw [h, h2, decide_eq_false (p := c = 61 ∨ c = 62) (by omega), decide_eq_false (p := c = 61) (by omega)]
    simp
theorem apt_sp {w r : List Nat} : AptN w (32 :: r) := apt_odd (by decide) (by decide) (by decide)
theorem fq_none : ∀ {l : List Nat}, (∀ c ∈ l, c ≠ 39) → fqN l = none
  | [], _ => rfl
  | c :: l, h => by
    unfold fqN
    rw [if_neg (h c List.mem_cons_self), fq_none fun d hd => h d (List.mem_cons_of_mem _ hd)]
    rfl
theorem jn_mem : ∀ {ws : List (List Nat)} {z l : List Nat} {c : Nat}, JnN z ws l → c ∈ l → c = 32 ∨ ∃ w ∈ ws, c ∈ w
  | [], z, l, c, j, h => by
    have j : l = [] := j
    subst j; cases h
  | w :: ws, z, l, c, ⟨g, m, el, _, j⟩, h => by
    subst el
    rcases List.mem_append.mp h with h | h
    · rcases List.mem_append.mp h with h | h
      · exact .inl (List.eq_of_mem_replicate h)
      · exact .inr ⟨w, List.mem_cons_self, h⟩
    · rcases jn_mem j h with k | ⟨v, hv, hc⟩
      · exact .inl k
      · exact .inr ⟨v, List.mem_cons_of_mem _ hv, hc⟩
/-- spoilt: nothing goes on -/
theorem tk_spoilt {ws : List (List Nat)} {l X : List Nat} {g c : Nat} {r : List Nat} (hw : ∀ w ∈ ws, WdN w) (j : JnN [] ws l) (e : X = c :: r) (o : ∀ w, AptN w X) (n : c ≠ 32) (z : wlN X = 0) : TkN (l ++ List.replicate g 32 ++ X) ws false := by
  have tx : TkN X [] false := by subst e; exact .bad n z
  have t2 := tk_rep tx g
  have ap : EndN [] ws (List.replicate g 32 ++ X) := by
    unfold EndN
    cases g with
    | zero => exact o _
    | succ g => rw [List.replicate_succ]; exact apt_sp
  have := (tk_join hw j ap t2).1
  rw [List.append_nil] at this
  rw [List.append_assoc]
  exact this
theorem tk_whole {ws : List (List Nat)} {l : List Nat} {g : Nat} (hw : ∀ w ∈ ws, WdN w) (j : JnN [] ws l) : TkN (l ++ List.replicate g 32) ws true := by
  have t2 := tk_rep .fin g
  rw [List.append_nil] at t2
  have ap : EndN [] ws (List.replicate g 32) := by
    unfold EndN
    cases g with
    | zero => trivial
    | succ g => rw [List.replicate_succ]; exact apt_sp
  have := (tk_join hw j ap t2).1
  rw [List.append_nil] at this
  exact this
theorem wl_quo {l : List Nat} (h : ∀ c ∈ l, c ≠ 39) : wlN (39 :: l) = 0 := by
  rw [wl_c]
  rw [if_neg (by decide), if_neg (by rw [lng_ltr (by decide)]; decide), if_neg (by decide), if_pos rfl, fq_none h]
theorem wl_neg {l : List Nat} (h : ∀ c r, l = c :: r → dgtN c = false) : wlN (45 :: l) = 0 := by
  have : runN dgtN l = 0 := by
    cases l with
    | nil => rfl
    | cons c r => unfold runN; rw [if_neg (by rw [h c r rfl]; decide)]
  rw [wl_c]
  rw [if_neg (by decide), if_neg (by rw [lng_ltr (by decide)]; decide), if_neg (by decide), if_neg (by decide), if_neg (by decide), if_pos rfl, this, if_neg (by omega)]
theorem odd_of {c : Nat} (h : oddN c = true) : ltrN c = false ∧ dgtN c = false ∧ c ∉ [32, 39, 40, 41, 44, 45, 60, 61, 62] := by
  unfold oddN at h
  simp only [Bool.not_eq_true', Bool.or_eq_false_iff, decide_eq_false_iff_not] at h
  exact ⟨h.1.1, h.1.2, h.2⟩
theorem wl_odd {c : Nat} {l : List Nat} (h : oddN c = true) : wlN (c :: l) = 0 := by
  obtain ⟨h1, h2, h3⟩ := odd_of h
  simp only [List.mem_cons, List.not_mem_nil, or_false, not_or] at h3
  rw [wl_c]
  rw [if_neg (by omega), if_neg (by rw [lng_ltr (by omega)]; decide), if_neg (by omega), if_neg (by omega), if_neg (by rw [h1]; decide), if_neg (by omega)]
  unfold runN
  rw [if_neg (by rw [h2]; decide)]
theorem szl_c {n c : Nat} {r : List Nat} : szN n (c :: r) = if c = 40 ∨ c = 41 ∨ c = 44 ∨ c = 61 then 1 else if c = 60 then (if (hd1N r 61 || hd1N r 62) = true then 2 else 1) else if c = 62 then (if hd1N r 61 = true then 2 else 1)
    else if c = 39 then (match fqN r with | some k => ((n + 1 + k : Nat) : Int) | none => -1) - (n : Int) + 1
    else if c = 45 then (if runN dgtN r > 0 then ((runN dgtN r + 1 : Nat) : Int) else 0) else if runN dgtN (c :: r) > 0 then ((runN dgtN (c :: r) : Nat) : Int) else ((runN ltrN (c :: r) : Nat) : Int) := rfl
theorem szl_wl {n c : Nat} {r : List Nat} : (wlN (c :: r) = 0 → szN n (c :: r) < 1) ∧ (wlN (c :: r) ≠ 0 → szN n (c :: r) = (wlN (c :: r) : Int)) := by
  rw [wl_c, szl_c]
  by_cases h1 : c = 40 ∨ c = 41 ∨ c = 44
  · rw [if_pos h1, if_pos (by omega)]; simp
  rw [if_neg h1]
  by_cases h2 : c = 61
  · subst h2
    rw [if_neg (by rw [lng_ltr (by decide)]; decide), if_pos (by decide), if_pos (by decide)]; simp
  rw [if_neg (show ¬ (c = 40 ∨ c = 41 ∨ c = 44 ∨ c = 61) by omega)]
  by_cases h3 : c = 60
  · subst h3
    rw [if_pos rfl]
    cases r with
    | nil => simp [lngN, hd1N]
    | cons d r =>
      by_cases k : d = 61 ∨ d = 62
      · have e1 : lngN 60 (d :: r) = true := decide_eq_true (by omega)
        have e2 : (hd1N (d :: r) 61 || hd1N (d :: r) 62) = true := by
          unfold hd1N
          rcases k with k | k
          · subst k; simp
          · subst k; simp
        rw [if_pos e1, if_pos e2]; simp
      · have e1 : lngN 60 (d :: r) = false := decide_eq_false (by omega)
        have e2 : (hd1N (d :: r) 61 || hd1N (d :: r) 62) = false := by
          unfold hd1N
          simp; omega
        rw [e1, e2]; simp
  rw [if_neg h3]
  by_cases h4 : c = 62
  · subst h4
    rw [if_pos rfl]
    cases r with
    | nil => simp [lngN, hd1N]
    | cons d r =>
      by_cases k : d = 61
      · subst k; simp [lngN, hd1N]
      · have e1 : lngN 62 (d :: r) = false := decide_eq_false (by omega)
        rw [e1]; simp [hd1N, k]
  rw [if_neg h4, if_neg (by rw [lng_ltr ⟨h3, h4⟩]; decide), if_neg (show ¬ (c = 60 ∨ c = 61 ∨ c = 62) by omega)]
  by_cases h5 : c = 39
  · subst h5
    rw [if_pos rfl, if_pos rfl]
    cases fqN r with
    | none => simp; omega
    | some k => simp; omega
  rw [if_neg h5, if_neg h5]
  by_cases h6 : c = 45
  · subst h6
    rw [if_neg (by decide), if_pos rfl, if_pos rfl]
    split <;> simp
  rw [if_neg h6, if_neg h6]
  by_cases h7 : ltrN c = true
  · have hc := ltr_ne h7
    have e : runN dgtN (c :: r) = 0 := by unfold runN; rw [if_neg (by rw [dgt_false (by omega)]; decide)]
    rw [if_pos h7, e, if_neg (by omega)]
    exact ⟨fun z => by omega, fun _ => rfl⟩
  · rw [if_neg h7]
    by_cases h8 : runN dgtN (c :: r) > 0
    · rw [if_pos h8]; exact ⟨fun z => by omega, fun _ => rfl⟩
    · rw [if_neg h8]
      have e : runN ltrN (c :: r) = 0 := by unfold runN; rw [if_neg h7]
      rw [e]
      exact ⟨fun _ => by decide, fun z => by omega⟩

local macro_rules | `(tactic| walk_at "dd") => `(tactic| simp only [dSeq, dNext_u, dDrop, dRet, dRetN, dBreak, dCont, dIf, dAsg, gN, gsNil, gsCons, gT, dAsgG, dAug, dMut, isL, mApp, mPopAt, mPop, dSetI, RS.kept, dC, dVar, dVarV, dVarM, look, put, d2, d1, RS.ok, RS.data, OC.data, dNil, dCons, RS.fz, RS.now, dCB, dCall, dCallB, dCallZ, noNew, flatR, flatD, ownIx, argsOf, upds, putC,
  fI0, fI, fU, fEq, fNe, fIsN, fNotN, fAddS, fLtS, fCat, fRep, fIxL, fIxT, fIxS, fLen, fLenS, fInt, fAbs, fI2, fSum, fMin, fMax, fAll, fAny, fList, fTuple, fIsi, fEqD, fNeD, dNo, dPart, dSl, fSlL, fRev, allV, dLst, dTup, dB, dAnd, dOr, dNot, dAndV, dOrV, dNotV, dIfE, dTru, dChain, dIL, dIT, dIQ, dIR1, dIR2, dIR3, dIZ, dIE, dIV, dYes, dLRg1, dLRg2, dFr, dSt, meltR, fIxQ, dBits, dRd, mIndex, mIns, mClear, mRev, mExt, dCallX, dCallL, dCallLX, lendR, dTryAs_eq, dIsE, dXf, dRaise1, dRaise2, flatAll,
  fAdd, fSub, fMul, fDiv, fMod, fMulW, fDivW, fPow, fLt, fLe, fGt, fGe, fNeg, fMin2, fMax2, startG, endsOf_nx, xcOf, endsOf_rt, endsOf_bk, OutP, wipeG, restore, keepV,
  List.map_cons, List.map_nil, List.length_cons, List.length_nil, List.cons_append, List.nil_append, List.append_nil, List.replicate, true_and, and_true, decide_eq_true_eq, decide_eq_false_iff_not, Bool.not_eq_true', Bool.not_eq_false', forall_const, false_implies, true_implies, List.nodup_cons, List.not_mem_nil, not_false_eq_true, List.nodup_nil, Nat.add_zero, Nat.zero_add, Nat.reduceAdd, Nat.reduceSub, Nat.reduceLeDiff, Nat.reduceMul,
  kb_ii, kb_ib, kb_il, kb_it, kb_is, kb_bi, kb_bb, kb_li, kb_ll, kb_lt, kb_ti, kb_tt, kb_tl, kb_si, kb_sb, kb_ss, kb_ni, kb_nl, kb_nt, Option.some.injEq, exists_eq_left', exists_eq_left, Bool.true_eq_false, Bool.false_eq_true, reduceCtorEq, implies_true, Sx.own.injEq, own_ex, exists_eq', dOk_ints, dOk_nil, deq_ints, deq_ints_nil,  List.length_map, List.length_reverse, Sx.val.injEq, D.int.injEq, D.bl.injEq, D.str.injEq, atI_zero, ixN_s0, seqIx_s0, List.set_cons_zero, List.eraseIdx_cons_zero, List.getElem?_cons_zero, rg_snoc, dLc_eq, dLc2_eq, dRaise0, fShl, fShr, fOr, fAnd, fXor, dFor_eq, dWhile_eq, not_true_eq_false, decide_true, decide_false, fFld, dSetF, dAugF, dMake, dMakeL, dCallN, lentL, lendN, D.nol, nolAll, nolF, nol_ints, nol_strs, dFz, dMeth, dMethX, putD_nil, putD_cons, seqD, dStar, fCatT, fSlT, List.lookup, allV_app, allV_vals, data_app, data_vals, ofS_inj, ofS_beq, String.reduceEq, String.reduceBEq, ↓reduceIte, deq_int, deq_str, deq_tcons, deq_tnil, deq_tints, dOk_tints, decide_not, deq_lnil, deq_lcn, deq_lnc, puts, Bool.not_not, decide_eq_decide, exKit, exKit_1, exKit_2, exRd, exSub_0, exSub_1, exSub_2, Bool.or_true, Bool.true_or, Bool.and_self, Bool.and_true, Bool.true_and, Bool.or_false, Bool.false_or, fInQ, fInC, fSlS, fMulS, dIS, dSm, mFind3, dJoin, at_one, at_two, set_1, ixN_s1, plD, resD_t, resD_f, resF_t, resF_f, dScope, dScIf, dScApp, dBare, bareD, bareT, hide, hid1, nofrG, D.nofr, nofrAll, dIsEV, fGtV, fLtV])
local macro_rules | `(tactic| walk_at "ds") => `(tactic| (refine q_seq ?_; walk_at "dd"))
local macro_rules | `(tactic| walk_at "dn") => `(tactic| (with_reducible refine q_later (q_seq ?_); walk_at "dd"))
local macro_rules | `(tactic| walk_at "de") => `(tactic| (with_reducible refine q_later ?_; walk_at "dd"))
local macro_rules | `(tactic| walk_at "an") => `(tactic| ((with_reducible refine And.intro ?ga ?_); (case ga => (first | exact True.intro | decide | omega | assumption | exact flat_ints _ | exact dOk_ints _ | exact dOk_tints _))))
local macro_rules | `(tactic| walk_at "go") => `(tactic| repeat (first | walk_at "an" | walk_at "dn" | walk_at "de"))
local macro_rules | `(tactic| walk_at "gg") => `(tactic| ((try walk_at "dd"); walk_at "go"))
local macro_rules | `(tactic| walk_at "xd") => `(tactic| simp only [dNext_u, dDrop, dRet, dRetN, dBreak, dCont, dIf, dAsg, gN, gsNil, gsCons, gT, dAsgG, dAug, dMut, isL, mApp, mPopAt, mPop, dSetI, RS.kept, dC, dVar, dVarV, dVarM, look, put, d2, d1, RS.ok, RS.data, OC.data, dNil, dCons, RS.fz, RS.now, dCB, dCall, dCallB, dCallZ, noNew, flatR, flatD, ownIx, argsOf, upds, putC,
  fI0, fI, fU, fEq, fNe, fIsN, fNotN, fAddS, fLtS, fCat, fRep, fIxL, fIxT, fIxS, fLen, fLenS, fInt, fAbs, fI2, fSum, fMin, fMax, fAll, fAny, fList, fTuple, fIsi, fEqD, fNeD, dNo, dPart, dSl, fSlL, fRev, allV, dLst, dTup, dB, dAnd, dOr, dNot, dAndV, dOrV, dNotV, dIfE, dTru, dChain, dIL, dIT, dIQ, dIR1, dIR2, dIR3, dIZ, dIE, dIV, dYes, dLRg1, dLRg2, dFr, dSt, meltR, fIxQ, dBits, dRd, mIndex, mIns, mClear, mRev, mExt, dCallX, dCallL, dCallLX, lendR, dTryAs_eq, dIsE, dXf, dRaise1, dRaise2, flatAll,
  fAdd, fSub, fMul, fDiv, fMod, fMulW, fDivW, fPow, fLt, fLe, fGt, fGe, fNeg, fMin2, fMax2, startG, endsOf_nx, xcOf, endsOf_rt, endsOf_bk, OutP, wipeG, restore, keepV,
  List.map_cons, List.map_nil, List.length_cons, List.length_nil, List.cons_append, List.nil_append, List.append_nil, List.replicate, true_and, and_true, decide_eq_true_eq, decide_eq_false_iff_not, Bool.not_eq_true', Bool.not_eq_false', forall_const, false_implies, true_implies, List.nodup_cons, List.not_mem_nil, not_false_eq_true, List.nodup_nil, Nat.add_zero, Nat.zero_add, Nat.reduceAdd, Nat.reduceSub, Nat.reduceLeDiff, Nat.reduceMul,
  kb_ii, kb_ib, kb_il, kb_it, kb_is, kb_bi, kb_bb, kb_li, kb_ll, kb_lt, kb_ti, kb_tt, kb_tl, kb_si, kb_sb, kb_ss, kb_ni, kb_nl, kb_nt, Option.some.injEq, exists_eq_left', exists_eq_left, Bool.true_eq_false, Bool.false_eq_true, reduceCtorEq, implies_true, Sx.own.injEq, own_ex, exists_eq', dOk_ints, dOk_nil, deq_ints, deq_ints_nil,  List.length_map, List.length_reverse, Sx.val.injEq, D.int.injEq, D.bl.injEq, D.str.injEq, atI_zero, ixN_s0, seqIx_s0, List.set_cons_zero, List.eraseIdx_cons_zero, List.getElem?_cons_zero, rg_snoc, dLc_eq, dLc2_eq, dRaise0, fShl, fShr, fOr, fAnd, fXor, dFor_eq, dWhile_eq, not_true_eq_false, decide_true, decide_false, fFld, dSetF, dAugF, dMake, dMakeL, dCallN, lentL, lendN, D.nol, nolAll, nolF, nol_ints, nol_strs, dFz, dMeth, dMethX, putD_nil, putD_cons, seqD, dStar, fCatT, fSlT, List.lookup, allV_app, allV_vals, data_app, data_vals, ofS_inj, ofS_beq, String.reduceEq, String.reduceBEq, ↓reduceIte, deq_int, deq_str, deq_tcons, deq_tnil, deq_tints, dOk_tints, decide_not, deq_lnil, deq_lcn, deq_lnc, puts, Bool.not_not, decide_eq_decide, exKit, exKit_1, exKit_2, exRd, exSub_0, exSub_1, exSub_2, Bool.or_true, Bool.true_or, Bool.and_self, Bool.and_true, Bool.true_and, Bool.or_false, Bool.false_or, fInQ, fInC, fSlS, fMulS, dIS, dSm, mFind3, dJoin, at_one, at_two, set_1, ixN_s1, plD, resD_t, resD_f, resF_t, resF_f, dScope, dScIf, dScApp, dBare, bareD, bareT, hide, hid1, nofrG, D.nofr, nofrAll, dIsEV, fGtV, fLtV])
local macro_rules | `(tactic| walk_at "xs") => `(tactic| (with_reducible refine q_seq ?_; walk_at "xd"))
local macro_rules | `(tactic| walk_at "xn") => `(tactic| (with_reducible refine q_later (q_seq ?_); walk_at "xd"))
local macro_rules | `(tactic| walk_at "xe") => `(tactic| (with_reducible refine q_later ?_; walk_at "xd"))
local macro_rules | `(tactic| walk_at "xg") => `(tactic| repeat (first | walk_at "an" | walk_at "xn" | walk_at "xe" | walk_at "xs"))
local macro_rules | `(tactic| walk_at "x") => `(tactic| ((try walk_at "xd"); walk_at "xg"))

theorem tS_cps {l : List Nat} : (tS l).cps.toList = l := rfl
theorem tS_len {l : List Nat} : (tS l).length = l.length := by show l.toArray.size = l.length; simp
theorem tS_eta (s : Str) : s = tS s.cps.toList := by cases s; rfl
theorem tS_ext {s : Str} {l : List Nat} (h : s.cps.toList = l) : s = tS l := by rw [tS_eta s, h]
theorem tS_app {a b : List Nat} : tS a ++ tS b = tS (a ++ b) := tS_ext (by
  rw [PySem.Str.cps_append, Array.toList_append, tS_cps, tS_cps])
theorem tS_inj {a b : List Nat} : tS a = tS b ↔ a = b := ⟨fun h => by rw [← tS_cps (l := a), h, tS_cps], fun h => by rw [h]⟩
theorem tS_one {c : Nat} : (⟨#[c]⟩ : Str) = tS [c] := rfl
theorem tS_mul {c : Nat} {n : Int} : Txt.mul ⟨#[c]⟩ n = tS (List.replicate n.toNat c) := tS_ext (mul_one_list c n)
theorem sp_one : Str.ofString " " = ⟨#[32]⟩ := by decide +kernel
theorem tS_slice {l : List Nat} {a b : Nat} (h : a ≤ b) (hb : a ≤ l.length) : Txt.slice (tS l) (some (a : Int)) (some (b : Int)) = tS ((l.drop a).take (b - a)) := by
  refine tS_ext ?_
  rw [← C8.cutS_slice]
  unfold cutS
  rw [HT.sIx_nat, HT.sIx_nat, tS_len, tS_cps, Nat.min_eq_left hb]
  show (l.drop a).take (min b l.length - a) = _
  by_cases c : b ≤ l.length
  · rw [Nat.min_eq_left c]
  · rw [Nat.min_eq_right (by omega), List.take_of_length_le (by rw [List.length_drop]; exact Nat.le_refl _), List.take_of_length_le (by rw [List.length_drop]; omega)]
theorem tS_from {l : List Nat} {a : Nat} (hb : a ≤ l.length) : Txt.slice (tS l) (some (a : Int)) none = tS (l.drop a) := by
  refine tS_ext ?_
  rw [← C8.cutS_slice]
  unfold cutS
  rw [HT.sIx_nat, HT.sIx_none, tS_len, tS_cps, Nat.min_eq_left hb]
  show (l.drop a).take (l.length - a) = _
  rw [List.take_of_length_le (by rw [List.length_drop]; exact Nat.le_refl _)]
theorem drop_at {l : List Nat} {n : Nat} (h : n < l.length) : ∃ c, l[n]? = some c ∧ l.drop n = c :: l.drop (n + 1) := ⟨l[n], List.getElem?_eq_getElem h, List.drop_eq_getElem_cons h⟩
theorem atI_tS {l : List Nat} {n c : Nat} (h : l[n]? = some c) : atI (tS l).cps.toList (n : Int) = some c := atI_nat h
theorem glu_ones : ∀ (r : List Nat) (acc : Array Nat), ((r.map fun c => tS [c]).foldl (fun acc p => acc ++ (Str.ofString "").cps ++ p.cps) acc).toList = acc.toList ++ r
  | [], acc => by simp
  | c :: r, acc => by
    have e : (Str.ofString "").cps = #[] := by decide +kernel
    rw [List.map_cons, List.foldl_cons, glu_ones r, Array.toList_append, Array.toList_append, e]
    show acc.toList ++ [] ++ [c] ++ r = _
    simp
theorem join_ones : ∀ (w : List Nat), Txt.join "" (w.map fun c => tS [c]) = tS w
  | [] => by
    show Builtin.Str.glued (Str.ofString "") [] = _
    rfl
  | c :: r => tS_ext (by
    show (((r.map fun c => tS [c]).foldl (fun acc p => acc ++ (Str.ofString "").cps ++ p.cps) (tS [c]).cps)).toList = _
    rw [glu_ones]; rfl)
theorem inZ_sp {c : Nat} : inZ " " c = decide (c = 32) := by
  have e : (Str.ofString " ").cps.toList = [32] := by decide +kernel
  unfold inZ
  rw [e]; simp
theorem inZ_l {c : Nat} : inZ lettersS c = ltrN c := by
  have e : lettersS.cps.toList = List.range' 97 26 := by decide +kernel
  unfold inZ ltrN
  rw [e]
  refine decide_eq_decide.mpr ?_
  rw [List.mem_range'_1]; omega
theorem inZ_d {c : Nat} : inZ "0123456789" c = dgtN c := by
  have e : (Str.ofString "0123456789").cps.toList = List.range' 48 10 := by decide +kernel
  unfold inZ dgtN
  rw [e]
  refine decide_eq_decide.mpr ?_
  rw [List.mem_range'_1]; omega
theorem inZ_lF : inZ lettersS = ltrN := funext fun _ => inZ_l
theorem inZ_dF : inZ "0123456789" = dgtN := funext fun _ => inZ_d
theorem inZ_spF : inZ " " = fun c => decide (c = 32) := funext fun _ => inZ_sp
theorem pure_l_letters (as : List Sx) (p : RS → List Sx → Prop) (hl : as.length = 0) (h : fs_l_letters as p) : ds_l_letters (endsOf as p) (startG 0 as) := by
  obtain ⟨rfl, kk⟩ := h
  unfold ds_l_letters
  walk_at "x"
  exact kk
theorem pure_l_strange (as : List Sx) (p : RS → List Sx → Prop) (hl : as.length = 0) (h : fs_l_strange as p) : ds_l_strange (endsOf as p) (startG 0 as) := by
  obtain ⟨rfl, kk⟩ := h
  unfold ds_l_strange
  walk_at "x"
  exact kk
theorem pure_l_signs (as : List Sx) (p : RS → List Sx → Prop) (hl : as.length = 0) (h : fs_l_signs as p) : ds_l_signs (endsOf as p) (startG 0 as) := by
  obtain ⟨rfl, kk⟩ := h
  unfold ds_l_signs
  walk_at "x"
  exact kk
theorem pure_l_keys (as : List Sx) (p : RS → List Sx → Prop) (hl : as.length = 0) (h : fs_l_keys as p) : ds_l_keys (endsOf as p) (startG 1 as) := by
  obtain ⟨rfl, kk⟩ := h
  unfold ds_l_keys
  walk_at "xs"
  walk_at "xn"
  walk_at "x"
  exact kk
theorem pl_cs {q : Pl} (h : q.cs ≠ []) : ((q.cs.map D.int).length : Int) ≠ 0 ∧ 0 < q.cs.length := by
  have := List.length_pos_iff.mpr h
  rw [List.length_map]; omega
def stpO (s : Str) (c hi : Nat) (r : Array Nat × Nat) (i : Nat) : Array Nat × Nat := if (decide (r.1.size < 1) && decide (r.2 ≤ i) && decide (i + 1 ≤ hi) && Builtin.Str.subAt s ⟨#[c]⟩ i) = true then (r.1.push i, i + 1) else r
theorem stp_done {s : Str} {c hi : Nat} : ∀ (xs : List Nat) (r : Array Nat × Nat), 1 ≤ r.1.size → xs.foldl (stpO s c hi) r = r
  | [], r, _ => rfl
  | x :: xs, r, h => by
    have : stpO s c hi r x = r := by
      unfold stpO
      rw [if_neg]
      rw [decide_eq_false (show ¬ r.1.size < 1 by omega)]
      simp
    rw [List.foldl_cons, this, stp_done xs r h]
theorem stp_go {s : Str} {c hi : Nat} : ∀ (xs : List Nat) (fr : Nat), (∀ x ∈ xs, fr ≤ x) → (xs.foldl (stpO s c hi) (#[], fr)).1.toList = (xs.find? fun i => decide (i + 1 ≤ hi) && Builtin.Str.subAt s ⟨#[c]⟩ i).toList
  | [], fr, _ => rfl
  | x :: xs, fr, h => by
    rw [List.foldl_cons, List.find?_cons]
    by_cases k : (decide (x + 1 ≤ hi) && Builtin.Str.subAt s ⟨#[c]⟩ x) = true
    · have : stpO s c hi (#[], fr) x = (#[x], x + 1) := by
        unfold stpO
        rw [if_pos]
        · rfl
        · have := h x List.mem_cons_self
          simp only [Bool.and_eq_true, decide_eq_true_eq] at k ⊢
          exact ⟨⟨⟨by simp, this⟩, k.1⟩, k.2⟩
      rw [this, stp_done _ _ (by simp), k]; rfl
    · have : stpO s c hi (#[], fr) x = (#[], fr) := by
        unfold stpO
        rw [if_neg]
        simp only [Bool.and_eq_true, decide_eq_true_eq] at k ⊢
        exact fun z => k ⟨z.1.2, z.2⟩
      rw [this, stp_go xs fr fun y hy => h y (List.mem_cons_of_mem _ hy)]
      simp only [Bool.not_eq_true] at k
      rw [k]
theorem occ_one (s : Str) (c lo hi : Nat) : Builtin.Str.occurrences s ⟨#[c]⟩ lo hi 1 = ((List.range' lo (hi + 1 - lo)).find? fun i => decide (i + 1 ≤ hi) && Builtin.Str.subAt s ⟨#[c]⟩ i).toList := by
  rw [← stp_go _ lo fun x hx => (List.mem_range'_1.mp hx).1]
  unfold Builtin.Str.occurrences
  simp only [Id.run, pure_bind, bind_pure_comp, map_pure]
  have hb : (fun (i : Nat) (r : Array Nat × Nat) => (if (decide (r.1.size < 1) && decide (r.2 ≤ i) && decide (i + (⟨#[c]⟩ : Str).length ≤ hi) && Builtin.Str.subAt s ⟨#[c]⟩ i) = true then (pure (ForInStep.yield (r.1.push i, i + (⟨#[c]⟩ : Str).length)) : Id _) else pure (ForInStep.yield (r.1, r.2)))) = fun i r => pure (ForInStep.yield (stpO s c hi r i)) := by
    funext i r
    unfold stpO
    by_cases k : (decide (r.1.size < 1) && decide (r.2 ≤ i) && decide (i + 1 ≤ hi) && Builtin.Str.subAt s ⟨#[c]⟩ i) = true
    · rw [if_pos k, if_pos (show (decide (r.1.size < 1) && decide (r.2 ≤ i) && decide (i + (⟨#[c]⟩ : Str).length ≤ hi) && Builtin.Str.subAt s ⟨#[c]⟩ i) = true from k)]; rfl
    · rw [if_neg k, if_neg (show ¬ (decide (r.1.size < 1) && decide (r.2 ≤ i) && decide (i + (⟨#[c]⟩ : Str).length ≤ hi) && Builtin.Str.subAt s ⟨#[c]⟩ i) = true from k)]
  rw [hb, Std.Legacy.Range.forIn_eq_forIn_range']
  simp only [Std.Legacy.Range.size, List.forIn_pure_yield_eq_foldl]
  simp
  rfl
theorem fq_range : ∀ (l : List Nat) (n m : Nat), n + m = l.length + 1 → ((List.range' n m).find? fun i => decide (i + 1 ≤ l.length) && Builtin.Str.subAt (tS l) ⟨#[39]⟩ i) = (fqN (l.drop n)).map (· + n)
  | l, n, 0, h => by
    rw [List.drop_of_length_le (by omega)]; rfl
  | l, n, m + 1, h => by
    rw [List.range'_succ, List.find?_cons, fq_range l (n + 1) m (by omega)]
    by_cases c : n < l.length
    · obtain ⟨d, hd, hr⟩ := drop_at c
      have e : Builtin.Str.subAt (tS l) ⟨#[39]⟩ n = decide (d = 39) := by
        unfold Builtin.Str.subAt
        have : ((tS l).cps.extract n (n + (⟨#[39]⟩ : Str).length)) = #[d] := by
          show l.toArray.extract n (n + 1) = #[d]
          apply Array.toList_inj.mp
          rw [Array.toList_extract]
          show (l.drop n).take (n + 1 - n) = [d]
          rw [hr, Nat.add_sub_cancel_left]; rfl
        rw [this]
        by_cases k : d = 39
        · subst k; rfl
        · have : ((#[d] : Array Nat) == #[39]) = false := by simp [k]
          rw [this, decide_eq_false k]
      rw [e, decide_eq_true (show n + 1 ≤ l.length from c), Bool.true_and, hr]
      have eu : fqN (d :: l.drop (n + 1)) = if d = 39 then some 0 else (fqN (l.drop (n + 1))).map (· + 1) := rfl
      rw [eu]
      by_cases k : d = 39
      · rw [if_pos k, decide_eq_true k]; simp
      · rw [if_neg k, decide_eq_false k]
        simp only [Option.map_map]
        congr 1
        funext x
        show x + (n + 1) = x + 1 + n
        omega
    · rw [decide_eq_false (by omega), Bool.false_and, List.drop_of_length_le (show l.length ≤ n + 1 by omega), List.drop_of_length_le (show l.length ≤ n by omega)]
      rfl
theorem quo_one : Str.ofString "'" = ⟨#[39]⟩ := by decide +kernel
theorem find_q {l : List Nat} {n : Nat} (h : n ≤ l.length) : Txt.find3 (tS l) "'" (n : Int) = match fqN (l.drop n) with | some k => ((n + k : Nat) : Int) | none => -1 := by
  unfold Txt.find3
  rw [show fromIndex (tS l).length (n : Int) = n by unfold fromIndex; omega, quo_one, occ_one, tS_len, fq_range l n _ (by omega)]
  cases fqN (l.drop n) with
  | none => rfl
  | some k => show ((k + n : Nat) : Int) = _; rw [Nat.add_comm]

def l_digit_T3 : DS := (dSeq (dAsg 3 (d2 fMod (dCB fInt (dCons (d2 fIxL (dVar 0) (dC (.int (0)))) dNil)) (dVar 1)))
  (dSeq (dSetI 0 (d2 fDivW (d2 fIxL (dVar 0) (dC (.int (0)))) (dVar 1)) (dC (.int (0))))
  (dRet (dVarM 3))))
theorem digit_end {q : Pl} {m : Int} {p : RS → List Sx → Prop} {a' b' : Int} {cs : List Int} {c4 : Sx} (hq : PlOk ⟨a', b', cs⟩) (h0 : 0 < m) (h1 : m < 2 ^ 40) (kk : ∀ (d : Nat) q', (d : Int) < m → PlOk q' → p (.val (.int (d : Int))) [.own (some 0) (.lst (plD q')), .val (.int m)]) :
    DL.Later l_digit_T3 (endsOf [.own (some 0) (.lst (plD q)), .val (.int m)] p) [.own (some 0) (.lst [.int a', .int b', .lst (intsD cs)]), .val (.int m), .val (.lst (intsD cs)), .no, c4] := by
  unfold l_digit_T3
  walk_at "xn"
  refine ⟨by omega, ?_⟩
  walk_at "xn"
  refine ⟨divW h0 h1, ?_⟩
  walk_at "xe"
  have e1 := Int.emod_nonneg a' (show m ≠ 0 by omega)
  have e2 := Int.emod_lt_of_pos a' h0
  obtain ⟨d, hd⟩ : ∃ d : Nat, a' % m = (d : Int) := ⟨(a' % m).toNat, by omega⟩
  rw [hd]
  rw [hd] at e2
  exact kk d ⟨a' / m, b', cs⟩ e2 ⟨Int.ediv_nonneg hq.a0 (by omega), hq.b0, hq.c0, hq.len⟩
theorem pure_l_digit (as : List Sx) (p : RS → List Sx → Prop) (hl : as.length = 2) (h : fs_l_digit as p) : ds_l_digit (endsOf as p) (startG 5 as) := by
  obtain ⟨q, m, rfl, hq, h0, h1, kk⟩ := h
  unfold ds_l_digit
  walk_at "xs"
  walk_at "xn"
  refine ⟨rfl, rfl, fun e => ⟨fun ne => ?_, fun e2 => ?_⟩, fun _ => ?_⟩
  · have cl := List.length_pos_iff.mpr ne
    have c63 := hq.len
    walk_at "xs"
    refine ⟨divW (by omega) (by omega), ?_⟩
    walk_at "xn"
    refine ⟨by omega, ?_⟩
    have j0 := Int.emod_nonneg q.b (show (q.cs.length : Int) ≠ 0 by omega)
    have j1 := Int.emod_lt_of_pos q.b (show (0 : Int) < q.cs.length by omega)
    obtain ⟨j, hj⟩ : ∃ j : Nat, q.b % (q.cs.length : Int) = (j : Int) := ⟨(q.b % (q.cs.length : Int)).toNat, by omega⟩
    rw [hj] at j1 ⊢
    have jl : j < q.cs.length := by omega
    have hc : q.cs[j]? = some q.cs[j] := List.getElem?_eq_getElem jl
    have c0 := hq.c0 q.cs[j] (List.getElem_mem jl)
    refine ⟨_, atI_nat (by rw [List.getElem?_map, hc]; rfl), ?_⟩
    refine ⟨trivial, ?_⟩
    walk_at "xe"
    have d0 : 0 ≤ q.b / (q.cs.length : Int) := Int.ediv_nonneg hq.b0 (by omega)
    exact digit_end (q := q) ⟨by show 0 ≤ _ + _; omega, by show 0 ≤ q.b + 1; have := hq.b0; omega, hq.c0, hq.len⟩ h0 h1 kk
  · exact digit_end (q := q) hq h0 h1 kk
  · exact digit_end (q := q) hq h0 h1 kk
theorem pure_stretch_end (as : List Sx) (p : RS → List Sx → Prop) (hl : as.length = 3) (h : fs_stretch_end as p) : ds_stretch_end (endsOf as p) (startG 3 as) := by
  obtain ⟨l, n, z, rfl, hn, hlen, kk⟩ := h
  unfold ds_stretch_end
  walk_at "xs"
  have tl : (tS l).length = l.length := tS_len
  refine while_ok (fun m γ => ∃ j : Nat, γ = [.val (.str (tS l)), .val (.int (j:Int)), .val (.str z)] ∧ n ≤ j ∧ j ≤ l.length ∧ m = l.length - j ∧ j + runN (inZ z) (l.drop j) = n + runN (inZ z) (l.drop n)) (l.length - n) ⟨n, rfl, Nat.le_refl _, hn, rfl, rfl⟩ ?_
  rintro m _ ⟨j, rfl, hnj, hj, rfl, e⟩
  walk_at "xd"
  have stop : runN (inZ z) (l.drop j) = 0 → DL.Later (dRet (dVarM 1)) (endsOf [.val (.str (tS l)), .val (.int (n : Int)), .val (.str z)] p) [.val (.str (tS l)), .val (.int (j : Int)), .val (.str z)] := fun z0 => by
    rw [z0, Nat.add_zero] at e
    walk_at "xe"
    rw [e]
    exact kk
  refine ⟨by omega, fun lt => ⟨by omega, ?_⟩, fun ge => stop ?_⟩
  · obtain ⟨c, hc, hd⟩ := drop_at (show j < l.length by omega)
    refine ⟨c, atI_tS hc, c, rfl, ?_⟩
    refine ⟨fun hz => ?_, fun hz => stop ?_⟩
    · refine ⟨_, ?_, j + 1, rfl, by omega, by omega, rfl, ?_⟩
      · omega
      · rw [← e, hd]
        have : runN (inZ z) (c :: l.drop (j + 1)) = runN (inZ z) (l.drop (j + 1)) + 1 := if_pos (decide_eq_true hz)
        rw [this]; omega
    · rw [hd]
      exact if_neg (by show ¬ decide (c ∈ z.cps.toList) = true; rw [decide_eq_false hz]; decide)
  · rw [List.drop_of_length_le (by omega)]; rfl
theorem pure_quoted_end (as : List Sx) (p : RS → List Sx → Prop) (hl : as.length = 2) (h : fs_quoted_end as p) : ds_quoted_end (endsOf as p) (startG 3 as) := by
  obtain ⟨l, n, rfl, hn, hlen, kk⟩ := h
  unfold ds_quoted_end
  walk_at "xs"
  rw [show ((n : Int) + 1) = ((n + 1 : Nat) : Int) by omega, find_q (by omega)]
  walk_at "xe"
  cases e : fqN (l.drop (n + 1)) with
  | none =>
    rw [e] at kk
    exact ⟨fun _ => kk, fun h => absurd (show (-1 : Int) < 0 by decide) h⟩
  | some k =>
    rw [e] at kk
    refine ⟨fun h => ?_, fun _ => ?_⟩
    · have h : ((n + 1 + k : Nat) : Int) < 0 := h
      omega
    · have : ((n + k + 2 : Nat) : Int) = ((n + 1 + k : Nat) : Int) + 1 := by omega
      rw [← this]
      exact kk

theorem lit_min : Str.ofString "-" = tS [45] := by decide +kernel
theorem lit_lt : Str.ofString "<" = tS [60] := by decide +kernel
theorem lit_gt : Str.ofString ">" = tS [62] := by decide +kernel
theorem lit_eq : Str.ofString "=" = tS [61] := by decide +kernel
theorem lit_quo : Str.ofString "'" = tS [39] := by decide +kernel
theorem lit_sp : Str.ofString " " = tS [32] := by decide +kernel
theorem lit_ne : Str.ofString "<>" = tS [60, 62] := by decide +kernel
theorem lit_le : Str.ofString "<=" = tS [60, 61] := by decide +kernel
theorem lit_ge : Str.ofString ">=" = tS [62, 61] := by decide +kernel
theorem lit_nil : Str.ofString "" = tS [] := by decide +kernel
theorem ch_eq {c d : Nat} : ((⟨#[c]⟩ : Str) = tS [d]) ↔ c = d := by
  rw [tS_one, tS_inj]; simp
theorem mem3 {c : Nat} : c ∈ (Str.ofString "(),").cps.toList ↔ c = 40 ∨ c = 41 ∨ c = 44 := by
  have e : (Str.ofString "(),").cps.toList = [40, 41, 44] := by decide +kernel
  rw [e]; simp
theorem mem4 {c : Nat} : c ∈ (Str.ofString "(),=").cps.toList ↔ c = 40 ∨ c = 41 ∨ c = 44 ∨ c = 61 := by
  have e : (Str.ofString "(),=").cps.toList = [40, 41, 44, 61] := by decide +kernel
  rw [e]; simp
theorem pure_number_end (as : List Sx) (p : RS → List Sx → Prop) (hl : as.length = 2) (h : fs_number_end as p) : ds_number_end (endsOf as p) (startG 4 as) := by
  obtain ⟨l, n, c, r, rfl, hd, hlen, kk⟩ := h
  have tl : (tS l).length = l.length := tS_len
  have hn : n < l.length := by
    have := congrArg List.length hd
    rw [List.length_drop, List.length_cons] at this
    omega
  obtain ⟨c', hc, hd2⟩ := drop_at hn
  rw [hd] at hd2
  injection hd2 with ec er
  subst ec
  unfold ds_number_end
  walk_at "xs"
  refine ⟨by omega, c, atI_tS hc, fun e => ?_, fun e => ?_⟩
  · rw [lit_min, ch_eq] at e
    rw [if_pos e] at kk
    rw [show (n : Int) + 1 = ((n + 1 : Nat) : Int) by omega]
    walk_at "xn"
    refine ⟨l, n + 1, _, rfl, by omega, hlen, ?_⟩
    rw [inZ_dF, ← er]
    walk_at "xe"
    refine ⟨fun g => ?_, fun g => ?_⟩
    · rw [if_pos (by omega)] at kk
      rw [show n + 1 + runN dgtN r = n + (runN dgtN r + 1) by omega]
      exact kk
    · rw [if_neg (by omega)] at kk
      exact kk
  · rw [lit_min, ch_eq] at e
    rw [if_neg e] at kk
    walk_at "xn"
    refine ⟨l, n, _, rfl, by omega, hlen, ?_⟩
    rw [inZ_dF, hd]
    walk_at "xe"
    refine ⟨fun g => kk, fun g => ?_⟩
    have z : runN dgtN (c :: r) = 0 := by omega
    rw [z] at kk
    exact kk
theorem any_long {c : Nat} {r : List Nat} : ([D.str "<>", D.str "<=", D.str ">="].any fun x => deq x (.str (tS ((c :: r).take 2)))) = lngN c r := by
  simp only [List.any_cons, List.any_nil, deq_str, lit_ne, lit_le, lit_ge, tS_inj, Bool.or_false]
  cases r with
  | nil => simp [lngN]
  | cons d r =>
    simp only [List.take_succ_cons, List.take_zero, List.cons.injEq, and_true, lngN]
    by_cases h1 : c = 60 <;> by_cases h2 : c = 62 <;> by_cases h3 : d = 61 <;> by_cases h4 : d = 62 <;> simp_all <;> omega
theorem any_signs {c : Nat} : ([D.str "=", D.str "<>", D.str "<", D.str "<=", D.str ">", D.str ">="].any fun x => deq x (.str ⟨#[c]⟩)) = decide (c = 60 ∨ c = 61 ∨ c = 62) := by
  simp only [List.any_cons, List.any_nil, deq_str, lit_ne, lit_le, lit_ge, lit_eq, lit_lt, lit_gt, tS_one, tS_inj, Bool.or_false]
  by_cases h1 : c = 60 <;> by_cases h2 : c = 62 <;> by_cases h3 : c = 61 <;> simp_all <;> omega
theorem pure_word_end (as : List Sx) (p : RS → List Sx → Prop) (hl : as.length = 2) (h : fs_word_end as p) : ds_word_end (endsOf as p) (startG 2 as) := by
  obtain ⟨l, n, rfl, hn, hlen, kk⟩ := h
  have tl : (tS l).length = l.length := tS_len
  obtain ⟨c, hc, hd⟩ := drop_at hn
  have n1 : (n : Int) + 1 = ((n + 1 : Nat) : Int) := by omega
  have n2 : (n : Int) + 2 = ((n + 2 : Nat) : Int) := by omega
  rw [hd, wl_c] at kk
  unfold ds_word_end
  walk_at "xs"
  refine ⟨by omega, c, atI_tS hc, c, rfl, fun h => ?_, fun h => ?_⟩
  · rw [mem3] at h
    rw [if_pos h] at kk
    exact kk
  rw [mem3] at h
  rw [if_neg h] at kk
  walk_at "xn"
  rw [n2, tS_slice (by omega) (by omega), hd, show n + 2 - n = 2 by omega, any_long]
  refine ⟨by omega, rfl, rfl, fun h => ?_, fun h => ?_⟩
  · rw [if_pos h] at kk
    exact kk
  rw [if_neg (by rw [h]; decide)] at kk
  walk_at "xn"
  refine ⟨by omega, c, atI_tS hc, rfl, rfl, ?_⟩
  rw [any_signs]
  refine ⟨fun h => ?_, fun h => ?_⟩
  · have h := of_decide_eq_true h
    rw [if_pos h] at kk
    exact kk
  have h := of_decide_eq_false h
  rw [if_neg h] at kk
  walk_at "xn"
  refine ⟨by omega, c, atI_tS hc, fun e => ?_, fun e => ?_⟩
  · rw [lit_quo, ch_eq] at e
    rw [if_pos e] at kk
    refine ⟨l, n, rfl, hn, hlen, ?_⟩
    cases q : fqN (l.drop (n + 1)) with
    | none => rw [q] at kk; walk_at "x"; exact kk
    | some k => rw [q] at kk; walk_at "x"; exact kk
  rw [lit_quo, ch_eq] at e
  rw [if_neg e] at kk
  walk_at "xn"
  refine ⟨by omega, c, atI_tS hc, c, rfl, fun e => ?_, fun e => ?_⟩
  · have e : inZ lettersS c = true := decide_eq_true e
    rw [inZ_l] at e
    rw [if_pos e] at kk
    refine ⟨l, n, _, rfl, by omega, hlen, ?_⟩
    walk_at "x"
    rw [show inZ (Str.ofString "abcdefghijklmnopqrstuvwxyz") = ltrN from inZ_lF, hd]
    exact kk
  have e : inZ lettersS c = false := decide_eq_false e
  rw [inZ_l] at e
  rw [if_neg (by rw [e]; decide)] at kk
  walk_at "xe"
  refine ⟨l, n, c, _, rfl, hd, hlen, ?_⟩
  walk_at "x"
  exact kk

/-- behind the spaces there is no space -/
theorem sp_stop {l : List Nat} {n : Nat} : ∀ c r, l.drop (n + runN (fun c => decide (c = 32)) (l.drop n)) = c :: r → c ≠ 32 := fun c r h => by
  rw [← List.drop_drop] at h
  have := run_stop _ h
  exact of_decide_eq_false this
theorem tk_spaces {l : List Nat} {n : Nat} {us : List (List Nat)} {b : Bool} (t : TkN (l.drop n) us b) : TkN (l.drop (n + runN (fun c => decide (c = 32)) (l.drop n))) us b := by
  rw [← List.drop_drop]
  exact tk_run t
theorem spaces_le {l : List Nat} {n : Nat} (h : n ≤ l.length) : n + runN (fun c => decide (c = 32)) (l.drop n) ≤ l.length := by
  have := run_le (fun c => decide (c = 32)) (l.drop n)
  rw [List.length_drop] at this
  omega
theorem tsD_snoc {vs : List (List Nat)} {w : List Nat} : tsD vs ++ [D.str (tS w)] = tsD (vs ++ [w]) := by simp [tsD]
theorem pure_split_words (as : List Sx) (p : RS → List Sx → Prop) (x : Nat → Xf → List Sx → Prop) (hl : as.length = 1) (h : fs_split_words as p x) : ds_split_words (xcOf as x) (endsOf as p) (startG 4 as) := by
  obtain ⟨l, ws, b, rfl, tk, hlen, k1, k2⟩ := h
  have tl : (tS l).length = l.length := tS_len
  unfold ds_split_words
  walk_at "xs"
  walk_at "xn"
  refine ⟨l, 0, _, rfl, by omega, hlen, ?_⟩
  rw [inZ_spF]
  have s0 := spaces_le (l := l) (n := 0) (by omega)
  have t0 := tk_spaces (l := l) (n := 0) tk
  have p0 := sp_stop (l := l) (n := 0)
  generalize 0 + runN (fun c => decide (c = 32)) (l.drop 0) = j0 at s0 t0 p0 ⊢
  walk_at "xn"
  refine while_ok (fun m γ => ∃ (j : Nat) (vs us : List (List Nat)) (t : Sx), γ = [.val (.str (tS l)), .own none (.lst (tsD vs)), .val (.int (j : Int)), t] ∧ j ≤ l.length ∧ m = l.length - j ∧ TkN (l.drop j) us b ∧ ws = vs ++ us ∧ vs.length ≤ j ∧ (∀ c r, l.drop j = c :: r → c ≠ 32)) (l.length - j0) ⟨j0, [], ws, _, rfl, s0, rfl, t0, rfl, Nat.zero_le _, p0⟩ ?_
  rintro m _ ⟨j, vs, us, t, rfl, hj, rfl, tk, ew, lv, sp⟩
  have lts : (tsD vs).length = vs.length := List.length_map _
  walk_at "xd"
  refine ⟨by omega, fun lt => ?_, fun ge => ?_⟩
  · obtain ⟨c, hc, hd⟩ := drop_at (show j < l.length by omega)
    walk_at "xs"
    refine ⟨l, j, rfl, by omega, hlen, ?_⟩
    have nc := sp c _ hd
    rw [hd] at tk
    have wle := wl_le (c :: l.drop (j + 1))
    rw [List.length_cons, List.length_drop] at wle
    rw [hd]
    walk_at "xn"
    refine ⟨fun e => ?_, fun e => ?_⟩
    · have z : wlN (c :: l.drop (j + 1)) = 0 := by omega
      obtain ⟨e1, e2⟩ := tk_bad tk nc z
      subst e1 e2
      rw [List.append_nil] at ew
      subst ew
      exact k2 rfl
    · have z : wlN (c :: l.drop (j + 1)) ≠ 0 := by omega
      obtain ⟨us', e1, tk'⟩ := tk_word tk nc z
      subst e1
      walk_at "xn"
      generalize hk : wlN (c :: l.drop (j + 1)) = k at *
      have kj : j + k ≤ l.length := by omega
      have ed : (c :: l.drop (j + 1)).drop k = l.drop (j + k) := by rw [← hd, List.drop_drop]
      rw [ed] at tk'
      have esl : Txt.slice (tS l) (some (j : Int)) (some ((j + k : Nat) : Int)) = tS ((c :: l.drop (j + 1)).take k) := by
        rw [tS_slice (by omega) (by omega), hd, Nat.add_sub_cancel_left]
      rw [esl, tsD_snoc]
      refine ⟨by omega, by omega, ?_⟩
      walk_at "xe"
      refine ⟨l, j + k, _, rfl, kj, hlen, ?_⟩
      rw [inZ_spF]
      walk_at "xd"
      refine ⟨_, ?_, _, vs ++ [(c :: l.drop (j + 1)).take k], us', _, rfl, spaces_le kj, rfl, tk_spaces tk', by rw [ew, List.append_assoc]; rfl, ?_, sp_stop⟩
      · have := spaces_le kj; omega
      · rw [List.length_append, List.length_singleton]; omega
  · have z : l.drop j = [] := List.drop_of_length_le (by omega)
    rw [z] at tk
    obtain ⟨e1, e2⟩ := tk_nil tk
    subst e1 e2
    rw [List.append_nil] at ew
    subst ew
    walk_at "xe"
    exact k1 rfl

theorem pure_l_drawn (as : List Sx) (p : RS → List Sx → Prop) (hl : as.length = 3) (h : fs_l_drawn as p) : ds_l_drawn (endsOf as p) (startG 5 as) := by
  obtain ⟨q, z, n, rfl, hq, z0, z1, hn, kk⟩ := h
  unfold ds_l_drawn
  walk_at "xs"
  refine ⟨by omega, ?_⟩
  walk_at "xe"
  refine ⟨by omega, by omega, lc_ok (by omega) (fun i acc γ => ∃ (q : Pl) (w : List Nat), acc = (w.map fun c => D.str (tS [c])) ∧ w.length = i ∧ (∀ c ∈ w, inZ z c = true) ∧ PlOk q ∧ γ = [.own (some 0) (.lst (plD q)), .val (.str z), .val (.int (n : Int)), .val (.int z.length), .no]) ⟨q, [], rfl, rfl, fun _ h => (by cases h), hq, rfl⟩ ?_ ?_⟩
  · rintro i acc _ hi ⟨q, w, rfl, lw, hw, hq, rfl⟩ _ rfl
    walk_at "xd"
    refine ⟨q, z.length, rfl, hq, by omega, by omega, fun d q' hd hq' => ?_⟩
    have hd : d < z.cps.toList.length := by rw [Array.length_toList]; exact Int.ofNat_lt.mp hd
    have hc : z.cps.toList[d]? = some z.cps.toList[d] := List.getElem?_eq_getElem hd
    walk_at "xd"
    refine ⟨by omega, _, atI_nat hc, q', w ++ [z.cps.toList[d]], by simp [tS_one], by simp [lw], fun c hcm => ?_, hq', rfl⟩
    rcases List.mem_append.mp hcm with h | h
    · exact hw c h
    · rw [List.mem_singleton.mp h]; exact decide_eq_true (List.getElem_mem hd)
  · rintro acc _ ⟨q', w, rfl, lw, hw, hq', rfl⟩
    walk_at "xd"
    have e1 : (w.map fun c => D.str (tS [c])) = (w.map fun c => tS [c]).map D.str := by rw [List.map_map]; rfl
    have es : ((w.map fun c => tS [c]).map (·.length)).sum ≤ w.length := by
      rw [List.map_map]
      have : ((fun x : Str => x.length) ∘ fun c => tS [c]) = fun _ : Nat => 1 := rfl
      rw [this]
      have : ∀ w : List Nat, (w.map fun _ => 1).sum = w.length := fun w => by
        induction w with
        | nil => rfl
        | cons c r ih => rw [List.map_cons, List.sum_cons, ih, List.length_cons]; omega
      rw [this]
      exact Nat.le_refl _
    refine ⟨w.map fun c => tS [c], by rw [e1]; exact strsD_map _, ?_, ?_⟩
    · have : (Str.ofString "").length = 0 := by decide +kernel
      rw [this, Nat.mul_zero]; omega
    · rw [join_ones]
      exact kk w q' (by omega) hw hq'
theorem at_last {z : List Nat} {a : Nat} (h : z.getLast? = some a) : atI (tS z).cps.toList (-1) = some a := by
  rw [tS_cps]
  have hn : z ≠ [] := fun e => by rw [e] at h; cases h
  have := List.length_pos_iff.mpr hn
  unfold atI
  rw [show ixN z.length (-1) = some (z.length - 1) by unfold ixN; simp; omega]
  rw [List.getLast?_eq_getElem?] at h
  exact h
def l_one_T4 : DS := (dSeq (dIf (dAnd (dB (d2 (fInC false) (d2 fIxS (dVar 0) (d1 fNeg (dC (.int (1))))) (dVar 3))) (dB (d2 (fInC false) (d2 fIxS (dVar 1) (dC (.int (0)))) (dVar 3)))) (dRet (dC (.bl true))) dNext)
  (dSeq (dIf (dB (d2 fEq (dVar 0) (dC (.str "<")))) (dRet (d2 (fInC false) (d2 fIxS (dVar 1) (dC (.int (0)))) (dC (.str "=>")))) dNext)
  (dRet (dAndV (d2 fEq (dVar 0) (dC (.str ">"))) (d2 fEq (d2 fIxS (dVar 1) (dC (.int (0)))) (dC (.str "=")))))))
def l_one_T5 : DS := (dSeq (dIf (dB (d2 fEq (dVar 0) (dC (.str "<")))) (dRet (d2 (fInC false) (d2 fIxS (dVar 1) (dC (.int (0)))) (dC (.str "=>")))) dNext)
  (dRet (dAndV (d2 fEq (dVar 0) (dC (.str ">"))) (d2 fEq (d2 fIxS (dVar 1) (dC (.int (0)))) (dC (.str "="))))))
theorem one_T5 {z w : List Nat} {a c : Nat} {p : RS → List Sx → Prop} {q3 : Sx} (ha : z.getLast? = some a) (hw : (tS w).cps.toList[0]? = some c) (lz : z.length ≤ 1000) (lw : w.length ≤ 1000)
    (kk : p (.val (.bl ((decide (z = [60]) && decide (c = 61 ∨ c = 62)) || (decide (z = [62]) && decide (c = 61))))) [.val (.str (tS z)), .val (.str (tS w))]) :
    DL.Later l_one_T5 (endsOf [.val (.str (tS z)), .val (.str (tS w))] p) [.val (.str (tS z)), .val (.str (tS w)), .val (.str lettersS), q3] := by
  have tz : (tS z).length = z.length := tS_len
  have tw : (tS w).length = w.length := tS_len
  unfold l_one_T5
  walk_at "xn"
  refine ⟨fun e => ?_, fun e => ?_⟩
  · rw [lit_lt, tS_inj] at e
    subst e
    have m2 : (Str.ofString "=>").cps.toList = [61, 62] := by decide +kernel
    have e2 : decide (c ∈ (Str.ofString "=>").cps.toList) = decide (c = 61 ∨ c = 62) := by rw [m2]; simp
    refine ⟨by omega, c, atI_nat hw, c, rfl, ?_⟩
    rw [e2]
    simpa using kk
  · rw [lit_lt, tS_inj] at e
    rw [decide_eq_false e, Bool.false_and, Bool.false_or] at kk
    walk_at "xe"
    refine ⟨fun e => ?_, fun e => ?_⟩
    · rw [lit_gt, tS_inj] at e
      subst e
      refine ⟨by omega, c, atI_nat hw, ?_⟩
      have e3 : decide ((⟨#[c]⟩ : Str) = Str.ofString "=") = decide (c = 61) := decide_eq_decide.mpr (by rw [lit_eq, ch_eq])
      rw [e3]
      simpa using kk
    · rw [lit_gt, tS_inj] at e
      rw [decide_eq_false e, Bool.false_and] at kk
      exact kk
theorem one_T4 {z w : List Nat} {a c : Nat} {p : RS → List Sx → Prop} (ha : z.getLast? = some a) (hw : (tS w).cps.toList[0]? = some c) (lz : z.length ≤ 1000) (lw : w.length ≤ 1000)
    (kk : p (.val (.bl ((dgtN a && dgtN c) || (decide (z = [60]) && decide (c = 61 ∨ c = 62)) || (decide (z = [62]) && decide (c = 61))))) [.val (.str (tS z)), .val (.str (tS w))]) :
    DL.Later l_one_T4 (endsOf [.val (.str (tS z)), .val (.str (tS w))] p) [.val (.str (tS z)), .val (.str (tS w)), .val (.str lettersS), .val (.str "0123456789")] := by
  have tz : (tS z).length = z.length := tS_len
  have tw : (tS w).length = w.length := tS_len
  unfold l_one_T4
  walk_at "xn"
  refine ⟨by omega, a, at_last ha, a, rfl, fun h => ?_, fun h => ?_⟩
  · have h : inZ "0123456789" a = true := decide_eq_true h
    rw [inZ_d] at h
    refine ⟨by omega, c, atI_nat hw, c, rfl, fun h2 => ?_, fun h2 => ?_⟩
    · have h2 : inZ "0123456789" c = true := decide_eq_true h2
      rw [inZ_d] at h2
      rw [h, h2] at kk
      exact kk
    · have h2 : inZ "0123456789" c = false := decide_eq_false h2
      rw [inZ_d] at h2
      rw [h2, Bool.and_false, Bool.false_or] at kk
      exact one_T5 ha hw lz lw kk
  · have h : inZ "0123456789" a = false := decide_eq_false h
    rw [inZ_d] at h
    rw [h, Bool.false_and, Bool.false_or] at kk
    exact one_T5 ha hw lz lw kk
theorem pure_l_one (as : List Sx) (p : RS → List Sx → Prop) (hl : as.length = 2) (h : fs_l_one as p) : ds_l_one (endsOf as p) (startG 4 as) := by
  obtain ⟨z, w, c, r, rfl, ew, lz, lw, kk⟩ := h
  unfold ds_l_one
  walk_at "xs"
  refine ⟨rfl, ?_⟩
  walk_at "xn"
  walk_at "xn"
  have tz : (tS z).length = z.length := tS_len
  have tw : (tS w).length = w.length := tS_len
  refine ⟨fun e => ?_, fun e => ?_⟩
  · rw [lit_nil, tS_inj] at e
    subst e
    exact kk
  rw [lit_nil, tS_inj] at e
  obtain ⟨a, ha⟩ := getLast_of e
  have hw : (tS w).cps.toList[0]? = some c := by rw [tS_cps, ew]; rfl
  have key : oneN z c = ((ltrN a && ltrN c) || (dgtN a && dgtN c) || (decide (z = [60]) && decide (c = 61 ∨ c = 62)) || (decide (z = [62]) && decide (c = 61))) := by
    unfold oneN
    rw [ha]
  rw [key] at kk
  walk_at "xn"
  refine ⟨by omega, a, at_last ha, a, rfl, fun h => ?_, fun h => ?_⟩
  · have h : inZ lettersS a = true := decide_eq_true h
    rw [inZ_l] at h
    refine ⟨by omega, c, atI_nat hw, c, rfl, fun h2 => ?_, fun h2 => ?_⟩
    · have h2 : inZ lettersS c = true := decide_eq_true h2
      rw [inZ_l] at h2
      rw [h, h2] at kk
      exact kk
    · have h2 : inZ lettersS c = false := decide_eq_false h2
      rw [inZ_l] at h2
      rw [h2, Bool.and_false, Bool.false_or] at kk
      exact one_T4 ha hw lz lw kk
  · have h : inZ lettersS a = false := decide_eq_false h
    rw [inZ_l] at h
    rw [h, Bool.false_and, Bool.false_or] at kk
    exact one_T4 ha hw lz lw kk

theorem keys_ok : ∀ s ∈ keysS, s.cps.toList ≠ [] ∧ s.cps.toList.length ≤ 14 ∧ ∀ c ∈ s.cps.toList, ltrN c = true := by decide +kernel
theorem gw_ltr {w : List Nat} (n : w ≠ []) (l : w.length ≤ 14) (h : ∀ c ∈ w, ltrN c = true) : GW w := ⟨wd_ltr n h, l, fun c hc => by have := ltr_ne (h c hc); omega⟩
theorem gw_dgt {w : List Nat} (n : w ≠ []) (l : w.length ≤ 14) (h : ∀ c ∈ w, dgtN c = true) : GW w := ⟨wd_dgt n h, l, fun c hc => by have := dgt_ne (h c hc); omega⟩
theorem gw_neg {w : List Nat} (n : w ≠ []) (l : w.length ≤ 13) (h : ∀ c ∈ w, dgtN c = true) : GW (45 :: w) := ⟨wd_neg n h, by rw [List.length_cons]; omega, fun c hc => by
  rcases List.mem_cons.mp hc with rfl | hc
  · decide
  · have := dgt_ne (h c hc); omega⟩
theorem gw_quo {w : List Nat} (l : w.length ≤ 12) (h : ∀ c ∈ w, c ≠ 39) (h2 : cpOk w) : GW (39 :: (w ++ [39])) := ⟨wd_quo h, by simp; omega, fun c hc => by
  rcases List.mem_cons.mp hc with rfl | hc
  · decide
  · rcases List.mem_append.mp hc with hc | hc
    · exact h2 c hc
    · rw [List.mem_singleton.mp hc]; decide⟩
theorem signs_ok : ∀ s ∈ signsS, s.cps.toList = [61] ∨ s.cps.toList = [60, 62] ∨ s.cps.toList = [60] ∨ s.cps.toList = [60, 61] ∨ s.cps.toList = [62] ∨ s.cps.toList = [62, 61] ∨ s.cps.toList = [40] ∨ s.cps.toList = [41] ∨ s.cps.toList = [44] := by decide +kernel
theorem gw_sign {s : Str} (h : s ∈ signsS) : GW s.cps.toList := by
  rcases signs_ok s h with e | e | e | e | e | e | e | e | e <;> rw [e]
  · exact ⟨wd_one (by omega), by decide, by unfold cpOk; decide⟩
  · exact ⟨wd_two (by omega), by decide, by unfold cpOk; decide⟩
  · exact ⟨wd_ls (by omega), by decide, by unfold cpOk; decide⟩
  · exact ⟨wd_two (by omega), by decide, by unfold cpOk; decide⟩
  · exact ⟨wd_ls (by omega), by decide, by unfold cpOk; decide⟩
  · exact ⟨wd_two (by omega), by decide, by unfold cpOk; decide⟩
  · exact ⟨wd_one (by omega), by decide, by unfold cpOk; decide⟩
  · exact ⟨wd_one (by omega), by decide, by unfold cpOk; decide⟩
  · exact ⟨wd_one (by omega), by decide, by unfold cpOk; decide⟩
def quoS : Str := "abcdefghijklmnopqrstuvwxyz 0123456789(),<>=-!\"#$&*+./:;?\x40[\\]^_`{|}~ABCDEFGHIJKLMNOPQRSTUVWXYZ"
theorem quo_ok : (∀ c ∈ quoS.cps.toList, c ≠ 39) ∧ (∀ c ∈ quoS.cps.toList, c < 1000) ∧ 0 < quoS.length ∧ quoS.length ≤ 1000 := by decide +kernel
theorem quo_app : lettersS ++ Str.ofString " 0123456789(),<>=-" ++ strangeS = quoS := by decide +kernel
theorem strs_at {ss : List Str} {d : Nat} (h : d < ss.length) : ∃ s, s ∈ ss ∧ atI (strsD ss) (d : Int) = some (.str (tS s.cps.toList)) := ⟨ss[d], List.getElem_mem h, atI_nat (by rw [List.getElem?_map, List.getElem?_eq_getElem h, ← tS_eta]; rfl)⟩
theorem sizes_at {d : Nat} (h : d < 9) : ∃ n : Nat, n ≤ 8 ∧ atI [D.int 3, D.int 0, D.int 1, D.int 2, D.int 4, D.int 5, D.int 6, D.int 7, D.int 8] (d : Int) = some (.int (n : Int)) := by
  have : ∀ d < 9, ∃ n : Nat, n ≤ 8 ∧ [D.int 3, D.int 0, D.int 1, D.int 2, D.int 4, D.int 5, D.int 6, D.int 7, D.int 8][d]? = some (.int (n : Int)) := by
    intro d hd
    match d, hd with
    | 0, _ => exact ⟨3, by decide, rfl⟩
    | 1, _ => exact ⟨0, by decide, rfl⟩
    | 2, _ => exact ⟨1, by decide, rfl⟩
    | 3, _ => exact ⟨2, by decide, rfl⟩
    | 4, _ => exact ⟨4, by decide, rfl⟩
    | 5, _ => exact ⟨5, by decide, rfl⟩
    | 6, _ => exact ⟨6, by decide, rfl⟩
    | 7, _ => exact ⟨7, by decide, rfl⟩
    | 8, _ => exact ⟨8, by decide, rfl⟩
  obtain ⟨n, h1, h2⟩ := this d h
  exact ⟨n, h1, atI_nat h2⟩
theorem pure_l_word (as : List Sx) (p : RS → List Sx → Prop) (hl : as.length = 1) (h : fs_l_word as p) : ds_l_word (endsOf as p) (startG 5 as) := by
  obtain ⟨q, rfl, hq, kk⟩ := h
  unfold ds_l_word
  walk_at "xs"
  refine ⟨q, 8, rfl, hq, by decide, by decide, fun k q hk hq => ?_⟩
  walk_at "xn"
  refine ⟨fun h => ?_, fun h => ?_⟩
  · walk_at "xs"
    refine ⟨rfl, ?_⟩
    walk_at "xe"
    refine ⟨q, _, rfl, hq, by decide, by decide, fun d q hd hq => ?_⟩
    obtain ⟨s, hs, ha⟩ := strs_at (ss := keysS) (Int.ofNat_lt.mp hd)
    walk_at "xd"
    refine ⟨_, ha, ?_⟩
    obtain ⟨k1, k2, k3⟩ := keys_ok s hs
    exact kk _ q (gw_ltr k1 k2 k3) hq
  walk_at "xn"
  refine ⟨fun h => ?_, fun h => ?_⟩
  · refine ⟨rfl, q, 12, rfl, hq, by decide, by decide, fun d q hd hq => ?_⟩
    walk_at "xd"
    rw [show (1 : Int) + (d : Int) = ((d + 1 : Nat) : Int) by omega]
    refine ⟨q, _, d + 1, rfl, hq, by decide +kernel, by decide +kernel, by omega, fun w q lw hw hq => ?_⟩
    walk_at "xd"
    exact kk w q (gw_ltr (fun e => by rw [e] at lw; cases lw) (by omega) fun c hc => by rw [← inZ_l]; exact hw c hc) hq
  walk_at "xn"
  refine ⟨fun h => ?_, fun h => ?_⟩
  · refine ⟨q, 12, rfl, hq, by decide, by decide, fun d q hd hq => ?_⟩
    walk_at "xd"
    rw [show (1 : Int) + (d : Int) = ((d + 1 : Nat) : Int) by omega]
    refine ⟨q, _, d + 1, rfl, hq, by decide +kernel, by decide +kernel, by omega, fun w q lw hw hq => ?_⟩
    walk_at "xd"
    exact kk w q (gw_dgt (fun e => by rw [e] at lw; cases lw) (by omega) fun c hc => by rw [← inZ_d]; exact hw c hc) hq
  walk_at "xn"
  refine ⟨fun h => ?_, fun h => ?_⟩
  · refine ⟨q, 12, rfl, hq, by decide, by decide, fun d q hd hq => ?_⟩
    walk_at "xd"
    rw [show (1 : Int) + (d : Int) = ((d + 1 : Nat) : Int) by omega]
    refine ⟨q, _, d + 1, rfl, hq, by decide +kernel, by decide +kernel, by omega, fun w q lw hw hq => ?_⟩
    walk_at "xd"
    rw [lit_min, tS_app]
    refine ⟨by rw [tS_len, tS_len]; simp; omega, ?_⟩
    exact kk (45 :: w) q (gw_neg (fun e => by rw [e] at lw; cases lw) (by omega) fun c hc => by rw [← inZ_d]; exact hw c hc) hq
  walk_at "xn"
  refine ⟨fun h => ?_, fun h => ?_⟩
  · refine ⟨rfl, q, 9, rfl, hq, by decide, by decide, fun d q hd hq => ?_⟩
    obtain ⟨s, hs, ha⟩ := strs_at (ss := signsS) (d := d) (by show d < 9; omega)
    walk_at "xd"
    refine ⟨_, ha, ?_⟩
    exact kk _ q (gw_sign hs) hq
  walk_at "xn"
  refine ⟨rfl, trivial, by decide +kernel, rfl, ?_⟩
  walk_at "xd"
  refine ⟨by decide +kernel, ?_⟩
  rw [quo_app]
  walk_at "xn"
  refine ⟨q, 9, rfl, hq, by decide, by decide, fun d q hd hq => ?_⟩
  obtain ⟨n, hn, ha⟩ := sizes_at (d := d) (by omega)
  walk_at "xd"
  refine ⟨_, ha, ?_⟩
  walk_at "xe"
  refine ⟨q, quoS, n, rfl, hq, quo_ok.2.2.1, quo_ok.2.2.2, by omega, fun w q lw hw hq => ?_⟩
  walk_at "xd"
  have lt : (tS w).length = w.length := tS_len
  have l1 : (Str.ofString "'").length = 1 := by decide +kernel
  rw [lit_quo, tS_app]
  rw [lit_quo] at l1
  refine ⟨by omega, by rw [tS_len, l1]; simp; omega, ?_⟩
  rw [tS_app]
  exact kk (39 :: (w ++ [39])) q (gw_quo (by omega) (fun c hc => quo_ok.1 c (of_decide_eq_true (hw c hc))) fun c hc => quo_ok.2.1 c (of_decide_eq_true (hw c hc))) hq

theorem gw_cons {w : List Nat} (h : GW w) : ∃ c r, w = c :: r ∧ c ≠ 32 := h.wd.1
theorem sp_mul {g : Nat} : Txt.mul (tS [32]) (g : Int) = tS (List.replicate g 32) := by rw [← tS_one, tS_mul, Int.toNat_natCast]
theorem mul_ok {g : Nat} (h : g ≤ 10) : MulOk (tS [32]) (g : Int) := by
  exact mulOk_small (by omega) (by omega)
theorem join_step {q : Pl} {ws : List (List Nat)} {l z w : List Nat} {g i : Nat} {E : DEnds} (gw : GW w) (hg : g ≤ 3) (ll : l.length ≤ 16 * i) (i60 : i ≤ 60)
    (hk : E.nx [.own (some 0) (.lst (plD q)), .val (.lst (tsD ws)), .val (.str (tS (l ++ List.replicate g 32 ++ w))), .val (.str (tS w)), .val (.str (tS w)), .val (.int (g : Int))]) :
    DL.Later (dSeq (dAsg 2 (d2 fAddS (d2 fAddS (dVar 2) (d2 fMulS (dC (.str " ")) (dVar 5))) (dVar 4))) (dAsg 3 (dVarV 4))) E [.own (some 0) (.lst (plD q)), .val (.lst (tsD ws)), .val (.str (tS l)), .val (.str (tS z)), .val (.str (tS w)), .val (.int (g : Int))] := by
  have lw := gw.len
  walk_at "xn"
  rw [lit_sp, sp_mul, tS_app, tS_app]
  have l1 : (tS l).length = l.length := tS_len
  have l2 : (tS w).length = w.length := tS_len
  have l3 : (tS (List.replicate g 32)).length = g := by rw [tS_len, List.length_replicate]
  have l4 : (tS (l ++ List.replicate g 32)).length = l.length + g := by rw [tS_len, List.length_append, List.length_replicate]
  refine ⟨mul_ok (by omega), by omega, by omega, ?_⟩
  walk_at "xe"
  exact hk
theorem pure_l_join (as : List Sx) (p : RS → List Sx → Prop) (hl : as.length = 2) (h : fs_l_join as p) : ds_l_join (endsOf as p) (startG 6 as) := by
  obtain ⟨q, ws, rfl, hq, hw, lw, kk⟩ := h
  have lts : (tsD ws).length = ws.length := List.length_map _
  unfold ds_l_join
  walk_at "xs"
  walk_at "xn"
  walk_at "xn"
  rw [lit_nil]
  refine for_ok (fun i γ => ∃ (q : Pl) (l z : List Nat) (t u : Sx), γ = [.own (some 0) (.lst (plD q)), .val (.lst (tsD ws)), .val (.str (tS l)), .val (.str (tS z)), t, u] ∧ PlOk q ∧ z.length ≤ 14 ∧ l.length ≤ 16 * i ∧ ∀ m, JnN z (ws.drop i) m → JnN [] ws (l ++ m)) ⟨q, [], [], _, _, rfl, hq, by decide, by decide, fun m h => h⟩ ?_ ?_
  · rintro i _ hi ⟨q, l, z, t, u, rfl, hq, lz, ll, jn⟩ x hx
    obtain ⟨w, hwi, hd⟩ : ∃ w, ws[i]? = some w ∧ ws.drop i = w :: ws.drop (i + 1) := ⟨ws[i], List.getElem?_eq_getElem hi, List.drop_eq_getElem_cons hi⟩
    rw [List.getElem?_map, hwi] at hx
    cases hx
    have gw := hw w (List.mem_of_getElem? hwi)
    obtain ⟨c, r, ew, nc⟩ := gw_cons gw
    have gl := gw.len
    refine q_seq ?_
    walk_at "xd"
    refine ⟨q, 3, rfl, hq, by decide, by decide, fun g q hg hq => ?_⟩
    -- the step
    have stp : ∀ g : Nat, g ≤ 2 → (g = 0 → oneN z c = false) → ∀ m, JnN w (ws.drop (i + 1)) m → JnN [] ws (l ++ List.replicate g 32 ++ w ++ m) := fun g hg ng m h => by
      have := jn (List.replicate g 32 ++ w ++ m) (by
        rw [hd]
        exact ⟨g, m, rfl, fun e c' r' e' => by rw [ew] at e'; cases e'; exact ng e, h⟩)
      simpa [List.append_assoc] using this
    have fin : ∀ g : Nat, g ≤ 2 → (g = 0 → oneN z c = false) → ∃ (q' : Pl) (l' z' : List Nat) (t u : Sx), [Sx.own (some 0) (.lst (plD q)), .val (.lst (tsD ws)), .val (.str (tS (l ++ List.replicate g 32 ++ w))), .val (.str (tS w)), .val (.str (tS w)), .val (.int (g : Int))] = [.own (some 0) (.lst (plD q')), .val (.lst (tsD ws)), .val (.str (tS l')), .val (.str (tS z')), t, u] ∧ PlOk q' ∧ z'.length ≤ 14 ∧ l'.length ≤ 16 * (i + 1) ∧ ∀ m, JnN z' (ws.drop (i + 1)) m → JnN [] ws (l' ++ m) := fun g hg ng =>
      ⟨q, _, w, _, _, rfl, hq, gl, by rw [List.length_append, List.length_append, List.length_replicate]; omega, stp g hg ng⟩
    walk_at "xn"
    refine ⟨fun e => ?_, fun e => ?_⟩
    · refine ⟨z, w, c, r, rfl, ew, by omega, by omega, ?_⟩
      walk_at "xd"
      refine ⟨fun o => ?_, fun o => ?_⟩
      · exact join_step (g := 1) gw (by omega) ll (by omega) (fin 1 (by omega) fun z => absurd z (by omega))
      · exact join_step (g := g) gw (by omega) ll (by omega) (fin g (by omega) fun _ => o)
    · exact join_step (g := g) gw (by omega) ll (by omega) (fin g (by omega) fun z => absurd (by omega) e)
  · rintro _ ⟨q', l, z, t, u, rfl, hq', lz, ll, jn⟩
    walk_at "xe"
    have := jn [] (by rw [List.drop_of_length_le (by omega)]; exact rfl)
    rw [List.append_nil] at this
    exact kk l q' this (by omega) hq'

theorem pure_l_stretch (as : List Sx) (p : RS → List Sx → Prop) (hl : as.length = 3) (h : fs_l_stretch as p) : ds_l_stretch (endsOf as p) (startG 5 as) := by
  obtain ⟨l, n, z, rfl, hn, hlen, kk⟩ := h
  have tl : (tS l).length = l.length := tS_len
  unfold ds_l_stretch
  walk_at "xs"
  walk_at "xn"
  rw [tS_from hn]
  refine ⟨by omega, ?_⟩
  have sz : (tS (l.drop n)).cps.size = (l.drop n).length := tS_len
  refine for_ok (fun i γ => ∃ t, γ = [.val (.str (tS l)), .val (.int (n : Int)), .val (.str z), .val (.int (i : Int)), t] ∧ i ≤ (l.drop n).length ∧ i + runN (inZ z) ((l.drop n).drop i) = runN (inZ z) (l.drop n)) ⟨_, rfl, Nat.zero_le _, by rw [List.drop_zero, Nat.zero_add]⟩ ?_ ?_
  · rintro i _ hi ⟨t, rfl, hle, e⟩ x ⟨c, hc, rfl⟩
    rw [sz] at hi
    obtain ⟨c', hc', hd⟩ := drop_at hi
    have : c' = c := by
      have h2 : (tS (l.drop n)).cps.toList[i]? = some c := by rw [Array.getElem?_toList]; exact hc
      rw [tS_cps, hc'] at h2
      exact Option.some.inj h2
    subst this
    refine q_seq ?_
    walk_at "xd"
    refine ⟨c', rfl, fun hz => ?_, fun hz => ?_⟩
    · have z0 : runN (inZ z) ((l.drop n).drop i) = 0 := by
        rw [hd]
        exact if_neg (by show ¬ decide (c' ∈ z.cps.toList) = true; rw [decide_eq_false hz]; decide)
      rw [z0, Nat.add_zero] at e
      rw [e]
      exact kk
    · walk_at "xe"
      refine ⟨_, rfl, by omega, ?_⟩
      rw [← e, hd]
      have : runN (inZ z) (c' :: (l.drop n).drop (i + 1)) = runN (inZ z) ((l.drop n).drop (i + 1)) + 1 := if_pos (decide_eq_true (by simpa using hz))
      rw [this]; omega
  · rintro _ ⟨t, rfl, hle, e⟩
    rw [sz, List.drop_length] at e
    walk_at "xe"
    rw [sz, show (l.drop n).length = runN (inZ z) (l.drop n) from e]
    exact kk
theorem any_hd {r : List Nat} : ([D.str "=", D.str ">"].any fun x => deq x (.str (tS (r.take 1)))) = (hd1N r 61 || hd1N r 62) := by
  simp only [List.any_cons, List.any_nil, deq_str, lit_eq, lit_gt, tS_inj, Bool.or_false]
  cases r with
  | nil => rfl
  | cons d r => simp [hd1N, eq_comm]
theorem eq_hd {r : List Nat} : (tS (r.take 1) = Str.ofString "=") ↔ hd1N r 61 = true := by
  rw [lit_eq, tS_inj]
  cases r with
  | nil => simp [hd1N]
  | cons d r => simp [hd1N]
theorem pure_l_size (as : List Sx) (p : RS → List Sx → Prop) (hl : as.length = 2) (h : fs_l_size as p) : ds_l_size (endsOf as p) (startG 5 as) := by
  obtain ⟨l, n, rfl, hn, hlen, kk⟩ := h
  have tl : (tS l).length = l.length := tS_len
  obtain ⟨c, hc, hd⟩ := drop_at hn
  have n1 : (n : Int) + 1 = ((n + 1 : Nat) : Int) := by omega
  have n2 : (n : Int) + 2 = ((n + 2 : Nat) : Int) := by omega
  rw [hd, szl_c] at kk
  unfold ds_l_size
  walk_at "xs"
  refine ⟨by omega, c, atI_tS hc, ?_⟩
  walk_at "xn"
  rw [n1, n2, tS_slice (by omega) (by omega), show n + 2 - (n + 1) = 1 by omega]
  refine ⟨by omega, ?_⟩
  walk_at "xn"
  refine ⟨c, rfl, fun h => ?_, fun h => ?_⟩
  · rw [mem4] at h
    rw [if_pos h] at kk
    exact kk
  rw [mem4] at h
  rw [if_neg h] at kk
  walk_at "xn"
  rw [any_hd, lit_lt, ch_eq]
  refine ⟨fun e => ?_, fun e => ?_⟩
  · rw [if_pos e] at kk
    refine ⟨rfl, rfl, fun h => ?_, fun h => ?_⟩
    · rw [if_pos h] at kk
      exact kk
    · rw [if_neg (by rw [h]; decide)] at kk
      exact kk
  rw [if_neg e] at kk
  walk_at "xn"
  rw [lit_gt, ch_eq]
  refine ⟨fun e => ?_, fun e => ?_⟩
  · rw [if_pos e] at kk
    rw [eq_hd]
    refine ⟨fun h => ?_, fun h => ?_⟩
    · rw [if_pos h] at kk
      exact kk
    · rw [if_neg h] at kk
      exact kk
  rw [if_neg e] at kk
  walk_at "xn"
  rw [lit_quo, ch_eq]
  refine ⟨fun e => ?_, fun e => ?_⟩
  · rw [if_pos e] at kk
    rw [n1, ← lit_quo, find_q (by omega)]
    exact kk
  rw [if_neg e] at kk
  walk_at "xn"
  rw [lit_min, ch_eq]
  refine ⟨fun e => ?_, fun e => ?_⟩
  · rw [if_pos e] at kk
    walk_at "xs"
    rw [n1]
    refine ⟨l, n + 1, _, rfl, by omega, hlen, ?_⟩
    rw [inZ_dF]
    walk_at "xe"
    refine ⟨fun h => ?_, fun h => ?_⟩
    · rw [if_pos (by omega)] at kk
      exact kk
    · rw [if_neg (by omega)] at kk
      exact kk
  rw [if_neg e] at kk
  walk_at "xn"
  refine ⟨l, n, _, rfl, by omega, hlen, ?_⟩
  rw [inZ_dF, hd]
  walk_at "xn"
  refine ⟨fun h => ?_, fun h => ?_⟩
  · rw [if_pos (by omega)] at kk
    exact kk
  rw [if_neg (by omega)] at kk
  walk_at "xe"
  refine ⟨rfl, ?_⟩
  walk_at "xd"
  refine ⟨l, n, _, rfl, by omega, hlen, ?_⟩
  walk_at "x"
  rw [inZ_lF, hd]
  exact kk

theorem pure_l_divided (as : List Sx) (p : RS → List Sx → Prop) (hl : as.length = 1) (h : fs_l_divided as p) : ds_l_divided (endsOf as p) (startG 5 as) := by
  obtain ⟨l, ws, b, rfl, tk, hlen, kk⟩ := h
  have tl : (tS l).length = l.length := tS_len
  unfold ds_l_divided
  walk_at "xs"
  walk_at "xn"
  walk_at "xn"
  refine ⟨by omega, by omega, by omega, for_ok (fun i γ => ∃ (s : Nat) (vs us : List (List Nat)) (t u : Sx), γ = [.val (.str (tS l)), .own none (.lst (tsD vs)), .val (.int (s : Int)), t, u] ∧ i + s ≤ l.length ∧ TkN (l.drop (i + s)) us b ∧ ws = vs ++ us ∧ vs.length ≤ i + s) ⟨0, [], ws, _, _, rfl, by omega, tk, rfl, by simp⟩ ?_ ?_⟩
  · rintro i _ hi ⟨s, vs, us, t, u, rfl, his, tk, ew, lv⟩ _ rfl
    have lts : (tsD vs).length = vs.length := List.length_map _
    have hi2 : i < l.length := by omega
    walk_at "xd"
    refine ⟨fun h => ?_, fun h => ?_⟩
    · refine ⟨s - 1, vs, us, _, _, by rw [show ((s - 1 : Nat) : Int) = (s : Int) - 1 by omega], by omega, by rw [show i + 1 + (s - 1) = i + s by omega]; exact tk, ew, by omega⟩
    · have s0 : s = 0 := by omega
      subst s0
      rw [Nat.add_zero] at tk his lv
      obtain ⟨c, hc, hd⟩ := drop_at hi2
      rw [hd] at tk
      refine ⟨by omega, c, atI_tS hc, fun e => ?_, fun e => ?_⟩
      · rw [lit_sp, ch_eq] at e
        have wle := wl_le (c :: l.drop (i + 1))
        rw [List.length_cons, List.length_drop] at wle
        obtain ⟨s0, s1⟩ := szl_wl (n := i) (c := c) (r := l.drop (i + 1))
        walk_at "xs"
        refine ⟨l, i, rfl, hi2, hlen, ?_⟩
        rw [hd]
        walk_at "xn"
        refine ⟨fun g => ?_, fun g => ?_⟩
        · have z : wlN (c :: l.drop (i + 1)) = 0 := by
            by_cases z : wlN (c :: l.drop (i + 1)) = 0
            · exact z
            · have := s1 z
              omega
          obtain ⟨e1, e2⟩ := tk_bad tk e z
          subst e1 e2
          rw [List.append_nil] at ew
          subst ew
          exact kk
        · have z : wlN (c :: l.drop (i + 1)) ≠ 0 := fun z => g (s0 z)
          obtain ⟨us', e1, tk'⟩ := tk_word tk e z
          subst e1
          rw [s1 z]
          generalize hk : wlN (c :: l.drop (i + 1)) = k at *
          have kj : i + k ≤ l.length := by omega
          have ed : (c :: l.drop (i + 1)).drop k = l.drop (i + k) := by rw [← hd, List.drop_drop]
          rw [ed] at tk'
          have esl : Txt.slice (tS l) (some (i : Int)) (some ((i : Int) + (k : Int))) = tS ((c :: l.drop (i + 1)).take k) := by
            rw [show (i : Int) + (k : Int) = ((i + k : Nat) : Int) by omega, tS_slice (by omega) (by omega), hd, Nat.add_sub_cancel_left]
          walk_at "xn"
          rw [esl, tsD_snoc]
          refine ⟨by omega, by omega, ?_⟩
          walk_at "xe"
          refine ⟨k - 1, vs ++ [(c :: l.drop (i + 1)).take k], us', _, _, by rw [show ((k - 1 : Nat) : Int) = (k : Int) - 1 by omega], by omega, by rw [show i + 1 + (k - 1) = i + k by omega]; exact tk', by rw [ew, List.append_assoc]; rfl, ?_⟩
          rw [List.length_append, List.length_singleton]; omega
      · rw [lit_sp, ch_eq] at e
        subst e
        exact ⟨0, vs, us, _, _, rfl, by omega, tk_sp tk, ew, by omega⟩
  · rintro _ ⟨s, vs, us, t, u, rfl, his, tk, ew, lv⟩
    walk_at "xe"
    have z : l.drop ((((tS l).length : Int)).toNat + s) = [] := List.drop_of_length_le (by omega)
    rw [z] at tk
    obtain ⟨e1, e2⟩ := tk_nil tk
    subst e1 e2
    rw [List.append_nil] at ew
    subst ew
    exact kk
theorem pure_l_told (as : List Sx) (p : RS → List Sx → Prop) (hl : as.length = 1) (h : fs_l_told as p) : ds_l_told (endsOf as p) (startG 2 as) := by
  obtain ⟨l, ws, b, rfl, tk, hlen, kk⟩ := h
  unfold ds_l_told
  walk_at "xd"
  refine ⟨l, ws, b, rfl, tk, hlen, fun e => ?_, fun e => ?_⟩
  · subst e
    walk_at "xd"
    exact kk
  · subst e
    refine try_in rfl fun a => ?_
    walk_at "xd"
    exact ⟨_, _, rfl, rfl, kk⟩
theorem pure_l_alone (as : List Sx) (p : RS → List Sx → Prop) (hl : as.length = 1) (h : fs_l_alone as p) : ds_l_alone (endsOf as p) (startG 2 as) := by
  obtain ⟨l, ws, rfl, tk, hlen, kk⟩ := h
  unfold ds_l_alone
  walk_at "xs"
  refine ⟨l, ws, false, rfl, tk, hlen, fun e => (by cases e), fun e => ?_⟩
  refine try_in rfl fun a => ?_
  walk_at "xd"
  exact ⟨rfl, kk⟩
theorem ok_ts {w : List Nat} (h : cpOk w) : dOkN 0 (.str (tS w)) = true := by
  have : PyData.strOk (tS w) = true := by
    unfold PyData.strOk
    rw [Array.all_eq_true]
    intro i hi
    have hm : (tS w).cps[i] ∈ w := by
      have : (tS w).cps[i] ∈ (tS w).cps.toList := Array.getElem_mem_toList hi
      rw [tS_cps] at this
      exact this
    have := h _ hm
    exact decide_eq_true (by omega)
  unfold dOkN
  simp only [D.pure, D.py, PyData.canLay0, PyData.depth, this]
  rfl
theorem ok_words {ws : List (List Nat)} (h : ∀ w ∈ ws, cpOk w) : dOk (.tup [.str "words", .lst (tsD ws)]) = true := by
  have o : dOkN 1 (.lst (tsD ws)) = true := ok_lst fun w hw => ok_ts (h w hw)
  have a : dOkN 1 (.str "words") = true := by decide +kernel
  exact dOk_of (ok_tup (f := fun d : D => d) (n := 1) (xs := [.str "words", .lst (tsD ws)]) fun x hx => by
    rcases List.mem_cons.mp hx with rfl | hx
    · exact a
    · rw [List.mem_singleton.mp hx]; exact o) (by decide)
theorem ok_unread {n : Int} : dOk (.tup [.str "unread", .int n]) = true := by
  have a : dOkN 1 (.str "unread") = true := by decide +kernel
  exact dOk_of (ok_tup (f := fun d : D => d) (n := 1) (xs := [.str "unread", .int n]) fun x hx => by
    rcases List.mem_cons.mp hx with rfl | hx
    · exact a
    · rw [List.mem_singleton.mp hx]; exact ok_mono (ok_int n) (by decide)) (by decide)
theorem ok_wl {ws : List (List Nat)} (h : ∀ w ∈ ws, cpOk w) : dOk (.lst (tsD ws)) = true := dOk_of (ok_lst fun w hw => ok_ts (h w hw)) (by decide)
theorem pure_l_right (as : List Sx) (p : RS → List Sx → Prop) (hl : as.length = 2) (h : fs_l_right as p) : ds_l_right (endsOf as p) (startG 2 as) := by
  obtain ⟨ws, b, rfl, hc, kk⟩ := h
  unfold ds_l_right
  cases b
  · rw [resD_f] at kk ⊢
    walk_at "xs"
    walk_at "xe"
    exact ⟨ok_unread, ok_unread, kk⟩
  · rw [resD_t] at kk ⊢
    walk_at "xs"
    walk_at "xe"
    refine ⟨false, rfl, fun _ => ?_, fun z => (by cases z)⟩
    have o := ok_words (ws := ws) hc
    refine ⟨o, o, ?_⟩
    rw [deq_self (ok_wl hc)]
    exact kk

def rawS : Str := "ab z0'1<>=-(),(<>= -9'abcdefghijklmnopqrstuvwxyz23456780!\"#$&*+./:;?\x40[\\]^_`{|}~ABCDEFGHIJKLMNOPQRSTUVWXYZ"
theorem raw_app : Str.ofString "ab z0'1<>=-(),(<>= -9'" ++ lettersS ++ Str.ofString "23456780" ++ strangeS = rawS := by decide +kernel
theorem raw_ok : (∀ c ∈ rawS.cps.toList, c < 1000) ∧ rawS.cps.toList.length = 105 := by decide +kernel
theorem rsz {d : Nat} (h : d < 4) : ∃ n : Nat, 0 < n ∧ n ≤ 105 ∧ atI [D.int 22, D.int 22, D.int 56, D.int 105] (d : Int) = some (.int (n : Int)) := by
  have : ∀ d < 4, ∃ n : Nat, 0 < n ∧ n ≤ 105 ∧ [D.int 22, D.int 22, D.int 56, D.int 105][d]? = some (.int (n : Int)) := by
    intro d hd
    match d, hd with
    | 0, _ => exact ⟨22, by decide, by decide, rfl⟩
    | 1, _ => exact ⟨22, by decide, by decide, rfl⟩
    | 2, _ => exact ⟨56, by decide, by decide, rfl⟩
    | 3, _ => exact ⟨105, by decide, by decide, rfl⟩
  obtain ⟨n, h1, h2, h3⟩ := this d h
  exact ⟨n, h1, h2, atI_nat h3⟩
theorem pure_l_raw (as : List Sx) (p : RS → List Sx → Prop) (hl : as.length = 1) (h : fs_l_raw as p) : ds_l_raw (endsOf as p) (startG 5 as) := by
  obtain ⟨q, rfl, hq, kk⟩ := h
  have rl : rawS.length = 105 := by rw [← raw_ok.2]; exact Array.length_toList.symm
  unfold ds_l_raw
  walk_at "xs"
  refine ⟨rfl, ?_⟩
  walk_at "xd"
  refine ⟨by decide +kernel, by decide +kernel, rfl, ?_⟩
  walk_at "xd"
  refine ⟨by decide +kernel, ?_⟩
  rw [raw_app]
  walk_at "xn"
  walk_at "xn"
  refine ⟨q, 41, rfl, hq, by decide, by decide, fun m q hm hq => ?_⟩
  walk_at "xd"
  rw [lit_nil]
  refine ⟨by omega, by omega, for_ok (fun i γ => ∃ (q : Pl) (l : List Nat) (t u : Sx), γ = [.own (some 0) (.lst (plD q)), .val (.str rawS), .val (.str (tS l)), t, u] ∧ PlOk q ∧ l.length = i ∧ cpOk l) ⟨q, [], _, _, rfl, hq, rfl, fun c h => (by cases h)⟩ ?_ ?_⟩
  · rintro i _ hi ⟨q, l, t, u, rfl, hq, ll, lc⟩ _ rfl
    have hi : i < m := by omega
    have tl : (tS l).length = l.length := tS_len
    refine q_seq ?_
    walk_at "xd"
    rw [rl]
    refine ⟨by decide, q, 4, rfl, hq, by decide, by decide, fun d q hd hq => ?_⟩
    obtain ⟨n, n0, n1, ha⟩ := rsz (d := d) (by omega)
    walk_at "xd"
    refine ⟨_, ha, ?_⟩
    walk_at "xe"
    refine ⟨q, n, rfl, hq, by omega, by omega, fun e q he hq => ?_⟩
    have he : e < rawS.cps.toList.length := by rw [raw_ok.2]; omega
    walk_at "xd"
    refine ⟨by omega, _, atI_nat (List.getElem?_eq_getElem he), ?_⟩
    rw [tS_one, tS_app]
    refine ⟨by rw [tS_len, tS_len, List.length_singleton]; omega, q, l ++ [rawS.cps.toList[e]], _, _, rfl, hq, by simp [ll], fun c hc => ?_⟩
    rcases List.mem_append.mp hc with h | h
    · exact lc c h
    · rw [List.mem_singleton.mp h]; exact raw_ok.1 _ (List.getElem_mem he)
  · rintro _ ⟨q, l, t, u, rfl, hq, ll, lc⟩
    walk_at "xe"
    exact kk l q (by omega) lc hq
theorem cut_lo {ws : List (List Nat)} {n : Nat} : cut (tsD ws) none (some (n : Int)) = tsD (ws.take n) := by
  rw [cut_to (by omega), Int.toNat_natCast]
  exact List.map_take.symm
theorem cut_hi {ws : List (List Nat)} {n : Nat} : cut (tsD ws) (some (n : Int)) none = tsD (ws.drop n) := by
  rw [cut_from (by omega), Int.toNat_natCast]
  exact List.map_drop.symm
theorem strange_odd : ∀ c ∈ strangeS.cps.toList, oddN c = true := by decide +kernel
def l_spoilt_T3 : DS := (dSeq (dAsg 6 (dCall 2 fs_l_join [] (dCons (dVar 0) (dCons (dVarV 5) dNil))))
  (dSeq (dIf (dB (d2 fEq (dVar 3) (dC (.int (3))))) (dRet (d2 fAddS (d2 fAddS (dVar 4) (dCall 3 fs_l_drawn [] (dCons (dVar 0) (dCons (dCall 0 fs_l_strange [] dNil) (dCons (dC (.int (1))) dNil))))) (dVar 6))) dNext)
  (dSeq (dIf (dB (d2 fEq (dVar 3) (dC (.int (5))))) (dRet (d2 fAddS (d2 fAddS (dVar 4) (dC (.str "'"))) (dVar 6))) dNext)
  (dSeq (dIf (dAnd (dB (d2 fNe (dVar 6) (dC (.str "")))) (dB (d2 (fInC false) (d2 fIxS (dVar 6) (dC (.int (0)))) (dC (.str "0123456789"))))) (dAsg 6 (d2 fAddS (dC (.str " ")) (dVar 6))) dNext)
  (dRet (d2 fAddS (d2 fAddS (dVar 4) (dC (.str "-"))) (dVar 6)))))))
theorem spoilt_tail {q0 q : Pl} {ws rs : List (List Nat)} {n g : Nat} {m : Int} {f : List Nat} {p : RS → List Sx → Prop} (hq : PlOk q) (hw : ∀ w ∈ ws, GW w) (hr : ∀ w ∈ rs, GW w) (lr : rs.length ≤ 60) (hn : n ≤ ws.length) (lw : ws.length ≤ 60) (m3 : 3 ≤ m) (m5 : m ≤ 5) (hg : g < 2) (nq : m = 5 → ∀ w ∈ rs, ∀ c ∈ w, c ≠ 39)
    (jf : JnN [] (ws.take n) f) (lf : f.length ≤ 16 * 60) (kk : ∀ (l : List Nat) q', TkN l (ws.take n) false → l.length ≤ 3000 → PlOk q' → p (.val (.str (tS l))) [.own (some 0) (.lst (plD q')), .val (.lst (tsD ws)), .val (.int (n : Int)), .val (.int m)]) :
    DL.Later l_spoilt_T3 (endsOf [.own (some 0) (.lst (plD q0)), .val (.lst (tsD ws)), .val (.int (n : Int)), .val (.int m)] p) [.own (some 0) (.lst (plD q)), .val (.lst (tsD ws)), .val (.int (n : Int)), .val (.int m), .val (.str (tS (f ++ List.replicate g 32))), .own none (.lst (tsD rs)), .no, .no] := by
  have gt : ∀ w ∈ ws.take n, WdN w := fun w h => (hw w (List.mem_of_mem_take h)).wd
  unfold l_spoilt_T3
  walk_at "xn"
  refine ⟨q, rs, rfl, hq, hr, lr, fun b q jb lb hq => ?_⟩
  have l1 : (tS (f ++ List.replicate g 32)).length = f.length + g := by rw [tS_len, List.length_append, List.length_replicate]
  have l2 : (tS b).length = b.length := tS_len
  walk_at "xn"
  refine ⟨fun e => ?_, fun e => ?_⟩
  · refine ⟨rfl, ?_⟩
    walk_at "xd"
    refine ⟨q, strangeS, 1, rfl, hq, by decide +kernel, by decide +kernel, by decide, fun w q lw hw hq => ?_⟩
    obtain ⟨c, rfl⟩ : ∃ c, w = [c] := by
      match w, lw with
      | [c], _ => exact ⟨c, rfl⟩
    have oc : oddN c = true := strange_odd c (of_decide_eq_true (hw c List.mem_cons_self))
    obtain ⟨o1, o2, o3⟩ := odd_of oc
    simp only [List.mem_cons, List.not_mem_nil, or_false, not_or] at o3
    walk_at "xd"
    rw [tS_app, tS_app]
    refine ⟨by rw [l1, tS_len, List.length_singleton]; omega, by rw [l2, tS_len, List.length_append, List.length_append, List.length_replicate, List.length_singleton]; omega, ?_⟩
    rw [List.append_assoc]
    exact kk _ q (tk_spoilt gt jf rfl (fun w => apt_odd o1 o2 ⟨by omega, by omega⟩) (by omega) (wl_odd oc)) (by rw [List.length_append, List.length_append, List.length_replicate, List.length_append, List.length_singleton]; omega) hq
  walk_at "xn"
  refine ⟨fun e => ?_, fun e => ?_⟩
  · have nb : ∀ c ∈ b, c ≠ 39 := fun c hc => by
      rcases jn_mem jb hc with z | ⟨w, hw, hc⟩
      · omega
      · exact nq e w hw c hc
    rw [lit_quo, tS_app, tS_app]
    refine ⟨by rw [l1, tS_len, List.length_singleton]; omega, by rw [l2, tS_len, List.length_append, List.length_append, List.length_replicate, List.length_singleton]; omega, ?_⟩
    rw [List.append_assoc]
    exact kk _ q (tk_spoilt gt jf rfl (fun w => apt_odd (by decide) (by decide) (by decide)) (by decide) (wl_quo nb)) (by rw [List.length_append, List.length_append, List.length_replicate, List.length_append, List.length_singleton]; omega) hq
  walk_at "xn"
  have fin : ∀ b' : List Nat, b'.length ≤ b.length + 1 → (∀ c r, b' = c :: r → dgtN c = false) → DL.Later (dRet (d2 fAddS (d2 fAddS (dVar 4) (dC (.str "-"))) (dVar 6))) (endsOf [.own (some 0) (.lst (plD q0)), .val (.lst (tsD ws)), .val (.int (n : Int)), .val (.int m)] p) [.own (some 0) (.lst (plD q)), .val (.lst (tsD ws)), .val (.int (n : Int)), .val (.int m), .val (.str (tS (f ++ List.replicate g 32))), .val (.lst (tsD rs)), .val (.str (tS b')), .no] := fun b' lb' nd => by
    have l3 : (tS b').length = b'.length := tS_len
    walk_at "xe"
    rw [lit_min, tS_app, tS_app]
    refine ⟨by rw [l1, tS_len, List.length_singleton]; omega, by rw [l3, tS_len, List.length_append, List.length_append, List.length_replicate, List.length_singleton]; omega, ?_⟩
    rw [List.append_assoc]
    exact kk _ q (tk_spoilt gt jf rfl (fun w => apt_odd (by decide) (by decide) (by decide)) (by decide) (wl_neg nd)) (by rw [List.length_append, List.length_append, List.length_replicate, List.length_append, List.length_singleton]; omega) hq
  refine ⟨fun e => ?_, fun e => ?_⟩
  · rw [lit_nil, tS_inj] at e
    obtain ⟨c, b1, eb⟩ : ∃ c b1, b = c :: b1 := by
      cases b with
      | nil => exact absurd rfl e
      | cons c b1 => exact ⟨c, b1, rfl⟩
    have h0 : (tS b).cps.toList[0]? = some c := by rw [tS_cps, eb]; rfl
    refine ⟨by omega, c, atI_nat h0, c, rfl, fun z => ?_, fun z => ?_⟩
    · rw [lit_sp, tS_app]
      refine ⟨by rw [l2, tS_len, List.length_singleton]; omega, ?_⟩
      exact fin _ (by simp) fun c r z => by cases z; decide
    · have z : inZ "0123456789" c = false := decide_eq_false z
      rw [inZ_d] at z
      exact fin b (by omega) fun c' r' e' => by rw [eb] at e'; cases e'; exact z
  · rw [lit_nil, tS_inj] at e
    subst e
    exact fin [] (by omega) fun c r z => by cases z
theorem pure_l_spoilt (as : List Sx) (p : RS → List Sx → Prop) (hl : as.length = 4) (h : fs_l_spoilt as p) : ds_l_spoilt (endsOf as p) (startG 8 as) := by
  obtain ⟨q0, ws, n, m, rfl, hq, hw, lw, hn, m3, m5, kk⟩ := h
  have lts : (tsD ws).length = ws.length := List.length_map _
  unfold ds_l_spoilt
  walk_at "xs"
  rw [cut_lo]
  have lt1 : (ws.take n).length = n := by rw [List.length_take]; omega
  refine ⟨q0, ws.take n, rfl, hq, fun w h => hw w (List.mem_of_mem_take h), by omega, fun f q jf lf hq => ?_⟩
  walk_at "xd"
  refine ⟨q, 2, rfl, hq, by decide, by decide, fun g q hg hq => ?_⟩
  walk_at "xd"
  rw [lit_sp, sp_mul, tS_app]
  have l1 : (tS f).length = f.length := tS_len
  have l2 : (tS (List.replicate g 32)).length = g := by rw [tS_len, List.length_replicate]
  refine ⟨mul_ok (by omega), by omega, ?_⟩
  walk_at "xn"
  rw [cut_hi]
  have hd : ∀ w ∈ ws.drop n, GW w := fun w h => hw w (List.mem_of_mem_drop h)
  have ld : (ws.drop n).length ≤ 60 := by rw [List.length_drop]; omega
  walk_at "xn"
  refine ⟨fun e => ?_, fun e => ?_⟩
  · refine lc_ok (by omega) (fun i acc γ => ∃ rs : List (List Nat), acc = tsD rs ∧ (∀ w ∈ rs, w ∈ ws.drop n ∧ ∀ c ∈ w, c ≠ 39) ∧ rs.length ≤ i ∧ γ = [.own (some 0) (.lst (plD q)), .val (.lst (tsD ws)), .val (.int (n : Int)), .val (.int m), .val (.str (tS (f ++ List.replicate g 32))), .val (.lst (tsD (ws.drop n))), .no, .no]) ⟨[], rfl, fun w h => (by cases h), Nat.le_refl _, rfl⟩ ?_ ?_
    · rintro i acc _ hi ⟨rs, rfl, hr, lr, rfl⟩ x hx
      obtain ⟨w, hwi⟩ : ∃ w, (ws.drop n)[i]? = some w := ⟨(ws.drop n)[i], List.getElem?_eq_getElem hi⟩
      rw [List.getElem?_map, hwi] at hx
      cases hx
      walk_at "xd"
      refine ⟨39, by decide +kernel, fun h => ?_, fun h => ?_⟩
      · rw [tsD_snoc]
        refine ⟨rs ++ [w], rfl, fun v hv => ?_, by rw [List.length_append, List.length_singleton]; omega⟩
        rcases List.mem_append.mp hv with hv | hv
        · exact hr v hv
        · rw [List.mem_singleton.mp hv]
          exact ⟨List.mem_of_getElem? hwi, fun c hc e => h (by rw [tS_cps, ← e]; exact hc)⟩
      · exact ⟨rs, rfl, hr, by omega⟩
    · rintro acc _ ⟨rs, rfl, hr, lr, rfl⟩
      walk_at "xd"
      exact spoilt_tail (q0 := q0) hq hw (fun w h => hd w (hr w h).1) (by omega) hn lw m3 m5 (by omega) (fun _ w h => (hr w h).2) jf (by omega) kk
  · exact spoilt_tail (q0 := q0) hq hw hd ld hn lw m3 m5 (by omega) (fun z => absurd z e) jf (by omega) kk

def law_T6 : DS := (dScope 5 (dCall 1 fs_l_told [] (dCons (dVarV 6) dNil))
  (dScIf 5 (dNot (dB (dCall 2 fs_l_right [] (dCons (dBare (dVarV 5)) (dCons (dVarV 7) dNil))))) (dC (.bl false)) (dScIf 5 (dB (d2 fEq (d2 fIxT (dVar 7) (dC (.int (0)))) (dC (.str "unread")))) (dCall 1 fs_l_alone [] (dCons (dVarV 6) dNil)) (dScApp 5 (d2 fIxT (dVar 5) (dC (.int (1)))) (dCons (dC (.str "zz")) dNil) (dRet (dCall 2 fs_l_right [] (dCons (dBare (dCall 1 fs_l_told [] (dCons (dVarV 6) dNil))) (dCons (dVarV 7) dNil))))))))
theorem law_tail {ns : List Int} {s1 s2 s3 s4 s8 s9 s10 : Sx} {l : List Nat} {ws : List (List Nat)} {b : Bool} {p : RS → List Sx → Prop} (tk : TkN l ws b) (hlen : l.length ≤ 10000) (hc : ∀ w ∈ ws, cpOk w) (lw : ws.length ≤ 100000)
    (nf : nofrG [.val (.scr ns), s1, s2, s3, s4, .no, .val (.str (tS l)), .val (resD b ws), s8, s9, s10]) (kk : ∀ as', p (.val (.bl true)) as') :
    DL.Later law_T6 (endsOf [.val (.scr ns)] p) [.val (.scr ns), s1, s2, s3, s4, .no, .val (.str (tS l)), .val (resD b ws), s8, s9, s10] := by
  unfold law_T6
  refine q_later ?_
  refine ⟨nf, ?_⟩
  walk_at "xd"
  refine ⟨l, ws, b, rfl, tk, hlen, ?_⟩
  cases b
  · walk_at "xd"
    refine ⟨ws, false, rfl, hc, ?_⟩
    walk_at "xd"
    refine ⟨l, ws, rfl, tk, hlen, ?_⟩
    exact ⟨_, rfl, trivial, kk _⟩
  · walk_at "xd"
    refine ⟨ws, true, rfl, hc, ?_⟩
    walk_at "xd"
    have lts : (tsD ws).length = ws.length := List.length_map _
    refine ⟨tsD ws, rfl, by omega, ?_⟩
    refine ⟨l, ws, true, rfl, tk, hlen, ?_⟩
    walk_at "xd"
    refine ⟨ws, true, rfl, hc, ?_⟩
    walk_at "xd"
    exact kk _
theorem tk_mem {l : List Nat} {ws : List (List Nat)} {b : Bool} (t : TkN l ws b) : (∀ w ∈ ws, ∀ c ∈ w, c ∈ l) ∧ ws.length ≤ l.length := by
  induction t with
  | sp t ih => exact ⟨fun w hw c hc => List.mem_cons_of_mem _ (ih.1 w hw c hc), by rw [List.length_cons]; omega⟩
  | fin => exact ⟨fun w hw => (by cases hw), Nat.le_refl _⟩
  | word n k t ih =>
    refine ⟨fun w hw c hc => ?_, ?_⟩
    · rcases List.mem_cons.mp hw with rfl | hw
      · exact List.mem_of_mem_take hc
      · exact List.mem_of_mem_drop (ih.1 w hw c hc)
    · have := ih.2
      rw [List.length_drop] at this
      rw [List.length_cons]
      simp only [List.length_cons] at this ⊢
      omega
  | bad n z => exact ⟨fun w hw => (by cases hw), Nat.zero_le _⟩
theorem nofr_ts : ∀ ws : List (List Nat), nofrAll (tsD ws) = true
  | [] => rfl
  | w :: r => by
    show ((D.str (tS w)).nofr && nofrAll (tsD r)) = true
    rw [nofr_ts r]; rfl
theorem nofr_res {b : Bool} {ws : List (List Nat)} : (resD b ws).nofr = true := by
  cases b
  · rfl
  · show nofrAll [D.str "words", .lst (tsD ws)] = true
    show ((D.str "words").nofr && ((D.lst (tsD ws)).nofr && true)) = true
    show (true && (nofrAll (tsD ws) && true)) = true
    rw [nofr_ts]; rfl
def law_T5 : DS := (dSeq (dIf (dB (d2 fGt (dVar 2) (dC (.int (5))))) (dSeq (dAsg 6 (dCall 1 fs_l_raw [] (dCons (dVar 1) dNil)))
  (dAsg 7 (dCall 1 fs_l_divided [] (dCons (dVarV 6) dNil)))) (dIf (dB (d2 fGt (dVar 2) (dC (.int (2))))) (dSeq (dAsg 9 (dCall 2 fs_l_digit [] (dCons (dVar 1) (dCons (d2 fAdd (dCB fLen (dCons (dVar 4) dNil)) (dC (.int (1)))) dNil))))
  (dSeq (dAsg 6 (dCall 4 fs_l_spoilt [] (dCons (dVar 1) (dCons (dVarV 4) (dCons (dVarV 9) (dCons (dVarV 2) dNil))))))
  (dAsg 7 (dTup (dCons (dC (.str "unread")) (dCons (dVarV 9) dNil)))))) (dSeq (dAsg 6 (d2 fAddS (dCall 2 fs_l_join [] (dCons (dVar 1) (dCons (dVarV 4) dNil))) (d2 fMulS (dC (.str " ")) (dCall 2 fs_l_digit [] (dCons (dVar 1) (dCons (dC (.int (3))) dNil))))))
  (dAsg 7 (dTup (dCons (dC (.str "words")) (dCons (dVarV 4) dNil)))))))
  (dScope 5 (dCall 1 fs_l_told [] (dCons (dVarV 6) dNil))
  (dScIf 5 (dNot (dB (dCall 2 fs_l_right [] (dCons (dBare (dVarV 5)) (dCons (dVarV 7) dNil))))) (dC (.bl false)) (dScIf 5 (dB (d2 fEq (d2 fIxT (dVar 7) (dC (.int (0)))) (dC (.str "unread")))) (dCall 1 fs_l_alone [] (dCons (dVarV 6) dNil)) (dScApp 5 (d2 fIxT (dVar 5) (dC (.int (1)))) (dCons (dC (.str "zz")) dNil) (dRet (dCall 2 fs_l_right [] (dCons (dBare (dCall 1 fs_l_told [] (dCons (dVarV 6) dNil))) (dCons (dVarV 7) dNil)))))))))
theorem law_five {ns : List Int} {q : Pl} {m : Nat} {n3 : Int} {ws : List (List Nat)} {p : RS → List Sx → Prop} (hq : PlOk q) (hw : ∀ w ∈ ws, GW w) (lw : ws.length ≤ 60) (kk : ∀ as', p (.val (.bl true)) as') :
    DL.Later law_T5 (endsOf [.val (.scr ns)] p) [.val (.scr ns), .own none (.lst (plD q)), .val (.int (m : Int)), .val (.int n3), .own none (.lst (tsD ws)), .no, .no, .no, .no, .no, .no] := by
  unfold law_T5
  have lts : (tsD ws).length = ws.length := List.length_map _
  have nw : nofrAll (tsD ws) = true := by
    exact nofr_ts ws
  walk_at "xn"
  refine ⟨fun h => ?_, fun h => ?_⟩
  · walk_at "xs"
    refine ⟨q, rfl, hq, fun l q ll lc hq => ?_⟩
    walk_at "xe"
    obtain ⟨us, b, tk⟩ := tk_total l.length l (Nat.le_refl _)
    refine ⟨l, us, b, rfl, tk, by omega, ?_⟩
    walk_at "xd"
    obtain ⟨t1, t2⟩ := tk_mem tk
    exact law_tail tk (by omega) (fun w hw c hc => lc c (t1 w hw c hc)) (by omega) ⟨rfl, rfl, rfl, rfl, nofr_res, trivial⟩ kk
  refine ⟨fun h2 => ?_, fun h2 => ?_⟩
  · walk_at "xs"
    refine ⟨q, ws.length + 1, rfl, hq, by omega, by omega, fun n q hn hq => ?_⟩
    walk_at "xn"
    refine ⟨q, ws, n, m, rfl, hq, hw, lw, by omega, by omega, by omega, fun l q tk ll hq => ?_⟩
    walk_at "xe"
    have ln : (ws.take n).length = n := by rw [List.length_take]; omega
    have : D.tup [D.str "unread", .int (n : Int)] = resD false (ws.take n) := by rw [resD_f, ln]
    rw [this]
    exact law_tail tk (by omega) (fun w h => (hw w (List.mem_of_mem_take h)).cp) (by omega) ⟨rfl, rfl, rfl, by exact nw, rfl, nofr_res, rfl, trivial⟩ kk
  · walk_at "xs"
    refine ⟨q, ws, rfl, hq, hw, lw, fun l q jn ll hq => ?_⟩
    walk_at "xd"
    refine ⟨q, 3, rfl, hq, by decide, by decide, fun g q hg hq => ?_⟩
    walk_at "xd"
    rw [lit_sp, sp_mul, tS_app]
    have l1 : (tS l).length = l.length := tS_len
    have l2 : (tS (List.replicate g 32)).length = g := by rw [tS_len, List.length_replicate]
    refine ⟨mul_ok (by omega), by omega, ?_⟩
    walk_at "xe"
    have tk := tk_whole (g := g) (fun w h => (hw w h).wd) jn
    exact law_tail tk (by rw [List.length_append, List.length_replicate]; omega) (fun w h => (hw w h).cp) (by omega) ⟨rfl, rfl, rfl, by exact nw, rfl, nofr_res, trivial⟩ kk
def law_T4 : DS := (dSeq (dIf (dB (d2 fEq (dCall 2 fs_l_digit [] (dCons (dVar 1) (dCons (dC (.int (8))) dNil))) (dC (.int (7))))) (dAsg 4 (d2 fRep (dVar 4) (dC (.int (3))))) dNext)
  (dSeq (dIf (dB (d2 fGt (dVar 2) (dC (.int (5))))) (dSeq (dAsg 6 (dCall 1 fs_l_raw [] (dCons (dVar 1) dNil)))
  (dAsg 7 (dCall 1 fs_l_divided [] (dCons (dVarV 6) dNil)))) (dIf (dB (d2 fGt (dVar 2) (dC (.int (2))))) (dSeq (dAsg 9 (dCall 2 fs_l_digit [] (dCons (dVar 1) (dCons (d2 fAdd (dCB fLen (dCons (dVar 4) dNil)) (dC (.int (1)))) dNil))))
  (dSeq (dAsg 6 (dCall 4 fs_l_spoilt [] (dCons (dVar 1) (dCons (dVarV 4) (dCons (dVarV 9) (dCons (dVarV 2) dNil))))))
  (dAsg 7 (dTup (dCons (dC (.str "unread")) (dCons (dVarV 9) dNil)))))) (dSeq (dAsg 6 (d2 fAddS (dCall 2 fs_l_join [] (dCons (dVar 1) (dCons (dVarV 4) dNil))) (d2 fMulS (dC (.str " ")) (dCall 2 fs_l_digit [] (dCons (dVar 1) (dCons (dC (.int (3))) dNil))))))
  (dAsg 7 (dTup (dCons (dC (.str "words")) (dCons (dVarV 4) dNil)))))))
  (dScope 5 (dCall 1 fs_l_told [] (dCons (dVarV 6) dNil))
  (dScIf 5 (dNot (dB (dCall 2 fs_l_right [] (dCons (dBare (dVarV 5)) (dCons (dVarV 7) dNil))))) (dC (.bl false)) (dScIf 5 (dB (d2 fEq (d2 fIxT (dVar 7) (dC (.int (0)))) (dC (.str "unread")))) (dCall 1 fs_l_alone [] (dCons (dVarV 6) dNil)) (dScApp 5 (d2 fIxT (dVar 5) (dC (.int (1)))) (dCons (dC (.str "zz")) dNil) (dRet (dCall 2 fs_l_right [] (dCons (dBare (dCall 1 fs_l_told [] (dCons (dVarV 6) dNil))) (dCons (dVarV 7) dNil))))))))))
theorem law_mid {ns : List Int} {q : Pl} {m : Nat} {n3 : Int} {ws : List (List Nat)} {p : RS → List Sx → Prop} (hq : PlOk q) (hw : ∀ w ∈ ws, GW w) (lw : ws.length ≤ 20) (kk : ∀ as', p (.val (.bl true)) as') :
    DL.Later law_T4 (endsOf [.val (.scr ns)] p) [.val (.scr ns), .own none (.lst (plD q)), .val (.int (m : Int)), .val (.int n3), .own none (.lst (tsD ws)), .no, .no, .no, .no, .no, .no] := by
  unfold law_T4
  have lts : (tsD ws).length = ws.length := List.length_map _
  walk_at "xn"
  refine ⟨q, 8, rfl, hq, by decide, by decide, fun d q hd hq => ?_⟩
  walk_at "xd"
  refine ⟨fun h => ?_, fun h => ?_⟩
  · refine ⟨by decide, by decide, by show ws.length * 3 ≤ _; omega, ?_⟩
    have e : (List.replicate (Int.toNat 3) (tsD ws)).flatten = tsD (ws ++ (ws ++ ws)) := by
      show (tsD ws ++ (tsD ws ++ (tsD ws ++ []))) = _
      simp [tsD]
    rw [e]
    exact law_five (ws := ws ++ (ws ++ ws)) hq (fun w h => by
      rcases List.mem_append.mp h with h | h
      · exact hw w h
      · rcases List.mem_append.mp h with h | h <;> exact hw w h) (by rw [List.length_append, List.length_append]; omega) kk
  · exact law_five hq hw (by omega) kk
def law_T3 : DS := (dSeq (dAsg 4 (dLc (dIR1 (dCons (dVarV 3) dNil)) (gN 8) dYes (dCall 1 fs_l_word [] (dCons (dVar 1) dNil)) [8]))
  (dSeq (dIf (dB (d2 fEq (dCall 2 fs_l_digit [] (dCons (dVar 1) (dCons (dC (.int (8))) dNil))) (dC (.int (7))))) (dAsg 4 (d2 fRep (dVar 4) (dC (.int (3))))) dNext)
  (dSeq (dIf (dB (d2 fGt (dVar 2) (dC (.int (5))))) (dSeq (dAsg 6 (dCall 1 fs_l_raw [] (dCons (dVar 1) dNil)))
  (dAsg 7 (dCall 1 fs_l_divided [] (dCons (dVarV 6) dNil)))) (dIf (dB (d2 fGt (dVar 2) (dC (.int (2))))) (dSeq (dAsg 9 (dCall 2 fs_l_digit [] (dCons (dVar 1) (dCons (d2 fAdd (dCB fLen (dCons (dVar 4) dNil)) (dC (.int (1)))) dNil))))
  (dSeq (dAsg 6 (dCall 4 fs_l_spoilt [] (dCons (dVar 1) (dCons (dVarV 4) (dCons (dVarV 9) (dCons (dVarV 2) dNil))))))
  (dAsg 7 (dTup (dCons (dC (.str "unread")) (dCons (dVarV 9) dNil)))))) (dSeq (dAsg 6 (d2 fAddS (dCall 2 fs_l_join [] (dCons (dVar 1) (dCons (dVarV 4) dNil))) (d2 fMulS (dC (.str " ")) (dCall 2 fs_l_digit [] (dCons (dVar 1) (dCons (dC (.int (3))) dNil))))))
  (dAsg 7 (dTup (dCons (dC (.str "words")) (dCons (dVarV 4) dNil)))))))
  (dScope 5 (dCall 1 fs_l_told [] (dCons (dVarV 6) dNil))
  (dScIf 5 (dNot (dB (dCall 2 fs_l_right [] (dCons (dBare (dVarV 5)) (dCons (dVarV 7) dNil))))) (dC (.bl false)) (dScIf 5 (dB (d2 fEq (d2 fIxT (dVar 7) (dC (.int (0)))) (dC (.str "unread")))) (dCall 1 fs_l_alone [] (dCons (dVarV 6) dNil)) (dScApp 5 (d2 fIxT (dVar 5) (dC (.int (1)))) (dCons (dC (.str "zz")) dNil) (dRet (dCall 2 fs_l_right [] (dCons (dBare (dCall 1 fs_l_told [] (dCons (dVarV 6) dNil))) (dCons (dVarV 7) dNil)))))))))))
theorem pure_law (as : List Sx) (p : RS → List Sx → Prop) (hl : as.length = 1) (h : fs_law as p) : ds_law (endsOf as p) (startG 11 as) := by
  obtain ⟨ns, rfl, hn, kk⟩ := h
  unfold ds_law
  walk_at "xs"
  refine lc_ok (by rw [cut_to (by decide), List.length_take]; omega) (fun i acc γ => ∃ cs : List Int, acc = intsD cs ∧ cs.length = i ∧ (∀ x ∈ cs, 0 ≤ x) ∧ γ = [.val (.scr ns), .no, .no, .no, .no, .no, .no, .no, .no, .no, .no]) ⟨[], rfl, rfl, fun x h => (by cases h), rfl⟩ ?_ ?_
  · rintro i acc _ hi ⟨cs, rfl, lc, c0, rfl⟩ x hx
    obtain ⟨y, hy⟩ : ∃ y, (cut ns none (some 63))[i]? = some y := ⟨(cut ns none (some 63))[i], List.getElem?_eq_getElem hi⟩
    rw [List.getElem?_map, hy] at hx
    cases hx
    walk_at "xd"
    exact ⟨cs ++ [(y.natAbs : Int)], by simp [intsD]; omega, by simp [lc], fun x hx => by
      rcases List.mem_append.mp hx with hx | hx
      · exact c0 x hx
      · rw [List.mem_singleton.mp hx]; omega⟩
  rintro acc _ ⟨cs, rfl, lc, c0, rfl⟩
  have lc63 : cs.length ≤ 63 := by
    rw [lc, cut_to (by decide), List.length_take]; exact Nat.min_le_left _ _
  walk_at "xd"
  walk_at "xn"
  have q0 : PlOk ⟨0, 0, cs⟩ := ⟨Int.le_refl 0, Int.le_refl 0, c0, lc63⟩
  refine ⟨⟨0, 0, cs⟩, 8, rfl, q0, by decide, by decide, fun m q hm hq => ?_⟩
  walk_at "xn"
  have words : ∀ {q : Pl} {k : Nat}, PlOk q → k ≤ 20 → DL.Later law_T3 (endsOf [.val (.scr ns)] p) [.val (.scr ns), .own none (.lst (plD q)), .val (.int (m : Int)), .val (.int (k : Int)), .no, .no, .no, .no, .no, .no, .no] := fun {q k} hq hk => by
    unfold law_T3
    walk_at "xn"
    refine ⟨by omega, by omega, lc_ok (by omega) (fun i acc γ => ∃ (q : Pl) (ws : List (List Nat)), acc = tsD ws ∧ ws.length = i ∧ (∀ w ∈ ws, GW w) ∧ PlOk q ∧ γ = [.val (.scr ns), .own none (.lst (plD q)), .val (.int (m : Int)), .val (.int (k : Int)), .no, .no, .no, .no, .no, .no, .no]) ⟨q, [], rfl, rfl, fun w h => (by cases h), hq, rfl⟩ ?_ ?_⟩
    · rintro i acc _ hi ⟨q, ws, rfl, lw, hw, hq, rfl⟩ _ rfl
      walk_at "xd"
      refine ⟨q, rfl, hq, fun w q gw hq => ?_⟩
      walk_at "xd"
      rw [tsD_snoc]
      refine ⟨q, ws ++ [w], rfl, by simp [lw], fun v hv => ?_, hq, rfl⟩
      rcases List.mem_append.mp hv with hv | hv
      · exact hw v hv
      · rw [List.mem_singleton.mp hv]; exact gw
    · rintro acc _ ⟨q, ws, rfl, lw, hw, hq, rfl⟩
      walk_at "xd"
      exact law_mid hq hw (by omega) kk
  refine ⟨fun h => words (k := 0) hq (by omega), fun h => ?_⟩
  refine ⟨q, 21, rfl, hq, by decide, by decide, fun d q hd hq => ?_⟩
  walk_at "xd"
  refine ⟨by decide, ?_⟩
  have e1 := Int.emod_nonneg ((d : Int) + 5) (show (21 : Int) ≠ 0 by decide)
  have e2 := Int.emod_lt_of_pos ((d : Int) + 5) (show (0 : Int) < 21 by decide)
  obtain ⟨k, hk⟩ : ∃ k : Nat, ((d : Int) + 5) % 21 = (k : Int) := ⟨(((d : Int) + 5) % 21).toNat, by omega⟩
  rw [hk]
  exact words (k := k) hq (by omega)

/-! printed by gen.py: the text, the bodies as terms, the end -/
def topS (i : Nat) : Stmt := PySem.Challenge.pw_colonnade_k28_words_of_texts.main.body.getD i (.Pass ⟨0, 0, 0, 0⟩)
abbrev s_stretch_end : Stmt := topS 9
abbrev N_stretch_end : List Str := ["text", "at", "characters"]
theorem sc_stretch_end : FnScope N_stretch_end ["text", "at", "characters"] (defScope s_stretch_end) := ⟨rfl, rfl, rfl, by decide +kernel, rfl, by decide +kernel, by decide +kernel⟩
abbrev s_quoted_end : Stmt := topS 10
abbrev N_quoted_end : List Str := ["text", "at", "close"]
theorem sc_quoted_end : FnScope N_quoted_end ["text", "at"] (defScope s_quoted_end) := ⟨rfl, rfl, rfl, by decide +kernel, rfl, by decide +kernel, by decide +kernel⟩
abbrev s_number_end : Stmt := topS 11
abbrev N_number_end : List Str := ["text", "at", "start", "end"]
theorem sc_number_end : FnScope N_number_end ["text", "at"] (defScope s_number_end) := ⟨rfl, rfl, rfl, by decide +kernel, rfl, by decide +kernel, by decide +kernel⟩
abbrev s_word_end : Stmt := topS 12
abbrev N_word_end : List Str := ["text", "at"]
theorem sc_word_end : FnScope N_word_end ["text", "at"] (defScope s_word_end) := ⟨rfl, rfl, rfl, by decide +kernel, rfl, by decide +kernel, by decide +kernel⟩
abbrev s_split_words : Stmt := topS 13
abbrev N_split_words : List Str := ["text", "words", "at", "end"]
theorem sc_split_words : FnScope N_split_words ["text"] (defScope s_split_words) := ⟨rfl, rfl, rfl, by decide +kernel, rfl, by decide +kernel, by decide +kernel⟩
abbrev s_l_digit : Stmt := topS 15
abbrev N_l_digit : List Str := ["_law_pool", "_law_many", "_law_cells", "_law_digit_here", "_law_lap"]
theorem sc_l_digit : FnScope N_l_digit ["_law_pool", "_law_many"] (defScope s_l_digit) := ⟨rfl, rfl, rfl, by decide +kernel, rfl, by decide +kernel, by decide +kernel⟩
abbrev s_l_letters : Stmt := topS 16
abbrev N_l_letters : List Str := []
theorem sc_l_letters : FnScope N_l_letters [] (defScope s_l_letters) := ⟨rfl, rfl, rfl, by decide +kernel, rfl, by decide +kernel, by decide +kernel⟩
abbrev s_l_strange : Stmt := topS 17
abbrev N_l_strange : List Str := []
theorem sc_l_strange : FnScope N_l_strange [] (defScope s_l_strange) := ⟨rfl, rfl, rfl, by decide +kernel, rfl, by decide +kernel, by decide +kernel⟩
abbrev s_l_keys : Stmt := topS 18
abbrev N_l_keys : List Str := ["_law_words"]
theorem sc_l_keys : FnScope N_l_keys [] (defScope s_l_keys) := ⟨rfl, rfl, rfl, by decide +kernel, rfl, by decide +kernel, by decide +kernel⟩
abbrev s_l_signs : Stmt := topS 19
abbrev N_l_signs : List Str := []
theorem sc_l_signs : FnScope N_l_signs [] (defScope s_l_signs) := ⟨rfl, rfl, rfl, by decide +kernel, rfl, by decide +kernel, by decide +kernel⟩
abbrev s_l_drawn : Stmt := topS 20
abbrev N_l_drawn : List Str := ["_law_pool", "_law_signs_here", "_law_size_here", "_law_many", "_law_k"]
theorem sc_l_drawn : FnScope N_l_drawn ["_law_pool", "_law_signs_here", "_law_size_here"] (defScope s_l_drawn) := ⟨rfl, rfl, rfl, by decide +kernel, rfl, by decide +kernel, by decide +kernel⟩
abbrev s_l_word : Stmt := topS 21
abbrev N_l_word : List Str := ["_law_pool", "_law_kind", "_law_signs_here", "_law_size_here", "_law_words"]
theorem sc_l_word : FnScope N_l_word ["_law_pool"] (defScope s_l_word) := ⟨rfl, rfl, rfl, by decide +kernel, rfl, by decide +kernel, by decide +kernel⟩
abbrev s_l_one : Stmt := topS 22
abbrev N_l_one : List Str := ["_law_last", "_law_word_here", "_law_letters_here", "_law_figures"]
theorem sc_l_one : FnScope N_l_one ["_law_last", "_law_word_here"] (defScope s_l_one) := ⟨rfl, rfl, rfl, by decide +kernel, rfl, by decide +kernel, by decide +kernel⟩
abbrev s_l_join : Stmt := topS 23
abbrev N_l_join : List Str := ["_law_pool", "_law_words", "_law_text", "_law_last", "_law_word_here", "_law_gap"]
theorem sc_l_join : FnScope N_l_join ["_law_pool", "_law_words"] (defScope s_l_join) := ⟨rfl, rfl, rfl, by decide +kernel, rfl, by decide +kernel, by decide +kernel⟩
abbrev s_l_spoilt : Stmt := topS 24
abbrev N_l_spoilt : List Str := ["_law_pool", "_law_words", "_law_at", "_law_mode", "_law_front", "_law_rest", "_law_back", "_law_word_here"]
theorem sc_l_spoilt : FnScope N_l_spoilt ["_law_pool", "_law_words", "_law_at", "_law_mode"] (defScope s_l_spoilt) := ⟨rfl, rfl, rfl, by decide +kernel, rfl, by decide +kernel, by decide +kernel⟩
abbrev s_l_raw : Stmt := topS 25
abbrev N_l_raw : List Str := ["_law_pool", "_law_signs_here", "_law_text", "_law_k", "_law_size_here"]
theorem sc_l_raw : FnScope N_l_raw ["_law_pool"] (defScope s_l_raw) := ⟨rfl, rfl, rfl, by decide +kernel, rfl, by decide +kernel, by decide +kernel⟩
abbrev s_l_stretch : Stmt := topS 26
abbrev N_l_stretch : List Str := ["_law_text", "_law_at", "_law_signs_here", "_law_size_here", "_law_sign"]
theorem sc_l_stretch : FnScope N_l_stretch ["_law_text", "_law_at", "_law_signs_here"] (defScope s_l_stretch) := ⟨rfl, rfl, rfl, by decide +kernel, rfl, by decide +kernel, by decide +kernel⟩
abbrev s_l_size : Stmt := topS 27
abbrev N_l_size : List Str := ["_law_text", "_law_at", "_law_sign", "_law_after", "_law_size_here"]
theorem sc_l_size : FnScope N_l_size ["_law_text", "_law_at"] (defScope s_l_size) := ⟨rfl, rfl, rfl, by decide +kernel, rfl, by decide +kernel, by decide +kernel⟩
abbrev s_l_divided : Stmt := topS 28
abbrev N_l_divided : List Str := ["_law_text", "_law_words", "_law_skip", "_law_at", "_law_size_here"]
theorem sc_l_divided : FnScope N_l_divided ["_law_text"] (defScope s_l_divided) := ⟨rfl, rfl, rfl, by decide +kernel, rfl, by decide +kernel, by decide +kernel⟩
abbrev s_l_told : Stmt := topS 29
abbrev N_l_told : List Str := ["_law_text", "e"]
theorem sc_l_told : FnScope N_l_told ["_law_text"] (defScope s_l_told) := ⟨rfl, rfl, rfl, by decide +kernel, rfl, by decide +kernel, by decide +kernel⟩
abbrev s_l_alone : Stmt := topS 30
abbrev N_l_alone : List Str := ["_law_text", "e"]
theorem sc_l_alone : FnScope N_l_alone ["_law_text"] (defScope s_l_alone) := ⟨rfl, rfl, rfl, by decide +kernel, rfl, by decide +kernel, by decide +kernel⟩
abbrev s_l_right : Stmt := topS 31
abbrev N_l_right : List Str := ["_law_told_here", "_law_due"]
theorem sc_l_right : FnScope N_l_right ["_law_told_here", "_law_due"] (defScope s_l_right) := ⟨rfl, rfl, rfl, by decide +kernel, rfl, by decide +kernel, by decide +kernel⟩
abbrev s_law : Stmt := topS 32
abbrev N_law : List Str := ["_law_script", "_law_pool", "_law_mode", "_law_many", "_law_words", "_law_told_here", "_law_text", "_law_due", "_law_k", "_law_at", "_law_cell"]
theorem sc_law : FnScope N_law ["_law_script"] (defScope s_law) := ⟨rfl, rfl, rfl, by decide +kernel, rfl, by decide +kernel, by decide +kernel⟩
abbrev sI_1 : Stmt := methOf 0 (topS 2)
theorem scI_1 : FnScope ["self", "at"] ["self", "at"] (defScope sI_1) := ⟨rfl, rfl, rfl, by decide +kernel, rfl, by decide +kernel, by decide +kernel⟩
abbrev sI_2 : Stmt := methOf 0 (topS 3)
theorem scI_2 : FnScope ["self", "part"] ["self", "part"] (defScope sI_2) := ⟨rfl, rfl, rfl, by decide +kernel, rfl, by decide +kernel, by decide +kernel⟩
/-- what the top has written -/
structure Txt (K : PySem.W.Frag) (mg : Str → Option Value) : Type where
  f_stretch_end : Addr
  d_stretch_end : FuncData
  g_stretch_end : mg "stretch_end" = some (.ref f_stretch_end)
  F_stretch_end : Fun K "stretch_end" "stretch_end" s_stretch_end f_stretch_end d_stretch_end
  b_stretch_end : Binds K d_stretch_end ["text", "at", "characters"] []
  f_quoted_end : Addr
  d_quoted_end : FuncData
  g_quoted_end : mg "quoted_end" = some (.ref f_quoted_end)
  F_quoted_end : Fun K "quoted_end" "quoted_end" s_quoted_end f_quoted_end d_quoted_end
  b_quoted_end : Binds K d_quoted_end ["text", "at"] []
  f_number_end : Addr
  d_number_end : FuncData
  g_number_end : mg "number_end" = some (.ref f_number_end)
  F_number_end : Fun K "number_end" "number_end" s_number_end f_number_end d_number_end
  b_number_end : Binds K d_number_end ["text", "at"] []
  f_word_end : Addr
  d_word_end : FuncData
  g_word_end : mg "word_end" = some (.ref f_word_end)
  F_word_end : Fun K "word_end" "word_end" s_word_end f_word_end d_word_end
  b_word_end : Binds K d_word_end ["text", "at"] []
  f_split_words : Addr
  d_split_words : FuncData
  g_split_words : mg "split_words" = some (.ref f_split_words)
  F_split_words : Fun K "split_words" "split_words" s_split_words f_split_words d_split_words
  b_split_words : Binds K d_split_words ["text"] []
  f_l_digit : Addr
  d_l_digit : FuncData
  g_l_digit : mg "_law_digit" = some (.ref f_l_digit)
  F_l_digit : Fun K "_law_digit" "_law_digit" s_l_digit f_l_digit d_l_digit
  b_l_digit : Binds K d_l_digit ["_law_pool", "_law_many"] []
  f_l_letters : Addr
  d_l_letters : FuncData
  g_l_letters : mg "_law_letters" = some (.ref f_l_letters)
  F_l_letters : Fun K "_law_letters" "_law_letters" s_l_letters f_l_letters d_l_letters
  b_l_letters : Binds K d_l_letters [] []
  f_l_strange : Addr
  d_l_strange : FuncData
  g_l_strange : mg "_law_strange" = some (.ref f_l_strange)
  F_l_strange : Fun K "_law_strange" "_law_strange" s_l_strange f_l_strange d_l_strange
  b_l_strange : Binds K d_l_strange [] []
  f_l_keys : Addr
  d_l_keys : FuncData
  g_l_keys : mg "_law_keys" = some (.ref f_l_keys)
  F_l_keys : Fun K "_law_keys" "_law_keys" s_l_keys f_l_keys d_l_keys
  b_l_keys : Binds K d_l_keys [] []
  f_l_signs : Addr
  d_l_signs : FuncData
  g_l_signs : mg "_law_signs" = some (.ref f_l_signs)
  F_l_signs : Fun K "_law_signs" "_law_signs" s_l_signs f_l_signs d_l_signs
  b_l_signs : Binds K d_l_signs [] []
  f_l_drawn : Addr
  d_l_drawn : FuncData
  g_l_drawn : mg "_law_drawn" = some (.ref f_l_drawn)
  F_l_drawn : Fun K "_law_drawn" "_law_drawn" s_l_drawn f_l_drawn d_l_drawn
  b_l_drawn : Binds K d_l_drawn ["_law_pool", "_law_signs_here", "_law_size_here"] []
  f_l_word : Addr
  d_l_word : FuncData
  g_l_word : mg "_law_word" = some (.ref f_l_word)
  F_l_word : Fun K "_law_word" "_law_word" s_l_word f_l_word d_l_word
  b_l_word : Binds K d_l_word ["_law_pool"] []
  f_l_one : Addr
  d_l_one : FuncData
  g_l_one : mg "_law_one" = some (.ref f_l_one)
  F_l_one : Fun K "_law_one" "_law_one" s_l_one f_l_one d_l_one
  b_l_one : Binds K d_l_one ["_law_last", "_law_word_here"] []
  f_l_join : Addr
  d_l_join : FuncData
  g_l_join : mg "_law_join" = some (.ref f_l_join)
  F_l_join : Fun K "_law_join" "_law_join" s_l_join f_l_join d_l_join
  b_l_join : Binds K d_l_join ["_law_pool", "_law_words"] []
  f_l_spoilt : Addr
  d_l_spoilt : FuncData
  g_l_spoilt : mg "_law_spoilt" = some (.ref f_l_spoilt)
  F_l_spoilt : Fun K "_law_spoilt" "_law_spoilt" s_l_spoilt f_l_spoilt d_l_spoilt
  b_l_spoilt : Binds K d_l_spoilt ["_law_pool", "_law_words", "_law_at", "_law_mode"] []
  f_l_raw : Addr
  d_l_raw : FuncData
  g_l_raw : mg "_law_raw" = some (.ref f_l_raw)
  F_l_raw : Fun K "_law_raw" "_law_raw" s_l_raw f_l_raw d_l_raw
  b_l_raw : Binds K d_l_raw ["_law_pool"] []
  f_l_stretch : Addr
  d_l_stretch : FuncData
  g_l_stretch : mg "_law_stretch" = some (.ref f_l_stretch)
  F_l_stretch : Fun K "_law_stretch" "_law_stretch" s_l_stretch f_l_stretch d_l_stretch
  b_l_stretch : Binds K d_l_stretch ["_law_text", "_law_at", "_law_signs_here"] []
  f_l_size : Addr
  d_l_size : FuncData
  g_l_size : mg "_law_size" = some (.ref f_l_size)
  F_l_size : Fun K "_law_size" "_law_size" s_l_size f_l_size d_l_size
  b_l_size : Binds K d_l_size ["_law_text", "_law_at"] []
  f_l_divided : Addr
  d_l_divided : FuncData
  g_l_divided : mg "_law_divided" = some (.ref f_l_divided)
  F_l_divided : Fun K "_law_divided" "_law_divided" s_l_divided f_l_divided d_l_divided
  b_l_divided : Binds K d_l_divided ["_law_text"] []
  f_l_told : Addr
  d_l_told : FuncData
  g_l_told : mg "_law_told" = some (.ref f_l_told)
  F_l_told : Fun K "_law_told" "_law_told" s_l_told f_l_told d_l_told
  b_l_told : Binds K d_l_told ["_law_text"] []
  f_l_alone : Addr
  d_l_alone : FuncData
  g_l_alone : mg "_law_alone" = some (.ref f_l_alone)
  F_l_alone : Fun K "_law_alone" "_law_alone" s_l_alone f_l_alone d_l_alone
  b_l_alone : Binds K d_l_alone ["_law_text"] []
  f_l_right : Addr
  d_l_right : FuncData
  g_l_right : mg "_law_right" = some (.ref f_l_right)
  F_l_right : Fun K "_law_right" "_law_right" s_l_right f_l_right d_l_right
  b_l_right : Binds K d_l_right ["_law_told_here", "_law_due"] []
  f_law : Addr
  d_law : FuncData
  g_law : mg "law" = some (.ref f_law)
  F_law : Fun K "law" "law" s_law f_law d_law
  b_law : Binds K d_law ["_law_script"] []
  n_ValueError : mg "ValueError" = none
  n_abs : mg "abs" = none
  n_bool : mg "bool" = none
  n_int : mg "int" = none
  n_isinstance : mg "isinstance" = none
  n_len : mg "len" = none
  n_range : mg "range" = none
  t_FIGURES : Tok
  c_FIGURES : mg "FIGURES" = some (.str "0123456789" t_FIGURES)
  t_LETTERS : Tok
  c_LETTERS : mg "LETTERS" = some (.str "abcdefghijklmnopqrstuvwxyz" t_LETTERS)
  a_LONG_SIGNS : Addr
  c_LONG_SIGNS : mg "LONG_SIGNS" = some (.ref a_LONG_SIGNS)
  l_LONG_SIGNS : SqT K (fun _ => none) a_LONG_SIGNS [.str "<>", .str "<=", .str ">="]
  r_LONG_SIGNS : ∀ z F, RpAll ⟨K, z⟩ F [.str "<>", .str "<=", .str ">="] [.str "<>", .str "<=", .str ">="]
  a_SIGNS : Addr
  c_SIGNS : mg "SIGNS" = some (.ref a_SIGNS)
  l_SIGNS : SqT K (fun _ => none) a_SIGNS [.str "=", .str "<>", .str "<", .str "<=", .str ">", .str ">="]
  r_SIGNS : ∀ z F, RpAll ⟨K, z⟩ F [.str "=", .str "<>", .str "<", .str "<=", .str ">", .str ">="] [.str "=", .str "<>", .str "<", .str "<=", .str ">", .str ">="]
  ct : Nat → Addr
  gC_0 : mg "ColonnadeError" = some (.ref (ct 0))
  gC_1 : mg "Unread" = some (.ref (ct 1))
  gC_2 : mg "TooMany" = some (.ref (ct 2))
  fI_1 : Addr
  dI_1 : FuncData
  FI_1 : Fun K "__init__" "Unread.__init__" sI_1 fI_1 dI_1
  bi_1 : Binds K dI_1 ["self", "at"] []
  e_1 : ErrC K mg "Unread" (ct 1) fI_1
  nf_1_at : PySem.W.findIn K (.ref (ct 1)) "at" = some none
  fI_2 : Addr
  dI_2 : FuncData
  FI_2 : Fun K "__init__" "TooMany.__init__" sI_2 fI_2 dI_2
  bi_2 : Binds K dI_2 ["self", "part"] []
  e_2 : ErrC K mg "TooMany" (ct 2) fI_2
  nf_2_part : PySem.W.findIn K (.ref (ct 2)) "part" = some none
  hrd : ∀ (n : Nat) (f : Str), exRd n f = true → XfC K (ct n) ∧ PySem.W.findIn K (.ref (ct n)) f = some none
  hkit : ∀ (n t : Nat) (b : Bool), exKit n t = some b → ExcC K (ct n) ∧ PySem.W.kitOne K (.ref (ct n)) (.ref (ct t)) = some b
  hkv : ∀ (n : Nat), (exKit n 0).isSome = true → ExcC K (ct n) ∧ PySem.W.kitOne K (.ref (ct n)) (.type "ValueError") = some true
  hsub_0 : ∀ (n : Nat) (b : Bool), exSub_0 n = some b → PySem.W.exmOne K (.ref (ct n)) (.ref (ct 0)) = some b
  hsub_1 : ∀ (n : Nat) (b : Bool), exSub_1 n = some b → PySem.W.exmOne K (.ref (ct n)) (.ref (ct 1)) = some b
  hsub_2 : ∀ (n : Nat) (b : Bool), exSub_2 n = some b → PySem.W.exmOne K (.ref (ct n)) (.ref (ct 2)) = some b
section
variable {P : Program} {w : World} {K : PySem.W.Frag} {mg : Str → Option Value} {base : Heap}
theorem oki_1 (T : Txt K mg) : FnOk P w K mg base CX0 1 T.fI_1 T.dI_1 ["self", "at"] (spI1 K "at") :=
  T.FI_1.ok scI_1 (fun vs H Q E h => init1_len h) fun cdv A outer s H vs Q E hr h => ⟨_, pss_one (ps_ost (pv 0) (pv 1)), init1 h⟩
theorem oki_2 (T : Txt K mg) : FnOk P w K mg base CX0 1 T.fI_2 T.dI_2 ["self", "part"] (spI1 K "part") :=
  T.FI_2.ok scI_2 (fun vs H Q E h => init1_len h) fun cdv A outer s H vs Q E hr h => ⟨_, pss_one (ps_ost (pv 0) (pv 1)), init1 h⟩
theorem ok_stretch_end (T : Txt K mg) : FnOk P w K mg base CX0 1 T.f_stretch_end T.d_stretch_end ["text", "at", "characters"] (spOf K 3 fs_stretch_end) := by
  exact fn_ok (ds := ds_stretch_end) T.F_stretch_end sc_stretch_end rfl (by decide) (fun B cdv A outer s H E hr => ⟨_, by exact (ss_cons (s_while PassesOwn.never (t_w (w_and (t_cmp op_lt od_lt (xv 1) (x_cb call_len_str cd_lenS T.n_len (xa_cons (xv 0) xa_nil))) (w_and1 (t_cmp op_in_sign od_inC (x_ix ix_str od_ixS (xv 0) (xv 1)) (xv 2))))) (ss_one (s_aug 1 sc_stretch_end.nd x_int ip_add)))
      (ss_one (s_ret (xvM 1))))⟩) pure_stretch_end
theorem ok_quoted_end (T : Txt K mg) : FnOk P w K mg base CX0 1 T.f_quoted_end T.d_quoted_end ["text", "at"] (spOf K 2 fs_quoted_end) := by
  exact fn_ok (ds := ds_quoted_end) T.F_quoted_end sc_quoted_end rfl (by decide) (fun B cdv A outer s H E hr => ⟨_, by exact (ss_cons (s_set 2 sc_quoted_end.nd (x_sm (fun h h2 => pe_bm PySem.F.plainAttrs_str PySem.F.slot_str_find PySem.F.type_str_find mt_find3 h h2) sm_find3 (xv 0) (xa_cons x_str (xa_cons (x_op op_add od_add (xv 1) x_int) xa_nil))))
      (ss_one (s_ret (x_if (t_cmp op_lt od_lt (xv 2) x_int) (xvV 1) (x_op op_add od_add (xv 2) x_int)))))⟩) pure_quoted_end
theorem ok_l_digit (T : Txt K mg) : FnOk P w K mg base CX0 1 T.f_l_digit T.d_l_digit ["_law_pool", "_law_many"] (spOf K 2 fs_l_digit) := by
  exact fn_ok (ds := ds_l_digit) T.F_l_digit sc_l_digit rfl (by decide) (fun B cdv A outer s H E hr => ⟨_, by exact (ss_cons (s_set 2 sc_l_digit.nd (x_ix ix_list od_ixL (xv 0) x_int))
      (ss_cons (s_if (t_w (w_and (t_cmp (op_eqD hr.units) od_eqD (x_ix ix_list od_ixL (xv 0) x_int) x_int) (w_and1 (t_cmp (op_neD hr.units) od_neD (xv 2) (x_lst xa_nil))))) (ss_cons (s_set 4 sc_l_digit.nd (x_op op_fdivW od_fdivW (x_ix ix_list od_ixL (xv 0) x_int) (x_cb call_len_seq cd_len T.n_len (xa_cons (xv 2) xa_nil))))
      (ss_cons (s_setI 0 (x_op op_add od_add (x_ix ix_seq od_ixQ (xv 2) (x_op op_mod od_mod (x_ct call_int1 cd_int T.n_int (xa_cons (x_ix ix_list od_ixL (xv 0) x_int) xa_nil)) (x_cb call_len_seq cd_len T.n_len (xa_cons (xv 2) xa_nil)))) (xv 4)) x_int)
      (ss_one (s_setI 0 (x_op op_add od_add (x_ix ix_list od_ixL (xv 0) x_int) x_int) x_int)))) ss_nil)
      (ss_cons (s_set 3 sc_l_digit.nd (x_op op_mod od_mod (x_ct call_int1 cd_int T.n_int (xa_cons (x_ix ix_list od_ixL (xv 0) x_int) xa_nil)) (xv 1)))
      (ss_cons (s_setI 0 (x_op op_fdivW od_fdivW (x_ix ix_list od_ixL (xv 0) x_int) (xv 1)) x_int)
      (ss_one (s_ret (xvM 3)))))))⟩) pure_l_digit
theorem ok_l_letters (T : Txt K mg) : FnOk P w K mg base CX0 1 T.f_l_letters T.d_l_letters [] (spOf K 0 fs_l_letters) := by
  exact fn_ok (ds := ds_l_letters) T.F_l_letters sc_l_letters rfl (by decide) (fun B cdv A outer s H E hr => ⟨_, by exact (ss_one (s_ret x_str))⟩) pure_l_letters
theorem ok_l_strange (T : Txt K mg) : FnOk P w K mg base CX0 1 T.f_l_strange T.d_l_strange [] (spOf K 0 fs_l_strange) := by
  exact fn_ok (ds := ds_l_strange) T.F_l_strange sc_l_strange rfl (by decide) (fun B cdv A outer s H E hr => ⟨_, by exact (ss_one (s_ret x_str))⟩) pure_l_strange
theorem ok_l_keys (T : Txt K mg) : FnOk P w K mg base CX0 1 T.f_l_keys T.d_l_keys [] (spOf K 0 fs_l_keys) := by
  exact fn_ok (ds := ds_l_keys) T.F_l_keys sc_l_keys rfl (by decide) (fun B cdv A outer s H E hr => ⟨_, by exact (ss_cons (s_set 0 sc_l_keys.nd (x_lst (xa_cons x_str (xa_cons x_str (xa_cons x_str (xa_cons x_str (xa_cons x_str (xa_cons x_str (xa_cons x_str (xa_cons x_str (xa_cons x_str (xa_cons x_str (xa_cons x_str xa_nil)))))))))))))
      (ss_cons (s_set 0 sc_l_keys.nd (x_op op_cat od_cat (xv 0) (x_lst (xa_cons x_str (xa_cons x_str (xa_cons x_str (xa_cons x_str (xa_cons x_str (xa_cons x_str (xa_cons x_str (xa_cons x_str (xa_cons x_str xa_nil))))))))))))
      (ss_one (s_ret (x_op op_cat od_cat (xv 0) (x_lst (xa_cons x_str (xa_cons x_str (xa_cons x_str (xa_cons x_str (xa_cons x_str (xa_cons x_str (xa_cons x_str xa_nil)))))))))))))⟩) pure_l_keys
theorem ok_l_signs (T : Txt K mg) : FnOk P w K mg base CX0 1 T.f_l_signs T.d_l_signs [] (spOf K 0 fs_l_signs) := by
  exact fn_ok (ds := ds_l_signs) T.F_l_signs sc_l_signs rfl (by decide) (fun B cdv A outer s H E hr => ⟨_, by exact (ss_one (s_ret (x_lst (xa_cons x_str (xa_cons x_str (xa_cons x_str (xa_cons x_str (xa_cons x_str (xa_cons x_str (xa_cons x_str (xa_cons x_str (xa_cons x_str xa_nil))))))))))))⟩) pure_l_signs
theorem ok_l_stretch (T : Txt K mg) : FnOk P w K mg base CX0 1 T.f_l_stretch T.d_l_stretch ["_law_text", "_law_at", "_law_signs_here"] (spOf K 3 fs_l_stretch) := by
  exact fn_ok (ds := ds_l_stretch) T.F_l_stretch sc_l_stretch rfl (by decide) (fun B cdv A outer s H E hr => ⟨_, by exact (ss_cons (s_set 3 sc_l_stretch.nd x_int)
      (ss_cons (s_for PassesOwn.never rfl (i_str (x_sl C8.sl_txt sd_str (xv 0) (xo_some (xv 1)) xo_none)) (g_name 4 sc_l_stretch.nd) (ss_cons (s_if (t_cmp op_notIn_sign od_ninC (xv 4) (xv 2)) (ss_one (s_ret (xvM 3))) ss_nil)
      (ss_one (s_set 3 sc_l_stretch.nd (x_op op_add od_add (xv 3) x_int)))))
      (ss_one (s_ret (xvM 3)))))⟩) pure_l_stretch
theorem ok_l_right (T : Txt K mg) : FnOk P w K mg base CX0 1 T.f_l_right T.d_l_right ["_law_told_here", "_law_due"] (spOf K 2 fs_l_right) := by
  exact fn_ok (ds := ds_l_right) T.F_l_right sc_l_right rfl (by decide) (fun B cdv A outer s H E hr => ⟨_, by exact (ss_cons (s_if (t_w (w_and (t_cmp op_eq od_eq (x_ix ix_tup od_ixT (xv 0) x_int) x_str) (w_and1 (t_not (t_val (x_cb call_isi cd_isi T.n_isinstance (xa_cons (x_ix ix_tup od_ixT (xv 0) x_int) (xa_cons (x_bty T.n_int) xa_nil)))))))) (ss_one (s_ret x_bl)) ss_nil)
      (ss_one (s_ret (x_and (x_not (x_cb call_isi cd_isi T.n_isinstance (xa_cons (x_ix ix_tup od_ixT (xv 0) x_int) (xa_cons (x_bty T.n_bool) xa_nil)))) (x_one (x_cmp (op_eqD hr.units) od_eqD (xv 0) (xv 1)))))))⟩) pure_l_right
theorem ok_number_end (T : Txt K mg) : FnOk P w K mg base CX0 2 T.f_number_end T.d_number_end ["text", "at"] (spOf K 2 fs_number_end) := by
  have G_stretch_end := ok_stretch_end (P := P) (w := w) (base := base) T
  exact fn_ok (ds := ds_number_end) T.F_number_end sc_number_end rfl (by decide) (fun B cdv A outer s H E hr => ⟨_, by exact (ss_cons (s_set 2 sc_number_end.nd (x_if (t_cmp op_eq od_eq (x_ix ix_str od_ixS (xv 0) (xv 1)) x_str) (x_op op_add od_add (xv 1) x_int) (xvV 1)))
      (ss_cons (s_set 3 sc_number_end.nd (x_call G_stretch_end (hr.mono (by decide)) T.g_stretch_end T.F_stretch_end.kp T.b_stretch_end (xa_cons (xvV 0) (xa_cons (xvV 2) (xa_cons (x_gstr T.c_FIGURES) xa_nil)))))
      (ss_one (s_ret (x_if (t_cmp op_gt od_gt (xv 3) (xv 2)) (xvV 3) (xvV 1))))))⟩) pure_number_end
theorem ok_l_drawn (T : Txt K mg) : FnOk P w K mg base CX0 2 T.f_l_drawn T.d_l_drawn ["_law_pool", "_law_signs_here", "_law_size_here"] (spOf K 3 fs_l_drawn) := by
  have G_l_digit := ok_l_digit (P := P) (w := w) (base := base) T
  exact fn_ok (ds := ds_l_drawn) T.F_l_drawn sc_l_drawn rfl (by decide) (fun B cdv A outer s H E hr => ⟨_, by exact (ss_cons (s_set 3 sc_l_drawn.nd (x_cb call_len_str cd_lenS T.n_len (xa_cons (xv 1) xa_nil)))
      (ss_one (s_ret (x_join x_str (x_lc [("_law_k", 4)] rfl sc_l_drawn.nd (i_r1 T.n_range (xa_cons (xvV 2) xa_nil)) (blkOk_by (N := N_l_drawn) (sc := defScope s_l_drawn) (by decide +kernel)) (fun _ _ _ _ _ _ => by exact (g_name 4 sc_l_drawn.nd)) (fun _ _ _ _ _ _ => by exact ts_nil) (fun _ _ _ _ _ _ => by exact (x_ix ix_str (od_ixS (K := K)) (xv 1) (x_callC K rfl G_l_digit (hr.mono (by decide)) T.g_l_digit T.F_l_digit.kp T.b_l_digit (xa_cons (xv 0) (xa_cons (xvV 3) xa_nil))))) (by decide))))))⟩) pure_l_drawn
theorem ok_l_one (T : Txt K mg) : FnOk P w K mg base CX0 2 T.f_l_one T.d_l_one ["_law_last", "_law_word_here"] (spOf K 2 fs_l_one) := by
  have G_l_letters := ok_l_letters (P := P) (w := w) (base := base) T
  exact fn_ok (ds := ds_l_one) T.F_l_one sc_l_one rfl (by decide) (fun B cdv A outer s H E hr => ⟨_, by exact (ss_cons (s_set 2 sc_l_one.nd (x_call0 G_l_letters (hr.mono (by decide)) T.g_l_letters T.F_l_letters.kp T.b_l_letters))
      (ss_cons (s_set 3 sc_l_one.nd x_str)
      (ss_cons (s_if (t_cmp op_eq od_eq (xv 0) x_str) (ss_one (s_ret x_bl)) ss_nil)
      (ss_cons (s_if (t_w (w_and (t_cmp op_in_sign od_inC (x_ix ix_str od_ixS (xv 0) (x_un un_neg ud_neg x_int)) (xv 2)) (w_and1 (t_cmp op_in_sign od_inC (x_ix ix_str od_ixS (xv 1) x_int) (xv 2))))) (ss_one (s_ret x_bl)) ss_nil)
      (ss_cons (s_if (t_w (w_and (t_cmp op_in_sign od_inC (x_ix ix_str od_ixS (xv 0) (x_un un_neg ud_neg x_int)) (xv 3)) (w_and1 (t_cmp op_in_sign od_inC (x_ix ix_str od_ixS (xv 1) x_int) (xv 3))))) (ss_one (s_ret x_bl)) ss_nil)
      (ss_cons (s_if (t_cmp op_eq od_eq (xv 0) x_str) (ss_one (s_ret (x_cmp op_in_sign od_inC (x_ix ix_str od_ixS (xv 1) x_int) x_str))) ss_nil)
      (ss_one (s_ret (x_and (x_cmp op_eq od_eq (xv 0) x_str) (x_one (x_cmp op_eq od_eq (x_ix ix_str od_ixS (xv 1) x_int) x_str)))))))))))⟩) pure_l_one
theorem ok_l_raw (T : Txt K mg) : FnOk P w K mg base CX0 2 T.f_l_raw T.d_l_raw ["_law_pool"] (spOf K 1 fs_l_raw) := by
  have G_l_digit := ok_l_digit (P := P) (w := w) (base := base) T
  have G_l_letters := ok_l_letters (P := P) (w := w) (base := base) T
  have G_l_strange := ok_l_strange (P := P) (w := w) (base := base) T
  exact fn_ok (ds := ds_l_raw) T.F_l_raw sc_l_raw rfl (by decide) (fun B cdv A outer s H E hr => ⟨_, by exact (ss_cons (s_set 1 sc_l_raw.nd (x_op op_add_str od_addS (x_op op_add_str od_addS (x_op op_add_str od_addS x_str (x_call0 G_l_letters (hr.mono (by decide)) T.g_l_letters T.F_l_letters.kp T.b_l_letters)) x_str) (x_call0 G_l_strange (hr.mono (by decide)) T.g_l_strange T.F_l_strange.kp T.b_l_strange)))
      (ss_cons (s_set 2 sc_l_raw.nd x_str)
      (ss_cons (s_for PassesOwn.never rfl (i_r1 T.n_range (xa_cons (x_call G_l_digit (hr.mono (by decide)) T.g_l_digit T.F_l_digit.kp T.b_l_digit (xa_cons (xv 0) (xa_cons x_int xa_nil))) xa_nil)) (g_name 3 sc_l_raw.nd) (ss_cons (s_set 4 sc_l_raw.nd (x_ix ix_list od_ixL (x_lst (xa_cons x_int (xa_cons x_int (xa_cons x_int (xa_cons (x_cb call_len_str cd_lenS T.n_len (xa_cons (xv 1) xa_nil)) xa_nil))))) (x_call G_l_digit (hr.mono (by decide)) T.g_l_digit T.F_l_digit.kp T.b_l_digit (xa_cons (xv 0) (xa_cons x_int xa_nil)))))
      (ss_one (s_set 2 sc_l_raw.nd (x_op op_add_str od_addS (xv 2) (x_ix ix_str od_ixS (xv 1) (x_call G_l_digit (hr.mono (by decide)) T.g_l_digit T.F_l_digit.kp T.b_l_digit (xa_cons (xv 0) (xa_cons (xvV 4) xa_nil)))))))))
      (ss_one (s_ret (xvM 2))))))⟩) pure_l_raw
theorem ok_l_size (T : Txt K mg) : FnOk P w K mg base CX0 2 T.f_l_size T.d_l_size ["_law_text", "_law_at"] (spOf K 2 fs_l_size) := by
  have G_l_letters := ok_l_letters (P := P) (w := w) (base := base) T
  have G_l_stretch := ok_l_stretch (P := P) (w := w) (base := base) T
  exact fn_ok (ds := ds_l_size) T.F_l_size sc_l_size rfl (by decide) (fun B cdv A outer s H E hr => ⟨_, by exact (ss_cons (s_set 2 sc_l_size.nd (x_ix ix_str od_ixS (xv 0) (xv 1)))
      (ss_cons (s_set 3 sc_l_size.nd (x_sl C8.sl_txt sd_str (xv 0) (xo_some (x_op op_add od_add (xv 1) x_int)) (xo_some (x_op op_add od_add (xv 1) x_int))))
      (ss_cons (s_if (t_cmp op_in_sign od_inC (xv 2) x_str) (ss_one (s_ret x_int)) ss_nil)
      (ss_cons (s_if (t_cmp op_eq od_eq (xv 2) x_str) (ss_one (s_ret (x_if (t_cmp op_in_seq od_inQ (xv 3) (x_lst (xa_cons x_str (xa_cons x_str xa_nil)))) x_int x_int))) ss_nil)
      (ss_cons (s_if (t_cmp op_eq od_eq (xv 2) x_str) (ss_one (s_ret (x_if (t_cmp op_eq od_eq (xv 3) x_str) x_int x_int))) ss_nil)
      (ss_cons (s_if (t_cmp op_eq od_eq (xv 2) x_str) (ss_one (s_ret (x_op op_add od_add (x_op op_sub od_sub (x_sm (fun h h2 => pe_bm PySem.F.plainAttrs_str PySem.F.slot_str_find PySem.F.type_str_find mt_find3 h h2) sm_find3 (xv 0) (xa_cons x_str (xa_cons (x_op op_add od_add (xv 1) x_int) xa_nil))) (xv 1)) x_int))) ss_nil)
      (ss_cons (s_if (t_cmp op_eq od_eq (xv 2) x_str) (ss_cons (s_set 4 sc_l_size.nd (x_call G_l_stretch (hr.mono (by decide)) T.g_l_stretch T.F_l_stretch.kp T.b_l_stretch (xa_cons (xvV 0) (xa_cons (x_op op_add od_add (xv 1) x_int) (xa_cons x_str xa_nil)))))
      (ss_one (s_ret (x_if (t_cmp op_gt od_gt (xv 4) x_int) (x_op op_add od_add (xv 4) x_int) x_int)))) ss_nil)
      (ss_cons (s_set 4 sc_l_size.nd (x_call G_l_stretch (hr.mono (by decide)) T.g_l_stretch T.F_l_stretch.kp T.b_l_stretch (xa_cons (xvV 0) (xa_cons (xvV 1) (xa_cons x_str xa_nil)))))
      (ss_cons (s_if (t_cmp op_gt od_gt (xv 4) x_int) (ss_one (s_ret (xvM 4))) ss_nil)
      (ss_one (s_ret (x_call G_l_stretch (hr.mono (by decide)) T.g_l_stretch T.F_l_stretch.kp T.b_l_stretch (xa_cons (xvV 0) (xa_cons (xvV 1) (xa_cons (x_call0 G_l_letters (hr.mono (by decide)) T.g_l_letters T.F_l_letters.kp T.b_l_letters) xa_nil)))))))))))))))⟩) pure_l_size
theorem ok_word_end (T : Txt K mg) : FnOk P w K mg base CX0 3 T.f_word_end T.d_word_end ["text", "at"] (spOf K 2 fs_word_end) := by
  have G_number_end := ok_number_end (P := P) (w := w) (base := base) T
  have G_quoted_end := ok_quoted_end (P := P) (w := w) (base := base) T
  have G_stretch_end := ok_stretch_end (P := P) (w := w) (base := base) T
  exact fn_ok (ds := ds_word_end) T.F_word_end sc_word_end rfl (by decide) (fun B cdv A outer s H E hr => ⟨_, by exact (ss_cons (s_if (t_cmp op_in_sign od_inC (x_ix ix_str od_ixS (xv 0) (xv 1)) x_str) (ss_one (s_ret (x_op op_add od_add (xv 1) x_int))) ss_nil)
      (ss_cons (s_if (t_cmp op_in_seq od_inQ (x_sl C8.sl_txt sd_str (xv 0) (xo_some (xv 1)) (xo_some (x_op op_add od_add (xv 1) x_int))) (x_gtup T.c_LONG_SIGNS T.l_LONG_SIGNS T.r_LONG_SIGNS)) (ss_one (s_ret (x_op op_add od_add (xv 1) x_int))) ss_nil)
      (ss_cons (s_if (t_cmp op_in_seq od_inQ (x_ix ix_str od_ixS (xv 0) (xv 1)) (x_gtup T.c_SIGNS T.l_SIGNS T.r_SIGNS)) (ss_one (s_ret (x_op op_add od_add (xv 1) x_int))) ss_nil)
      (ss_cons (s_if (t_cmp op_eq od_eq (x_ix ix_str od_ixS (xv 0) (xv 1)) x_str) (ss_one (s_ret (x_call G_quoted_end (hr.mono (by decide)) T.g_quoted_end T.F_quoted_end.kp T.b_quoted_end (xa_cons (xvV 0) (xa_cons (xvV 1) xa_nil))))) ss_nil)
      (ss_cons (s_if (t_cmp op_in_sign od_inC (x_ix ix_str od_ixS (xv 0) (xv 1)) (x_gstr T.c_LETTERS)) (ss_one (s_ret (x_call G_stretch_end (hr.mono (by decide)) T.g_stretch_end T.F_stretch_end.kp T.b_stretch_end (xa_cons (xvV 0) (xa_cons (xvV 1) (xa_cons (x_gstr T.c_LETTERS) xa_nil)))))) ss_nil)
      (ss_one (s_ret (x_call G_number_end (hr.mono (by decide)) T.g_number_end T.F_number_end.kp T.b_number_end (xa_cons (xvV 0) (xa_cons (xvV 1) xa_nil))))))))))⟩) pure_word_end
theorem ok_l_word (T : Txt K mg) : FnOk P w K mg base CX0 3 T.f_l_word T.d_l_word ["_law_pool"] (spOf K 1 fs_l_word) := by
  have G_l_digit := ok_l_digit (P := P) (w := w) (base := base) T
  have G_l_drawn := ok_l_drawn (P := P) (w := w) (base := base) T
  have G_l_keys := ok_l_keys (P := P) (w := w) (base := base) T
  have G_l_letters := ok_l_letters (P := P) (w := w) (base := base) T
  have G_l_signs := ok_l_signs (P := P) (w := w) (base := base) T
  have G_l_strange := ok_l_strange (P := P) (w := w) (base := base) T
  exact fn_ok (ds := ds_l_word) T.F_l_word sc_l_word rfl (by decide) (fun B cdv A outer s H E hr => ⟨_, by exact (ss_cons (s_set 1 sc_l_word.nd (x_call G_l_digit (hr.mono (by decide)) T.g_l_digit T.F_l_digit.kp T.b_l_digit (xa_cons (xv 0) (xa_cons x_int xa_nil))))
      (ss_cons (s_if (t_cmp op_lt od_lt (xv 1) x_int) (ss_cons (s_set 4 sc_l_word.nd (x_call0 G_l_keys (hr.mono (by decide)) T.g_l_keys T.F_l_keys.kp T.b_l_keys))
      (ss_one (s_ret (x_ix ix_list od_ixL (xv 4) (x_call G_l_digit (hr.mono (by decide)) T.g_l_digit T.F_l_digit.kp T.b_l_digit (xa_cons (xv 0) (xa_cons (x_cb call_len_seq cd_len T.n_len (xa_cons (xv 4) xa_nil)) xa_nil))))))) ss_nil)
      (ss_cons (s_if (t_cmp op_eq od_eq (xv 1) x_int) (ss_one (s_ret (x_call G_l_drawn (hr.mono (by decide)) T.g_l_drawn T.F_l_drawn.kp T.b_l_drawn (xa_cons (xv 0) (xa_cons (x_call0 G_l_letters (hr.mono (by decide)) T.g_l_letters T.F_l_letters.kp T.b_l_letters) (xa_cons (x_op op_add od_add x_int (x_call G_l_digit (hr.mono (by decide)) T.g_l_digit T.F_l_digit.kp T.b_l_digit (xa_cons (xv 0) (xa_cons x_int xa_nil)))) xa_nil)))))) ss_nil)
      (ss_cons (s_if (t_cmp op_eq od_eq (xv 1) x_int) (ss_one (s_ret (x_call G_l_drawn (hr.mono (by decide)) T.g_l_drawn T.F_l_drawn.kp T.b_l_drawn (xa_cons (xv 0) (xa_cons x_str (xa_cons (x_op op_add od_add x_int (x_call G_l_digit (hr.mono (by decide)) T.g_l_digit T.F_l_digit.kp T.b_l_digit (xa_cons (xv 0) (xa_cons x_int xa_nil)))) xa_nil)))))) ss_nil)
      (ss_cons (s_if (t_cmp op_eq od_eq (xv 1) x_int) (ss_one (s_ret (x_op op_add_str od_addS x_str (x_call G_l_drawn (hr.mono (by decide)) T.g_l_drawn T.F_l_drawn.kp T.b_l_drawn (xa_cons (xv 0) (xa_cons x_str (xa_cons (x_op op_add od_add x_int (x_call G_l_digit (hr.mono (by decide)) T.g_l_digit T.F_l_digit.kp T.b_l_digit (xa_cons (xv 0) (xa_cons x_int xa_nil)))) xa_nil))))))) ss_nil)
      (ss_cons (s_if (t_cmp op_lt od_lt (xv 1) x_int) (ss_one (s_ret (x_ix ix_list od_ixL (x_call0 G_l_signs (hr.mono (by decide)) T.g_l_signs T.F_l_signs.kp T.b_l_signs) (x_call G_l_digit (hr.mono (by decide)) T.g_l_digit T.F_l_digit.kp T.b_l_digit (xa_cons (xv 0) (xa_cons x_int xa_nil)))))) ss_nil)
      (ss_cons (s_set 2 sc_l_word.nd (x_op op_add_str od_addS (x_op op_add_str od_addS (x_call0 G_l_letters (hr.mono (by decide)) T.g_l_letters T.F_l_letters.kp T.b_l_letters) x_str) (x_call0 G_l_strange (hr.mono (by decide)) T.g_l_strange T.F_l_strange.kp T.b_l_strange)))
      (ss_cons (s_set 3 sc_l_word.nd (x_ix ix_list od_ixL (x_lst (xa_cons x_int (xa_cons x_int (xa_cons x_int (xa_cons x_int (xa_cons x_int (xa_cons x_int (xa_cons x_int (xa_cons x_int (xa_cons x_int xa_nil)))))))))) (x_call G_l_digit (hr.mono (by decide)) T.g_l_digit T.F_l_digit.kp T.b_l_digit (xa_cons (xv 0) (xa_cons x_int xa_nil)))))
      (ss_one (s_ret (x_op op_add_str od_addS (x_op op_add_str od_addS x_str (x_call G_l_drawn (hr.mono (by decide)) T.g_l_drawn T.F_l_drawn.kp T.b_l_drawn (xa_cons (xv 0) (xa_cons (xvV 2) (xa_cons (xvV 3) xa_nil))))) x_str)))))))))))⟩) pure_l_word
theorem ok_l_join (T : Txt K mg) : FnOk P w K mg base CX0 3 T.f_l_join T.d_l_join ["_law_pool", "_law_words"] (spOf K 2 fs_l_join) := by
  have G_l_digit := ok_l_digit (P := P) (w := w) (base := base) T
  have G_l_one := ok_l_one (P := P) (w := w) (base := base) T
  exact fn_ok (ds := ds_l_join) T.F_l_join sc_l_join rfl (by decide) (fun B cdv A outer s H E hr => ⟨_, by exact (ss_cons (s_set 2 sc_l_join.nd x_str)
      (ss_cons (s_set 3 sc_l_join.nd x_str)
      (ss_cons (s_for PassesOwn.never rfl (i_list (xvV 1)) (g_name 4 sc_l_join.nd) (ss_cons (s_set 5 sc_l_join.nd (x_call G_l_digit (hr.mono (by decide)) T.g_l_digit T.F_l_digit.kp T.b_l_digit (xa_cons (xv 0) (xa_cons x_int xa_nil))))
      (ss_cons (s_if (t_w (w_and (t_cmp op_eq od_eq (xv 5) x_int) (w_and1 (t_val (x_call G_l_one (hr.mono (by decide)) T.g_l_one T.F_l_one.kp T.b_l_one (xa_cons (xvV 3) (xa_cons (xvV 4) xa_nil))))))) (ss_one (s_set 5 sc_l_join.nd x_int)) ss_nil)
      (ss_cons (s_set 2 sc_l_join.nd (x_op op_add_str od_addS (x_op op_add_str od_addS (xv 2) (x_op op_mulS od_mulS x_str (xv 5))) (xv 4)))
      (ss_one (s_set 3 sc_l_join.nd (xvV 4)))))))
      (ss_one (s_ret (xvM 2))))))⟩) pure_l_join
theorem ok_l_divided (T : Txt K mg) : FnOk P w K mg base CX0 3 T.f_l_divided T.d_l_divided ["_law_text"] (spOf K 1 fs_l_divided) := by
  have G_l_size := ok_l_size (P := P) (w := w) (base := base) T
  exact fn_ok (ds := ds_l_divided) T.F_l_divided sc_l_divided rfl (by decide) (fun B cdv A outer s H E hr => ⟨_, by exact (ss_cons (s_set 1 sc_l_divided.nd (x_lst xa_nil))
      (ss_cons (s_set 2 sc_l_divided.nd x_int)
      (ss_cons (s_for PassesOwn.never rfl (i_r1 T.n_range (xa_cons (x_cb call_len_str cd_lenS T.n_len (xa_cons (xv 0) xa_nil)) xa_nil)) (g_name 3 sc_l_divided.nd) (ss_one (s_if (t_cmp op_gt od_gt (xv 2) x_int) (ss_one (s_set 2 sc_l_divided.nd (x_op op_sub od_sub (xv 2) x_int))) (ss_one (s_if (t_cmp op_ne od_ne (x_ix ix_str od_ixS (xv 0) (xv 3)) x_str) (ss_cons (s_set 4 sc_l_divided.nd (x_call G_l_size (hr.mono (by decide)) T.g_l_size T.F_l_size.kp T.b_l_size (xa_cons (xvV 0) (xa_cons (xvV 3) xa_nil))))
      (ss_cons (s_if (t_cmp op_lt od_lt (xv 4) x_int) (ss_one (s_ret (x_tup (xa_cons x_str (xa_cons (x_cb call_len_seq cd_len T.n_len (xa_cons (xv 1) xa_nil)) xa_nil))))) ss_nil)
      (ss_cons (s_expr (x_mut (fun h => pe_bm PySem.F.plainAttrs_list PySem.F.slot_list_append PySem.F.type_list_append mt_append (pv 1) h) md_append (xa_cons (x_sl C8.sl_txt sd_str (xv 0) (xo_some (xv 3)) (xo_some (x_op op_add od_add (xv 3) (xv 4)))) xa_nil)))
      (ss_one (s_set 2 sc_l_divided.nd (x_op op_sub od_sub (xv 4) x_int)))))) ss_nil)))))
      (ss_one (s_ret (x_tup (xa_cons x_str (xa_cons (xvV 1) xa_nil))))))))⟩) pure_l_divided
theorem ok_split_words (T : Txt K mg) : FnOk P w K mg base (L2N.CX P w) 4 T.f_split_words T.d_split_words ["text"] (spOfX K T.ct 1 fs_split_words) := by
  have G_stretch_end := ok_stretch_end (P := P) (w := w) (base := base) T
  have G_word_end := ok_word_end (P := P) (w := w) (base := base) T
  exact fn_okX (ds := ds_split_words) T.F_split_words sc_split_words rfl (by decide) (fun B W xc cdv A outer s H E hr xo tk => ⟨_, by exact (ss_cons (s_set 1 sc_split_words.nd (x_lst xa_nil))
      (ss_cons (s_set 2 sc_split_words.nd (x_call G_stretch_end (hr.mono (by decide)) T.g_stretch_end T.F_stretch_end.kp T.b_stretch_end (xa_cons (xvV 0) (xa_cons x_int (xa_cons x_str xa_nil)))))
      (ss_cons (s_while (passes_of rfl) (t_cmp op_lt od_lt (xv 2) (x_cb call_len_str cd_lenS T.n_len (xa_cons (xv 0) xa_nil))) (ss_cons (s_set 3 sc_split_words.nd (x_call G_word_end (hr.mono (by decide)) T.g_word_end T.F_word_end.kp T.b_word_end (xa_cons (xvV 0) (xa_cons (xvV 2) xa_nil))))
      (ss_cons (s_if (t_cmp op_eq od_eq (xv 3) (xv 2)) (ss_one (s_raise1 (nm := 1) rfl xo tk T.e_1 T.nf_1_at (oki_1 (P := P) (w := w) (base := base) T) (hr.mono (by decide)) T.bi_1 (xa_cons (x_cb call_len_seq cd_len T.n_len (xa_cons (xv 1) xa_nil)) xa_nil))) ss_nil)
      (ss_cons (s_expr (x_mut (fun h => pe_bm PySem.F.plainAttrs_list PySem.F.slot_list_append PySem.F.type_list_append mt_append (pv 1) h) md_append (xa_cons (x_sl C8.sl_txt sd_str (xv 0) (xo_some (xv 2)) (xo_some (xv 3))) xa_nil)))
      (ss_one (s_set 2 sc_split_words.nd (x_call G_stretch_end (hr.mono (by decide)) T.g_stretch_end T.F_stretch_end.kp T.b_stretch_end (xa_cons (xvV 0) (xa_cons (xvV 3) (xa_cons x_str xa_nil))))))))))
      (ss_one (s_ret (xvM 1))))))⟩) pure_split_words
theorem ok_l_spoilt (T : Txt K mg) : FnOk P w K mg base CX0 4 T.f_l_spoilt T.d_l_spoilt ["_law_pool", "_law_words", "_law_at", "_law_mode"] (spOf K 4 fs_l_spoilt) := by
  have G_l_digit := ok_l_digit (P := P) (w := w) (base := base) T
  have G_l_drawn := ok_l_drawn (P := P) (w := w) (base := base) T
  have G_l_join := ok_l_join (P := P) (w := w) (base := base) T
  have G_l_strange := ok_l_strange (P := P) (w := w) (base := base) T
  exact fn_ok (ds := ds_l_spoilt) T.F_l_spoilt sc_l_spoilt rfl (by decide) (fun B cdv A outer s H E hr => ⟨_, by exact (ss_cons (s_set 4 sc_l_spoilt.nd (x_op op_add_str od_addS (x_call G_l_join (hr.mono (by decide)) T.g_l_join T.F_l_join.kp T.b_l_join (xa_cons (xv 0) (xa_cons (x_sl sl_list sd_list (xv 1) xo_none (xo_some (xv 2))) xa_nil))) (x_op op_mulS od_mulS x_str (x_call G_l_digit (hr.mono (by decide)) T.g_l_digit T.F_l_digit.kp T.b_l_digit (xa_cons (xv 0) (xa_cons x_int xa_nil))))))
      (ss_cons (s_set 5 sc_l_spoilt.nd (x_sl sl_list sd_list (xv 1) (xo_some (xv 2)) xo_none))
      (ss_cons (s_if (t_cmp op_eq od_eq (xv 3) x_int) (ss_one (s_setLc 5 [("_law_word_here", 7)] rfl sc_l_spoilt.nd (i_list (xvV 5)) (blkOk_by (N := N_l_spoilt) (sc := defScope s_l_spoilt) (by decide +kernel)) (fun _ _ _ _ _ _ => by exact (g_name 7 sc_l_spoilt.nd)) (fun _ _ _ _ _ _ => by exact (ts_one (t_cmp op_notIn_sign (od_ninC (K := K)) x_str (xv 7)))) (fun _ _ _ _ _ _ => by exact (xvV 7)) (by decide) (sw_true rfl rfl rfl (by decide +kernel)))) ss_nil)
      (ss_cons (s_set 6 sc_l_spoilt.nd (x_call G_l_join (hr.mono (by decide)) T.g_l_join T.F_l_join.kp T.b_l_join (xa_cons (xv 0) (xa_cons (xvV 5) xa_nil))))
      (ss_cons (s_if (t_cmp op_eq od_eq (xv 3) x_int) (ss_one (s_ret (x_op op_add_str od_addS (x_op op_add_str od_addS (xv 4) (x_call G_l_drawn (hr.mono (by decide)) T.g_l_drawn T.F_l_drawn.kp T.b_l_drawn (xa_cons (xv 0) (xa_cons (x_call0 G_l_strange (hr.mono (by decide)) T.g_l_strange T.F_l_strange.kp T.b_l_strange) (xa_cons x_int xa_nil))))) (xv 6)))) ss_nil)
      (ss_cons (s_if (t_cmp op_eq od_eq (xv 3) x_int) (ss_one (s_ret (x_op op_add_str od_addS (x_op op_add_str od_addS (xv 4) x_str) (xv 6)))) ss_nil)
      (ss_cons (s_if (t_w (w_and (t_cmp op_ne od_ne (xv 6) x_str) (w_and1 (t_cmp op_in_sign od_inC (x_ix ix_str od_ixS (xv 6) x_int) x_str)))) (ss_one (s_set 6 sc_l_spoilt.nd (x_op op_add_str od_addS x_str (xv 6)))) ss_nil)
      (ss_one (s_ret (x_op op_add_str od_addS (x_op op_add_str od_addS (xv 4) x_str) (xv 6)))))))))))⟩) pure_l_spoilt
theorem ok_l_told (T : Txt K mg) : FnOk P w K mg base CX0 5 T.f_l_told T.d_l_told ["_law_text"] (spOf K 1 fs_l_told) := by
  have G_split_words := ok_split_words (P := P) (w := w) (base := base) T
  exact fn_ok (ds := ds_l_told) T.F_l_told sc_l_told rfl (by decide) (fun B cdv A outer s H E hr => ⟨_, by exact (ss_one (s_try_as (ct := T.ct) 1 sc_l_told.nd ⟨rfl, by decide, .inl T.gC_1⟩ (fun _ _ _ _ _ _ _ _ _ h => h) takesN T.hsub_1 (fun B W xc pn xe xo tk po => by exact (ss_one (s_ret (x_tup (xa_cons x_str (xa_cons (x_fr (x_callXC K rfl xo tk G_split_words (hr.mono (by decide)) T.g_split_words T.F_split_words.kp T.b_split_words (xa_cons (xvV 0) xa_nil))) xa_nil)))))) (fun B a oe cls d pn nm fs hz hf hcls xd => by exact (ss_one (s_ret (x_tup (xa_cons x_str (xa_cons (x_xf 1 hz hf hcls xd T.hrd) xa_nil))))))))⟩) pure_l_told
theorem ok_l_alone (T : Txt K mg) : FnOk P w K mg base CX0 5 T.f_l_alone T.d_l_alone ["_law_text"] (spOf K 1 fs_l_alone) := by
  have G_split_words := ok_split_words (P := P) (w := w) (base := base) T
  exact fn_ok (ds := ds_l_alone) T.F_l_alone sc_l_alone rfl (by decide) (fun B cdv A outer s H E hr => ⟨_, by exact (ss_cons (s_try_as (ct := T.ct) 1 sc_l_alone.nd ⟨rfl, by decide, .inl T.gC_0⟩ (fun _ _ _ _ _ _ _ _ _ h => h) takesN T.hsub_0 (fun B W xc pn xe xo tk po => by exact (ss_one (s_expr (x_callXC K rfl xo tk G_split_words (hr.mono (by decide)) T.g_split_words T.F_split_words.kp T.b_split_words (xa_cons (xvV 0) xa_nil))))) (fun B a oe cls d pn nm fs hz hf hcls xd => by exact (ss_one (s_ret (x_and (x_isE (tn := 1) 1 hz hf hcls xd T.hkit T.n_isinstance T.gC_1) (x_and (x_not (x_isE (tn := 2) 1 hz hf hcls xd T.hkit T.n_isinstance T.gC_2)) (x_one (x_isEV 1 hz hf hcls xd T.hkv T.n_isinstance T.n_ValueError))))))))
      (ss_one (s_ret x_bl)))⟩) pure_l_alone
theorem ok_law (T : Txt K mg) : FnOk P w K mg base CX0 6 T.f_law T.d_law ["_law_script"] (spOf K 1 fs_law) := by
  have G_l_alone := ok_l_alone (P := P) (w := w) (base := base) T
  have G_l_digit := ok_l_digit (P := P) (w := w) (base := base) T
  have G_l_divided := ok_l_divided (P := P) (w := w) (base := base) T
  have G_l_join := ok_l_join (P := P) (w := w) (base := base) T
  have G_l_raw := ok_l_raw (P := P) (w := w) (base := base) T
  have G_l_right := ok_l_right (P := P) (w := w) (base := base) T
  have G_l_spoilt := ok_l_spoilt (P := P) (w := w) (base := base) T
  have G_l_told := ok_l_told (P := P) (w := w) (base := base) T
  have G_l_word := ok_l_word (P := P) (w := w) (base := base) T
  exact fn_ok (ds := ds_law) T.F_law sc_law rfl (by decide) (fun B cdv A outer s H E hr => ⟨_, by exact (ss_cons (s_set 1 sc_law.nd (x_lst (xa_cons x_int (xa_cons x_int (xa_cons (x_lc [("_law_cell", 10)] rfl sc_law.nd (i_list (x_sl sl_list sd_list (xv 0) xo_none (xo_some x_int))) (blkOk_by (N := N_law) (sc := defScope s_law) (by decide +kernel)) (fun _ _ _ _ _ _ => by exact (g_name 10 sc_law.nd)) (fun _ _ _ _ _ _ => by exact ts_nil) (fun _ _ _ _ _ _ => by exact (x_cb call_abs (cd_abs (K := K)) T.n_abs (xa_cons (xv 10) xa_nil))) (by decide)) xa_nil)))))
      (ss_cons (s_set 2 sc_law.nd (x_call G_l_digit (hr.mono (by decide)) T.g_l_digit T.F_l_digit.kp T.b_l_digit (xa_cons (xv 1) (xa_cons x_int xa_nil))))
      (ss_cons (s_set 3 sc_law.nd (x_if (t_cmp op_gt od_gt (xv 2) x_int) x_int (x_op op_mod od_mod (x_ct call_int1 cd_int T.n_int (xa_cons (x_op op_add od_add (x_call G_l_digit (hr.mono (by decide)) T.g_l_digit T.F_l_digit.kp T.b_l_digit (xa_cons (xv 1) (xa_cons x_int xa_nil))) x_int) xa_nil)) x_int)))
      (ss_cons (s_setLc 4 [("_law_k", 8)] rfl sc_law.nd (i_r1 T.n_range (xa_cons (xvV 3) xa_nil)) (blkOk_by (N := N_law) (sc := defScope s_law) (by decide +kernel)) (fun _ _ _ _ _ _ => by exact (g_name 8 sc_law.nd)) (fun _ _ _ _ _ _ => by exact ts_nil) (fun _ _ _ _ _ _ => by exact (x_callC K rfl G_l_word (hr.mono (by decide)) T.g_l_word T.F_l_word.kp T.b_l_word (xa_cons (xv 1) xa_nil))) (by decide) (sw_true rfl rfl rfl (by decide +kernel)))
      (ss_cons (s_if (t_cmp op_eq od_eq (x_call G_l_digit (hr.mono (by decide)) T.g_l_digit T.F_l_digit.kp T.b_l_digit (xa_cons (xv 1) (xa_cons x_int xa_nil))) x_int) (ss_one (s_set 4 sc_law.nd (x_op op_rep od_rep (xv 4) x_int))) ss_nil)
      (ss_cons (s_if (t_cmp op_gt od_gt (xv 2) x_int) (ss_cons (s_set 6 sc_law.nd (x_call G_l_raw (hr.mono (by decide)) T.g_l_raw T.F_l_raw.kp T.b_l_raw (xa_cons (xv 1) xa_nil)))
      (ss_one (s_set 7 sc_law.nd (x_call G_l_divided (hr.mono (by decide)) T.g_l_divided T.F_l_divided.kp T.b_l_divided (xa_cons (xvV 6) xa_nil))))) (ss_one (s_if (t_cmp op_gt od_gt (xv 2) x_int) (ss_cons (s_set 9 sc_law.nd (x_call G_l_digit (hr.mono (by decide)) T.g_l_digit T.F_l_digit.kp T.b_l_digit (xa_cons (xv 1) (xa_cons (x_op op_add od_add (x_cb call_len_seq cd_len T.n_len (xa_cons (xv 4) xa_nil)) x_int) xa_nil))))
      (ss_cons (s_set 6 sc_law.nd (x_call G_l_spoilt (hr.mono (by decide)) T.g_l_spoilt T.F_l_spoilt.kp T.b_l_spoilt (xa_cons (xv 1) (xa_cons (xvV 4) (xa_cons (xvV 9) (xa_cons (xvV 2) xa_nil))))))
      (ss_one (s_set 7 sc_law.nd (x_tup (xa_cons x_str (xa_cons (xvV 9) xa_nil))))))) (ss_cons (s_set 6 sc_law.nd (x_op op_add_str od_addS (x_call G_l_join (hr.mono (by decide)) T.g_l_join T.F_l_join.kp T.b_l_join (xa_cons (xv 1) (xa_cons (xvV 4) xa_nil))) (x_op op_mulS od_mulS x_str (x_call G_l_digit (hr.mono (by decide)) T.g_l_digit T.F_l_digit.kp T.b_l_digit (xa_cons (xv 1) (xa_cons x_int xa_nil))))))
      (ss_one (s_set 7 sc_law.nd (x_tup (xa_cons x_str (xa_cons (xvV 4) xa_nil)))))))))
      (xl_start 5 (fun B => by exact (x_call G_l_told (hr.mono (by decide)) T.g_l_told T.F_l_told.kp T.b_l_told (xa_cons (xvV 6) xa_nil))) (s_set 5 sc_law.nd (x_call G_l_told (hr.mono (by decide)) T.g_l_told T.F_l_told.kp T.b_l_told (xa_cons (xvV 6) xa_nil))) (xl_if (fun B => by exact (t_not (t_val (x_call G_l_right (hr.mono (by decide)) T.g_l_right T.F_l_right.kp T.b_l_right (xa_cons (x_bare (xvV 5)) (xa_cons (xvV 7) xa_nil)))))) (fun B => by exact x_bl)
      (xl_if (fun B => by exact (t_cmp op_eq od_eq (x_ix ix_tup od_ixT (xv 7) x_int) x_str)) (fun B => by exact (x_call G_l_alone (hr.mono (by decide)) T.g_l_alone T.F_l_alone.kp T.b_l_alone (xa_cons (xvV 6) xa_nil)))
      (xl_app (fun B => by exact (x_ix ix_tup od_ixT (xv 5) x_int)) (fun B => by exact (xa_cons x_str xa_nil)) (fun h h2 => pe_bm PySem.F.plainAttrs_list PySem.F.slot_list_append PySem.F.type_list_append mt_append h h2) (fun B => by exact (ss_one (s_ret (x_call G_l_right (hr.mono (by decide)) T.g_l_right T.F_l_right.kp T.b_l_right (xa_cons (x_bare (x_call G_l_told (hr.mono (by decide)) T.g_l_told T.F_l_told.kp T.b_l_told (xa_cons (xvV 6) xa_nil))) (xa_cons (xvV 7) xa_nil))))))))))))))))⟩) pure_law
end
set_option maxHeartbeats 0 in
theorem all_mk {l : PySem.W.OpenLaw} {w : World} {K : PySem.W.Frag} {h : Heap} {mg : Str → Option Value} {fa f1 f2 f3 f4 f5 f6 f7 f8 f9 f10 f11 f12 f13 f14 f15 f16 f17 f18 f19 f20 f21 f22 f23 : Addr} (X : K.In h) (G : h.Ns mainGlobals mg) (hfa : mg "law" = some (.ref fa))
    {od1 an1 od2 an2 od3 an3 od4 an4 od5 an5 od6 an6 od7 an7 od8 an8 od9 an9 od10 an10 od11 an11 od12 an12 od13 an13 od14 an14 od15 an15 od16 an16 od17 an17 od18 an18 od19 an19 od20 an20 od21 an21 od22 an22 od23 an23 : Option Addr} {sl1 sl2 sl3 sl4 sl5 sl6 sl7 sl8 sl9 sl10 sl11 sl12 sl13 sl14 sl15 sl16 sl17 sl18 sl19 sl20 sl21 sl22 sl23 : Array (Option Value)} {oc1 kV1 dc1 pm1 cd1 ct1 oc2 kV2 dc2 pm2 cd2 ct2 oc3 kV3 dc3 pm3 cd3 ct3 oc4 kV4 dc4 pm4 cd4 ct4 oc5 kV5 dc5 pm5 cd5 ct5 oc6 kV6 dc6 pm6 cd6 ct6 oc7 kV7 dc7 pm7 cd7 ct7 oc8 kV8 dc8 pm8 cd8 ct8 oc9 kV9 dc9 pm9 cd9 ct9 oc10 kV10 dc10 pm10 cd10 ct10 oc11 kV11 dc11 pm11 cd11 ct11 oc12 kV12 dc12 pm12 cd12 ct12 oc13 kV13 dc13 pm13 cd13 ct13 oc14 kV14 dc14 pm14 cd14 ct14 oc15 kV15 dc15 pm15 cd15 ct15 oc16 kV16 dc16 pm16 cd16 ct16 oc17 kV17 dc17 pm17 cd17 ct17 oc18 kV18 dc18 pm18 cd18 ct18 oc19 kV19 dc19 pm19 cd19 ct19 oc20 kV20 dc20 pm20 cd20 ct20 oc21 kV21 dc21 pm21 cd21 ct21 oc22 kV22 dc22 pm22 cd22 ct22 oc23 kV23 dc23 pm23 cd23 ct23 : Value}
    {ALONG_SIGNS : Addr} {odLONG_SIGNS : Option Addr} {slLONG_SIGNS : Array (Option Value)} {epLONG_SIGNS : Nat} {kLONG_SIGNS0 kLONG_SIGNS1 kLONG_SIGNS2 : Tok} (eLONG_SIGNS : PySem.W.nsIn K mainGlobals "LONG_SIGNS" = some (some (.ref ALONG_SIGNS))) (LLONG_SIGNS : K.lookup ALONG_SIGNS = some ⟨.type "tuple", odLONG_SIGNS, .seq #[.str "<>" kLONG_SIGNS0, .str "<=" kLONG_SIGNS1, .str ">=" kLONG_SIGNS2] epLONG_SIGNS, slLONG_SIGNS⟩)
    {ASIGNS : Addr} {odSIGNS : Option Addr} {slSIGNS : Array (Option Value)} {epSIGNS : Nat} {kSIGNS0 kSIGNS1 kSIGNS2 kSIGNS3 kSIGNS4 kSIGNS5 : Tok} (eSIGNS : PySem.W.nsIn K mainGlobals "SIGNS" = some (some (.ref ASIGNS))) (LSIGNS : K.lookup ASIGNS = some ⟨.type "tuple", odSIGNS, .seq #[.str "=" kSIGNS0, .str "<>" kSIGNS1, .str "<" kSIGNS2, .str "<=" kSIGNS3, .str ">" kSIGNS4, .str ">=" kSIGNS5] epSIGNS, slSIGNS⟩)
    {tkFIGURES tkLETTERS : Tok} (eFIGURES : PySem.W.nsIn K mainGlobals "FIGURES" = some (some (.str "0123456789" tkFIGURES))) (eLETTERS : PySem.W.nsIn K mainGlobals "LETTERS" = some (some (.str "abcdefghijklmnopqrstuvwxyz" tkLETTERS)))
    (a1 : PySem.W.nsIn K mainGlobals "stretch_end" = some (some (.ref f1))) (l1 : K.lookup f1 = some ⟨oc1, od1, .func (PySem.W.fnOf "stretch_end" "stretch_end" (defArgs s_stretch_end) (defBody s_stretch_end) (defScope s_stretch_end) .none kV1 dc1 pm1 an1 cd1 ct1), sl1⟩) (c1 : PySem.W.codeIn K cd1 "stretch_end" = true) (k1 : PySem.W.keepIn K (.ref f1) = true)
    (a2 : PySem.W.nsIn K mainGlobals "quoted_end" = some (some (.ref f2))) (l2 : K.lookup f2 = some ⟨oc2, od2, .func (PySem.W.fnOf "quoted_end" "quoted_end" (defArgs s_quoted_end) (defBody s_quoted_end) (defScope s_quoted_end) .none kV2 dc2 pm2 an2 cd2 ct2), sl2⟩) (c2 : PySem.W.codeIn K cd2 "quoted_end" = true) (k2 : PySem.W.keepIn K (.ref f2) = true)
    (a3 : PySem.W.nsIn K mainGlobals "number_end" = some (some (.ref f3))) (l3 : K.lookup f3 = some ⟨oc3, od3, .func (PySem.W.fnOf "number_end" "number_end" (defArgs s_number_end) (defBody s_number_end) (defScope s_number_end) .none kV3 dc3 pm3 an3 cd3 ct3), sl3⟩) (c3 : PySem.W.codeIn K cd3 "number_end" = true) (k3 : PySem.W.keepIn K (.ref f3) = true)
    (a4 : PySem.W.nsIn K mainGlobals "word_end" = some (some (.ref f4))) (l4 : K.lookup f4 = some ⟨oc4, od4, .func (PySem.W.fnOf "word_end" "word_end" (defArgs s_word_end) (defBody s_word_end) (defScope s_word_end) .none kV4 dc4 pm4 an4 cd4 ct4), sl4⟩) (c4 : PySem.W.codeIn K cd4 "word_end" = true) (k4 : PySem.W.keepIn K (.ref f4) = true)
    (a5 : PySem.W.nsIn K mainGlobals "split_words" = some (some (.ref f5))) (l5 : K.lookup f5 = some ⟨oc5, od5, .func (PySem.W.fnOf "split_words" "split_words" (defArgs s_split_words) (defBody s_split_words) (defScope s_split_words) .none kV5 dc5 pm5 an5 cd5 ct5), sl5⟩) (c5 : PySem.W.codeIn K cd5 "split_words" = true) (k5 : PySem.W.keepIn K (.ref f5) = true)
    (a6 : PySem.W.nsIn K mainGlobals "_law_digit" = some (some (.ref f6))) (l6 : K.lookup f6 = some ⟨oc6, od6, .func (PySem.W.fnOf "_law_digit" "_law_digit" (defArgs s_l_digit) (defBody s_l_digit) (defScope s_l_digit) .none kV6 dc6 pm6 an6 cd6 ct6), sl6⟩) (c6 : PySem.W.codeIn K cd6 "_law_digit" = true) (k6 : PySem.W.keepIn K (.ref f6) = true)
    (a7 : PySem.W.nsIn K mainGlobals "_law_letters" = some (some (.ref f7))) (l7 : K.lookup f7 = some ⟨oc7, od7, .func (PySem.W.fnOf "_law_letters" "_law_letters" (defArgs s_l_letters) (defBody s_l_letters) (defScope s_l_letters) .none kV7 dc7 pm7 an7 cd7 ct7), sl7⟩) (c7 : PySem.W.codeIn K cd7 "_law_letters" = true) (k7 : PySem.W.keepIn K (.ref f7) = true)
    (a8 : PySem.W.nsIn K mainGlobals "_law_strange" = some (some (.ref f8))) (l8 : K.lookup f8 = some ⟨oc8, od8, .func (PySem.W.fnOf "_law_strange" "_law_strange" (defArgs s_l_strange) (defBody s_l_strange) (defScope s_l_strange) .none kV8 dc8 pm8 an8 cd8 ct8), sl8⟩) (c8 : PySem.W.codeIn K cd8 "_law_strange" = true) (k8 : PySem.W.keepIn K (.ref f8) = true)
    (a9 : PySem.W.nsIn K mainGlobals "_law_keys" = some (some (.ref f9))) (l9 : K.lookup f9 = some ⟨oc9, od9, .func (PySem.W.fnOf "_law_keys" "_law_keys" (defArgs s_l_keys) (defBody s_l_keys) (defScope s_l_keys) .none kV9 dc9 pm9 an9 cd9 ct9), sl9⟩) (c9 : PySem.W.codeIn K cd9 "_law_keys" = true) (k9 : PySem.W.keepIn K (.ref f9) = true)
    (a10 : PySem.W.nsIn K mainGlobals "_law_signs" = some (some (.ref f10))) (l10 : K.lookup f10 = some ⟨oc10, od10, .func (PySem.W.fnOf "_law_signs" "_law_signs" (defArgs s_l_signs) (defBody s_l_signs) (defScope s_l_signs) .none kV10 dc10 pm10 an10 cd10 ct10), sl10⟩) (c10 : PySem.W.codeIn K cd10 "_law_signs" = true) (k10 : PySem.W.keepIn K (.ref f10) = true)
    (a11 : PySem.W.nsIn K mainGlobals "_law_drawn" = some (some (.ref f11))) (l11 : K.lookup f11 = some ⟨oc11, od11, .func (PySem.W.fnOf "_law_drawn" "_law_drawn" (defArgs s_l_drawn) (defBody s_l_drawn) (defScope s_l_drawn) .none kV11 dc11 pm11 an11 cd11 ct11), sl11⟩) (c11 : PySem.W.codeIn K cd11 "_law_drawn" = true) (k11 : PySem.W.keepIn K (.ref f11) = true)
    (a12 : PySem.W.nsIn K mainGlobals "_law_word" = some (some (.ref f12))) (l12 : K.lookup f12 = some ⟨oc12, od12, .func (PySem.W.fnOf "_law_word" "_law_word" (defArgs s_l_word) (defBody s_l_word) (defScope s_l_word) .none kV12 dc12 pm12 an12 cd12 ct12), sl12⟩) (c12 : PySem.W.codeIn K cd12 "_law_word" = true) (k12 : PySem.W.keepIn K (.ref f12) = true)
    (a13 : PySem.W.nsIn K mainGlobals "_law_one" = some (some (.ref f13))) (l13 : K.lookup f13 = some ⟨oc13, od13, .func (PySem.W.fnOf "_law_one" "_law_one" (defArgs s_l_one) (defBody s_l_one) (defScope s_l_one) .none kV13 dc13 pm13 an13 cd13 ct13), sl13⟩) (c13 : PySem.W.codeIn K cd13 "_law_one" = true) (k13 : PySem.W.keepIn K (.ref f13) = true)
    (a14 : PySem.W.nsIn K mainGlobals "_law_join" = some (some (.ref f14))) (l14 : K.lookup f14 = some ⟨oc14, od14, .func (PySem.W.fnOf "_law_join" "_law_join" (defArgs s_l_join) (defBody s_l_join) (defScope s_l_join) .none kV14 dc14 pm14 an14 cd14 ct14), sl14⟩) (c14 : PySem.W.codeIn K cd14 "_law_join" = true) (k14 : PySem.W.keepIn K (.ref f14) = true)
    (a15 : PySem.W.nsIn K mainGlobals "_law_spoilt" = some (some (.ref f15))) (l15 : K.lookup f15 = some ⟨oc15, od15, .func (PySem.W.fnOf "_law_spoilt" "_law_spoilt" (defArgs s_l_spoilt) (defBody s_l_spoilt) (defScope s_l_spoilt) .none kV15 dc15 pm15 an15 cd15 ct15), sl15⟩) (c15 : PySem.W.codeIn K cd15 "_law_spoilt" = true) (k15 : PySem.W.keepIn K (.ref f15) = true)
    (a16 : PySem.W.nsIn K mainGlobals "_law_raw" = some (some (.ref f16))) (l16 : K.lookup f16 = some ⟨oc16, od16, .func (PySem.W.fnOf "_law_raw" "_law_raw" (defArgs s_l_raw) (defBody s_l_raw) (defScope s_l_raw) .none kV16 dc16 pm16 an16 cd16 ct16), sl16⟩) (c16 : PySem.W.codeIn K cd16 "_law_raw" = true) (k16 : PySem.W.keepIn K (.ref f16) = true)
    (a17 : PySem.W.nsIn K mainGlobals "_law_stretch" = some (some (.ref f17))) (l17 : K.lookup f17 = some ⟨oc17, od17, .func (PySem.W.fnOf "_law_stretch" "_law_stretch" (defArgs s_l_stretch) (defBody s_l_stretch) (defScope s_l_stretch) .none kV17 dc17 pm17 an17 cd17 ct17), sl17⟩) (c17 : PySem.W.codeIn K cd17 "_law_stretch" = true) (k17 : PySem.W.keepIn K (.ref f17) = true)
    (a18 : PySem.W.nsIn K mainGlobals "_law_size" = some (some (.ref f18))) (l18 : K.lookup f18 = some ⟨oc18, od18, .func (PySem.W.fnOf "_law_size" "_law_size" (defArgs s_l_size) (defBody s_l_size) (defScope s_l_size) .none kV18 dc18 pm18 an18 cd18 ct18), sl18⟩) (c18 : PySem.W.codeIn K cd18 "_law_size" = true) (k18 : PySem.W.keepIn K (.ref f18) = true)
    (a19 : PySem.W.nsIn K mainGlobals "_law_divided" = some (some (.ref f19))) (l19 : K.lookup f19 = some ⟨oc19, od19, .func (PySem.W.fnOf "_law_divided" "_law_divided" (defArgs s_l_divided) (defBody s_l_divided) (defScope s_l_divided) .none kV19 dc19 pm19 an19 cd19 ct19), sl19⟩) (c19 : PySem.W.codeIn K cd19 "_law_divided" = true) (k19 : PySem.W.keepIn K (.ref f19) = true)
    (a20 : PySem.W.nsIn K mainGlobals "_law_told" = some (some (.ref f20))) (l20 : K.lookup f20 = some ⟨oc20, od20, .func (PySem.W.fnOf "_law_told" "_law_told" (defArgs s_l_told) (defBody s_l_told) (defScope s_l_told) .none kV20 dc20 pm20 an20 cd20 ct20), sl20⟩) (c20 : PySem.W.codeIn K cd20 "_law_told" = true) (k20 : PySem.W.keepIn K (.ref f20) = true)
    (a21 : PySem.W.nsIn K mainGlobals "_law_alone" = some (some (.ref f21))) (l21 : K.lookup f21 = some ⟨oc21, od21, .func (PySem.W.fnOf "_law_alone" "_law_alone" (defArgs s_l_alone) (defBody s_l_alone) (defScope s_l_alone) .none kV21 dc21 pm21 an21 cd21 ct21), sl21⟩) (c21 : PySem.W.codeIn K cd21 "_law_alone" = true) (k21 : PySem.W.keepIn K (.ref f21) = true)
    (a22 : PySem.W.nsIn K mainGlobals "_law_right" = some (some (.ref f22))) (l22 : K.lookup f22 = some ⟨oc22, od22, .func (PySem.W.fnOf "_law_right" "_law_right" (defArgs s_l_right) (defBody s_l_right) (defScope s_l_right) .none kV22 dc22 pm22 an22 cd22 ct22), sl22⟩) (c22 : PySem.W.codeIn K cd22 "_law_right" = true) (k22 : PySem.W.keepIn K (.ref f22) = true)
    (a23 : PySem.W.nsIn K mainGlobals "law" = some (some (.ref f23))) (l23 : K.lookup f23 = some ⟨oc23, od23, .func (PySem.W.fnOf "law" "law" (defArgs s_law) (defBody s_law) (defScope s_law) .none kV23 dc23 pm23 an23 cd23 ct23), sl23⟩) (c23 : PySem.W.codeIn K cd23 "law" = true) (k23 : PySem.W.keepIn K (.ref f23) = true)
    {C0 C1 C2 fI1 NI1 fI2 NI2 : Addr} {nm1 qn1 nm2 qn2 : Str} {bs1 su1 bs2 su2 : List Value} {sn1 sn2 : List Str} {ab1 ab2 : Bool} {co1 co2 : Option Bool} {dd1 odI1 anI1 dd2 odI2 anI2 : Option Addr} {m01 m11 m21 m31 m51 m02 m12 m22 m32 m52 : Option Value} {slI1 slI2 : Array (Option Value)} {ocI1 kVI1 dcI1 pmI1 cdI1 ctI1 ocI2 kVI2 dcI2 pmI2 cdI2 ctI2 : Value}
    (aC0 : PySem.W.nsIn K mainGlobals "ColonnadeError" = some (some (.ref C0)))
    (aC1 : PySem.W.nsIn K mainGlobals "Unread" = some (some (.ref C1)))
    (aC2 : PySem.W.nsIn K mainGlobals "TooMany" = some (some (.ref C2)))
    (sv1 : PySem.W.subIn K (.ref C1) (.type "ValueError") = some true) (sv2 : PySem.W.subIn K (.ref C2) (.type "ValueError") = some true)
    (eC0 : PySem.W.subIn K (.ref C0) (.type "BaseException") = some true) (tC0 : PySem.W.typeIn K (.ref C0) = some (.type "type")) (hd0 : PySem.W.hasDictIn K C0 = true)
    (eC1 : PySem.W.subIn K (.ref C1) (.type "BaseException") = some true) (tC1 : PySem.W.typeIn K (.ref C1) = some (.type "type")) (hd1 : PySem.W.hasDictIn K C1 = true)
    (eC2 : PySem.W.subIn K (.ref C2) (.type "BaseException") = some true) (tC2 : PySem.W.typeIn K (.ref C2) = some (.type "type")) (hd2 : PySem.W.hasDictIn K C2 = true)
    (gN : PySem.W.specialIn K (.builtin "object.__class__") "__get__" = some (some (.builtin "getset_descriptor.__get__"))) (gT : PySem.W.takesIn K (.builtin "object.__class__") = some true)
    (xL1 : K.lookup C1 = some (excClassObj nm1 qn1 C1 NI1 bs1 [.ref C0, .type "ValueError", .type "Exception", .type "BaseException", .type "object"] true sn1 su1 ab1 co1 dd1 m01 m11 m21 m31 m51 "ValueError.__new__"))
    (sa1 : PySem.W.findIn K (.ref C1) "__setattr__" = some (some (.builtin "object.__setattr__"))) (ga1 : PySem.W.findIn K (.ref C1) "__getattribute__" = some (some (.builtin "BaseException.__getattribute__"))) (gg1 : PySem.W.findIn K (.ref C1) "__getattr__" = some none) (hc1 : PySem.W.findIn K (.ref C1) "__class__" = some (some (.builtin "object.__class__"))) (hm1 : PySem.W.mroIn K C1 (.type "object") = some true) (kC1 : PySem.W.keepIn K (.ref C1) = true)
    (nb1at : PySem.W.findIn K (.ref C1) "at" = some none)
    (iI1 : PySem.W.findIn K (.ref C1) "__init__" = some (some (.ref fI1))) (tI1 : PySem.W.typeIn K (.ref fI1) = some (.type "function")) (lI1 : K.lookup fI1 = some ⟨ocI1, odI1, .func (PySem.W.fnOf "__init__" "Unread.__init__" (defArgs sI_1) (defBody sI_1) (defScope sI_1) .none kVI1 dcI1 pmI1 anI1 cdI1 ctI1), slI1⟩) (cI1 : PySem.W.codeIn K cdI1 "Unread.__init__" = true) (kI1 : PySem.W.keepIn K (.ref fI1) = true)
    (sb1x0 : PySem.W.subIn K (.ref C1) (.ref C0) = some true)
    (sb1x1 : PySem.W.subIn K (.ref C1) (.ref C1) = some true)
    (sb1x2 : PySem.W.subIn K (.ref C1) (.ref C2) = some false)
    (xL2 : K.lookup C2 = some (excClassObj nm2 qn2 C2 NI2 bs2 [.ref C0, .type "ValueError", .type "Exception", .type "BaseException", .type "object"] true sn2 su2 ab2 co2 dd2 m02 m12 m22 m32 m52 "ValueError.__new__"))
    (sa2 : PySem.W.findIn K (.ref C2) "__setattr__" = some (some (.builtin "object.__setattr__"))) (ga2 : PySem.W.findIn K (.ref C2) "__getattribute__" = some (some (.builtin "BaseException.__getattribute__"))) (gg2 : PySem.W.findIn K (.ref C2) "__getattr__" = some none) (hc2 : PySem.W.findIn K (.ref C2) "__class__" = some (some (.builtin "object.__class__"))) (hm2 : PySem.W.mroIn K C2 (.type "object") = some true) (kC2 : PySem.W.keepIn K (.ref C2) = true)
    (nb2part : PySem.W.findIn K (.ref C2) "part" = some none)
    (iI2 : PySem.W.findIn K (.ref C2) "__init__" = some (some (.ref fI2))) (tI2 : PySem.W.typeIn K (.ref fI2) = some (.type "function")) (lI2 : K.lookup fI2 = some ⟨ocI2, odI2, .func (PySem.W.fnOf "__init__" "TooMany.__init__" (defArgs sI_2) (defBody sI_2) (defScope sI_2) .none kVI2 dcI2 pmI2 anI2 cdI2 ctI2), slI2⟩) (cI2 : PySem.W.codeIn K cdI2 "TooMany.__init__" = true) (kI2 : PySem.W.keepIn K (.ref fI2) = true)
    (sb2x0 : PySem.W.subIn K (.ref C2) (.ref C0) = some true)
    (sb2x1 : PySem.W.subIn K (.ref C2) (.ref C1) = some false)
    (sb2x2 : PySem.W.subIn K (.ref C2) (.ref C2) = some true)
    (z0 : PySem.W.nsIn K mainGlobals "ValueError" = some none) (z1 : PySem.W.nsIn K mainGlobals "abs" = some none) (z2 : PySem.W.nsIn K mainGlobals "bool" = some none) (z3 : PySem.W.nsIn K mainGlobals "int" = some none) (z4 : PySem.W.nsIn K mainGlobals "isinstance" = some none) (z5 : PySem.W.nsIn K mainGlobals "len" = some none) (z6 : PySem.W.nsIn K mainGlobals "range" = some none) :
    ∃ fd : FuncData, (∀ (s : Shared) (v : Value), BindsTo s fd ⟨[v], []⟩ [("_law_script", v)]) ∧ ∀ base : Heap, K.In base → base.Ns mainGlobals mg → FnOk l.prog w K mg base CX0 6 fa fd ["_law_script"] (spOf K 1 fsLaw) := by
  have e := hfa.symm.trans (PySem.W.mg_of X G a23)
  cases e
  have F1 := fun_mk (st := s_stretch_end) l1 c1 k1
  have F2 := fun_mk (st := s_quoted_end) l2 c2 k2
  have F3 := fun_mk (st := s_number_end) l3 c3 k3
  have F4 := fun_mk (st := s_word_end) l4 c4 k4
  have F5 := fun_mk (st := s_split_words) l5 c5 k5
  have F6 := fun_mk (st := s_l_digit) l6 c6 k6
  have F7 := fun_mk (st := s_l_letters) l7 c7 k7
  have F8 := fun_mk (st := s_l_strange) l8 c8 k8
  have F9 := fun_mk (st := s_l_keys) l9 c9 k9
  have F10 := fun_mk (st := s_l_signs) l10 c10 k10
  have F11 := fun_mk (st := s_l_drawn) l11 c11 k11
  have F12 := fun_mk (st := s_l_word) l12 c12 k12
  have F13 := fun_mk (st := s_l_one) l13 c13 k13
  have F14 := fun_mk (st := s_l_join) l14 c14 k14
  have F15 := fun_mk (st := s_l_spoilt) l15 c15 k15
  have F16 := fun_mk (st := s_l_raw) l16 c16 k16
  have F17 := fun_mk (st := s_l_stretch) l17 c17 k17
  have F18 := fun_mk (st := s_l_size) l18 c18 k18
  have F19 := fun_mk (st := s_l_divided) l19 c19 k19
  have F20 := fun_mk (st := s_l_told) l20 c20 k20
  have F21 := fun_mk (st := s_l_alone) l21 c21 k21
  have F22 := fun_mk (st := s_l_right) l22 c22 k22
  have F23 := fun_mk (st := s_law) l23 c23 k23
  have FI1 := fun_mk (st := sI_1) lI1 cI1 kI1
  have o1 : OexC K C1 := ⟨⟨_, _, _, _, _, _, _, _, _, _, _, _, _, _, _, xL1, rfl⟩, sa1, eC1, tC1, kC1⟩
  have x1 : ExcC K C1 := ⟨ga1, gg1, eC1, hd1, hc1, gN, gT, hm1⟩
  have y1 : XfC K C1 := ⟨ga1, gg1, eC1, hd1⟩
  have FI2 := fun_mk (st := sI_2) lI2 cI2 kI2
  have o2 : OexC K C2 := ⟨⟨_, _, _, _, _, _, _, _, _, _, _, _, _, _, _, xL2, rfl⟩, sa2, eC2, tC2, kC2⟩
  have x2 : ExcC K C2 := ⟨ga2, gg2, eC2, hd2, hc2, gN, gT, hm2⟩
  have y2 : XfC K C2 := ⟨ga2, gg2, eC2, hd2⟩
  let T : Txt K mg := {
    ct := fun n => match n with | 0 => C0 | 1 => C1 | 2 => C2 | _ => C0,
    gC_0 := PySem.W.mg_of X G aC0,
    gC_1 := PySem.W.mg_of X G aC1,
    gC_2 := PySem.W.mg_of X G aC2,
    fI_1 := fI1, dI_1 := _, FI_1 := FI1, bi_1 := FI1.binds fun _ _ _ _ _ _ us hl => match us, hl with | [_, _], _ => rfl,
    e_1 := ⟨o1, PySem.W.mg_of X G aC1, iI1, tI1⟩,
    nf_1_at := nb1at,
    fI_2 := fI2, dI_2 := _, FI_2 := FI2, bi_2 := FI2.binds fun _ _ _ _ _ _ us hl => match us, hl with | [_, _], _ => rfl,
    e_2 := ⟨o2, PySem.W.mg_of X G aC2, iI2, tI2⟩,
    nf_2_part := nb2part,
    hrd := fun n f h => match n, f, h with | 1, f, h => ⟨y1, by rcases (by simpa [exRd] using h : f = "at") with rfl <;> assumption⟩ | 2, f, h => ⟨y2, by rcases (by simpa [exRd] using h : f = "part") with rfl <;> assumption⟩ | 0, f, h => by simp [exRd] at h | n + 3, f, h => by simp [exRd] at h,
    hkit := fun n t b h => (by
      unfold exKit at h
      split at h
      · unfold exKit_1 at h
        split at h
        · cases h; exact ⟨x1, kit_ref hd0 tC0 sb1x1 sb1x0⟩
        · cases h; exact ⟨x1, kit_ref hd1 tC1 sb1x1 sb1x1⟩
        · cases h; exact ⟨x1, kit_ref hd2 tC2 sb1x1 sb1x2⟩
        · cases h
      · unfold exKit_2 at h
        split at h
        · cases h; exact ⟨x2, kit_ref hd0 tC0 sb2x2 sb2x0⟩
        · cases h; exact ⟨x2, kit_ref hd1 tC1 sb2x2 sb2x1⟩
        · cases h; exact ⟨x2, kit_ref hd2 tC2 sb2x2 sb2x2⟩
        · cases h
      · cases h),
    hkv := fun n h => match n, h with | 1, h => ⟨x1, kit_tyV sv1⟩ | 2, h => ⟨x2, kit_tyV sv2⟩ | 0, h => by cases h | n + 3, h => by simp [exKit] at h,
    hsub_0 := fun n b h => match n, h with | 1, h => by cases h; exact PySem.W.exm_ref eC0 hd0 tC0 sb1x0 | 2, h => by cases h; exact PySem.W.exm_ref eC0 hd0 tC0 sb2x0 | 0, h => by cases h | n + 3, h => by simp [exSub_0, exKit] at h,
    hsub_1 := fun n b h => match n, h with | 1, h => by cases h; exact PySem.W.exm_ref eC1 hd1 tC1 sb1x1 | 2, h => by cases h; exact PySem.W.exm_ref eC1 hd1 tC1 sb2x1 | 0, h => by cases h | n + 3, h => by simp [exSub_1, exKit] at h,
    hsub_2 := fun n b h => match n, h with | 1, h => by cases h; exact PySem.W.exm_ref eC2 hd2 tC2 sb1x2 | 2, h => by cases h; exact PySem.W.exm_ref eC2 hd2 tC2 sb2x2 | 0, h => by cases h | n + 3, h => by simp [exSub_2, exKit] at h,
    f_stretch_end := _, d_stretch_end := _, g_stretch_end := PySem.W.mg_of X G a1, F_stretch_end := F1, b_stretch_end := F1.binds fun _ _ _ _ _ _ us hl => match us, hl with | [_, _, _], _ => rfl,
    f_quoted_end := _, d_quoted_end := _, g_quoted_end := PySem.W.mg_of X G a2, F_quoted_end := F2, b_quoted_end := F2.binds fun _ _ _ _ _ _ us hl => match us, hl with | [_, _], _ => rfl,
    f_number_end := _, d_number_end := _, g_number_end := PySem.W.mg_of X G a3, F_number_end := F3, b_number_end := F3.binds fun _ _ _ _ _ _ us hl => match us, hl with | [_, _], _ => rfl,
    f_word_end := _, d_word_end := _, g_word_end := PySem.W.mg_of X G a4, F_word_end := F4, b_word_end := F4.binds fun _ _ _ _ _ _ us hl => match us, hl with | [_, _], _ => rfl,
    f_split_words := _, d_split_words := _, g_split_words := PySem.W.mg_of X G a5, F_split_words := F5, b_split_words := F5.binds fun _ _ _ _ _ _ us hl => match us, hl with | [_], _ => rfl,
    f_l_digit := _, d_l_digit := _, g_l_digit := PySem.W.mg_of X G a6, F_l_digit := F6, b_l_digit := F6.binds fun _ _ _ _ _ _ us hl => match us, hl with | [_, _], _ => rfl,
    f_l_letters := _, d_l_letters := _, g_l_letters := PySem.W.mg_of X G a7, F_l_letters := F7, b_l_letters := F7.binds fun _ _ _ _ _ _ us hl => match us, hl with | [], _ => rfl,
    f_l_strange := _, d_l_strange := _, g_l_strange := PySem.W.mg_of X G a8, F_l_strange := F8, b_l_strange := F8.binds fun _ _ _ _ _ _ us hl => match us, hl with | [], _ => rfl,
    f_l_keys := _, d_l_keys := _, g_l_keys := PySem.W.mg_of X G a9, F_l_keys := F9, b_l_keys := F9.binds fun _ _ _ _ _ _ us hl => match us, hl with | [], _ => rfl,
    f_l_signs := _, d_l_signs := _, g_l_signs := PySem.W.mg_of X G a10, F_l_signs := F10, b_l_signs := F10.binds fun _ _ _ _ _ _ us hl => match us, hl with | [], _ => rfl,
    f_l_drawn := _, d_l_drawn := _, g_l_drawn := PySem.W.mg_of X G a11, F_l_drawn := F11, b_l_drawn := F11.binds fun _ _ _ _ _ _ us hl => match us, hl with | [_, _, _], _ => rfl,
    f_l_word := _, d_l_word := _, g_l_word := PySem.W.mg_of X G a12, F_l_word := F12, b_l_word := F12.binds fun _ _ _ _ _ _ us hl => match us, hl with | [_], _ => rfl,
    f_l_one := _, d_l_one := _, g_l_one := PySem.W.mg_of X G a13, F_l_one := F13, b_l_one := F13.binds fun _ _ _ _ _ _ us hl => match us, hl with | [_, _], _ => rfl,
    f_l_join := _, d_l_join := _, g_l_join := PySem.W.mg_of X G a14, F_l_join := F14, b_l_join := F14.binds fun _ _ _ _ _ _ us hl => match us, hl with | [_, _], _ => rfl,
    f_l_spoilt := _, d_l_spoilt := _, g_l_spoilt := PySem.W.mg_of X G a15, F_l_spoilt := F15, b_l_spoilt := F15.binds fun _ _ _ _ _ _ us hl => match us, hl with | [_, _, _, _], _ => rfl,
    f_l_raw := _, d_l_raw := _, g_l_raw := PySem.W.mg_of X G a16, F_l_raw := F16, b_l_raw := F16.binds fun _ _ _ _ _ _ us hl => match us, hl with | [_], _ => rfl,
    f_l_stretch := _, d_l_stretch := _, g_l_stretch := PySem.W.mg_of X G a17, F_l_stretch := F17, b_l_stretch := F17.binds fun _ _ _ _ _ _ us hl => match us, hl with | [_, _, _], _ => rfl,
    f_l_size := _, d_l_size := _, g_l_size := PySem.W.mg_of X G a18, F_l_size := F18, b_l_size := F18.binds fun _ _ _ _ _ _ us hl => match us, hl with | [_, _], _ => rfl,
    f_l_divided := _, d_l_divided := _, g_l_divided := PySem.W.mg_of X G a19, F_l_divided := F19, b_l_divided := F19.binds fun _ _ _ _ _ _ us hl => match us, hl with | [_], _ => rfl,
    f_l_told := _, d_l_told := _, g_l_told := PySem.W.mg_of X G a20, F_l_told := F20, b_l_told := F20.binds fun _ _ _ _ _ _ us hl => match us, hl with | [_], _ => rfl,
    f_l_alone := _, d_l_alone := _, g_l_alone := PySem.W.mg_of X G a21, F_l_alone := F21, b_l_alone := F21.binds fun _ _ _ _ _ _ us hl => match us, hl with | [_], _ => rfl,
    f_l_right := _, d_l_right := _, g_l_right := PySem.W.mg_of X G a22, F_l_right := F22, b_l_right := F22.binds fun _ _ _ _ _ _ us hl => match us, hl with | [_, _], _ => rfl,
    f_law := _, d_law := _, g_law := PySem.W.mg_of X G a23, F_law := F23, b_law := F23.binds fun _ _ _ _ _ _ us hl => match us, hl with | [_], _ => rfl,
    n_ValueError := PySem.W.mg_none_of X G z0,
    n_abs := PySem.W.mg_none_of X G z1,
    n_bool := PySem.W.mg_none_of X G z2,
    n_int := PySem.W.mg_none_of X G z3,
    n_isinstance := PySem.W.mg_none_of X G z4,
    n_len := PySem.W.mg_none_of X G z5,
    n_range := PySem.W.mg_none_of X G z6,
    t_FIGURES := tkFIGURES, c_FIGURES := PySem.W.mg_of X G eFIGURES,
    t_LETTERS := tkLETTERS, c_LETTERS := PySem.W.mg_of X G eLETTERS,
    a_LONG_SIGNS := _, c_LONG_SIGNS := PySem.W.mg_of X G eLONG_SIGNS, l_LONG_SIGNS := .inr ⟨_, _, _, LLONG_SIGNS, rfl, rfl, sz_le (by decide : 3 ≤ 1000000), (.cons ⟨_, rfl⟩ (.cons ⟨_, rfl⟩ (.cons ⟨_, rfl⟩ .nil)))⟩, r_LONG_SIGNS := fun z F => (.cons (.str _) (.cons (.str _) (.cons (.str _) .nil))),
    a_SIGNS := _, c_SIGNS := PySem.W.mg_of X G eSIGNS, l_SIGNS := .inr ⟨_, _, _, LSIGNS, rfl, rfl, sz_le (by decide : 6 ≤ 1000000), (.cons ⟨_, rfl⟩ (.cons ⟨_, rfl⟩ (.cons ⟨_, rfl⟩ (.cons ⟨_, rfl⟩ (.cons ⟨_, rfl⟩ (.cons ⟨_, rfl⟩ .nil))))))⟩, r_SIGNS := fun z F => (.cons (.str _) (.cons (.str _) (.cons (.str _) (.cons (.str _) (.cons (.str _) (.cons (.str _) .nil)))))) }
  exact ⟨_, fun s v => .of_eq rfl, fun base _ _ => ok_law T⟩
end K28
open PySem PySem.W PyProof.Rows
set_option maxHeartbeats 0 in
theorem PySem.Challenge.cw_colonnade_k28_words_of_texts_holds : PySem.Challenge.rw_colonnade_k28_words_of_texts.Holds := by
  w_on; o_law; k_head; (case hw => w_witness2)
  k_fill
  refine L2.walk_of (l := PySem.Challenge.rw_colonnade_k28_words_of_texts) (n := 63) (k := 6) (x := "_law_script") (CX := fun _ => L2.CX0) (sp := fun w => DL.spOf _ 1 DL.fsLaw) rfl (by decide) rfl ⟨rfl, by decide, by decide⟩ (fun w h Y => PySem.W.kIn_of Y) ?F (fun _ _ a ns hl _ hS => DL.law_sp hl hS) (fun _ _ _ _ _ h => h)
  case F =>
    intro w mg fa h KX G hmg
    refine' K28.all_mk KX G hmg ?eLONG_SIGNS ?LLONG_SIGNS ?eSIGNS ?LSIGNS ?eFIGURES ?eLETTERS ?a1 ?l1 ?c1 ?k1 ?a2 ?l2 ?c2 ?k2 ?a3 ?l3 ?c3 ?k3 ?a4 ?l4 ?c4 ?k4 ?a5 ?l5 ?c5 ?k5 ?a6 ?l6 ?c6 ?k6 ?a7 ?l7 ?c7 ?k7 ?a8 ?l8 ?c8 ?k8 ?a9 ?l9 ?c9 ?k9 ?a10 ?l10 ?c10 ?k10 ?a11 ?l11 ?c11 ?k11 ?a12 ?l12 ?c12 ?k12 ?a13 ?l13 ?c13 ?k13 ?a14 ?l14 ?c14 ?k14 ?a15 ?l15 ?c15 ?k15 ?a16 ?l16 ?c16 ?k16 ?a17 ?l17 ?c17 ?k17 ?a18 ?l18 ?c18 ?k18 ?a19 ?l19 ?c19 ?k19 ?a20 ?l20 ?c20 ?k20 ?a21 ?l21 ?c21 ?k21 ?a22 ?l22 ?c22 ?k22 ?a23 ?l23 ?c23 ?k23 ?aC0 ?aC1 ?aC2 ?sv1 ?sv2 ?eC0 ?tC0 ?hd0 ?eC1 ?tC1 ?hd1 ?eC2 ?tC2 ?hd2 ?gN ?gT ?xL1 ?sa1 ?ga1 ?gg1 ?hc1 ?hm1 ?kC1 ?nb1at ?iI1 ?tI1 ?lI1 ?cI1 ?kI1 ?sb1x0 ?sb1x1 ?sb1x2 ?xL2 ?sa2 ?ga2 ?gg2 ?hc2 ?hm2 ?kC2 ?nb2part ?iI2 ?tI2 ?lI2 ?cI2 ?kI2 ?sb2x0 ?sb2x1 ?sb2x2 ?z0 ?z1 ?z2 ?z3 ?z4 ?z5 ?z6
    (case eLONG_SIGNS => k_is); (case LLONG_SIGNS => k_is); (case eSIGNS => k_is); (case LSIGNS => k_is); (case eFIGURES => k_is); (case eLETTERS => k_is); (case a1 => k_is); (case l1 => k_is); (case c1 => k_is); (case k1 => k_is); (case a2 => k_is); (case l2 => k_is); (case c2 => k_is); (case k2 => k_is); (case a3 => k_is); (case l3 => k_is); (case c3 => k_is); (case k3 => k_is); (case a4 => k_is); (case l4 => k_is); (case c4 => k_is); (case k4 => k_is); (case a5 => k_is); (case l5 => k_is); (case c5 => k_is); (case k5 => k_is); (case a6 => k_is); (case l6 => k_is); (case c6 => k_is); (case k6 => k_is); (case a7 => k_is); (case l7 => k_is); (case c7 => k_is); (case k7 => k_is); (case a8 => k_is); (case l8 => k_is); (case c8 => k_is); (case k8 => k_is); (case a9 => k_is); (case l9 => k_is); (case c9 => k_is); (case k9 => k_is); (case a10 => k_is); (case l10 => k_is); (case c10 => k_is); (case k10 => k_is); (case a11 => k_is); (case l11 => k_is); (case c11 => k_is); (case k11 => k_is); (case a12 => k_is); (case l12 => k_is); (case c12 => k_is); (case k12 => k_is); (case a13 => k_is); (case l13 => k_is); (case c13 => k_is); (case k13 => k_is); (case a14 => k_is); (case l14 => k_is); (case c14 => k_is); (case k14 => k_is); (case a15 => k_is); (case l15 => k_is); (case c15 => k_is); (case k15 => k_is); (case a16 => k_is); (case l16 => k_is); (case c16 => k_is); (case k16 => k_is); (case a17 => k_is); (case l17 => k_is); (case c17 => k_is); (case k17 => k_is); (case a18 => k_is); (case l18 => k_is); (case c18 => k_is); (case k18 => k_is); (case a19 => k_is); (case l19 => k_is); (case c19 => k_is); (case k19 => k_is); (case a20 => k_is); (case l20 => k_is); (case c20 => k_is); (case k20 => k_is); (case a21 => k_is); (case l21 => k_is); (case c21 => k_is); (case k21 => k_is); (case a22 => k_is); (case l22 => k_is); (case c22 => k_is); (case k22 => k_is); (case a23 => k_is); (case l23 => k_is); (case c23 => k_is); (case k23 => k_is); (case aC0 => k_is); (case aC1 => k_is); (case aC2 => k_is); (case sv1 => k_is); (case sv2 => k_is); (case eC0 => k_is); (case tC0 => k_is); (case hd0 => k_is); (case eC1 => k_is); (case tC1 => k_is); (case hd1 => k_is); (case eC2 => k_is); (case tC2 => k_is); (case hd2 => k_is); (case gN => k_is); (case gT => k_is); (case xL1 => k_is); (case sa1 => k_is); (case ga1 => k_is); (case gg1 => k_is); (case hc1 => k_is); (case hm1 => k_is); (case kC1 => k_is); (case nb1at => k_is); (case iI1 => k_is); (case tI1 => k_is); (case lI1 => k_is); (case cI1 => k_is); (case kI1 => k_is); (case sb1x0 => k_is); (case sb1x1 => k_is); (case sb1x2 => k_is); (case xL2 => k_is); (case sa2 => k_is); (case ga2 => k_is); (case gg2 => k_is); (case hc2 => k_is); (case hm2 => k_is); (case kC2 => k_is); (case nb2part => k_is); (case iI2 => k_is); (case tI2 => k_is); (case lI2 => k_is); (case cI2 => k_is); (case kI2 => k_is); (case sb2x0 => k_is); (case sb2x1 => k_is); (case sb2x2 => k_is); (case z0 => k_is); (case z1 => k_is); (case z2 => k_is); (case z3 => k_is); (case z4 => k_is); (case z5 => k_is); (case z6 => k_is)
