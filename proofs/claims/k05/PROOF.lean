import PyProof.Rows.All
import Wide.All
import OpenK.AllK
import Wide.FinOn
import HandS.ForMost
import HandS.ForExc
import HandS.Walk
import HandS.IsInst
import HandS.Defaults
import HandS.MakeKw
import HandS.MakeKwOnly
import KE.GoesEnum
import KE.GoesMore
import HandS.Property
import KE.KStateDown
import HandS.Ends
import HandS.More
import HandS.Words
import HandS.WordsExc
import HandS.Head0
import HandS.Head1
import HandS.Head2
import HandS.HeadEnd
import HandS.HeadHook1
import HandS.HeadHook2
import PySem.Challenge.RW_finerlocks_k05_whole_way_meet
set_option Elab.async false
set_option linter.all false
set_option maxRecDepth 100000
set_option maxHeartbeats 4000000
namespace Fz
open PySem PySem.Spec PyProof.Rows L2

/-- built-in types that are asked for -/
inductive BT where
  | int | str | bool | list | tuple | dict | none
  deriving DecidableEq
def BT.name : BT → String
  | .int => "int"
  | .str => "str"
  | .bool => "bool"
  | .list => "list"
  | .tuple => "tuple"
  | .dict => "dict"
  | .none => "NoneType"
/-- value trees: what is frozen stands as data, what is live as the number of its cell -/
inductive W where
  | non | bl (b : Bool) | int (i : Int) | str (s : Str)
  | tup (l : List W) | lst (l : List W)
  | ins (c : Nat) (vs : List W)
  | loc (n : Nat)
  | cls (c : Nat)
  | ty (n : BT)
  /-- the law's script -/
  | scr (l : List W)

inductive Cell where
  | lst (l : List W) | dk (kvs : List (Key × W)) | dt (kvs : List (List Key × W)) | ins (c : Nat) (vs : List W) | dead

/-- the text's own classes by numbers -/
structure Tab where
  K : PySem.W.Frag
  ca : Nat → Addr
  /-- the fields of a class, in the order in which they are first stored -/
  fl : Nat → List Str

inductive All2 {α β : Type} (R : α → β → Prop) : List α → List β → Prop
  | nil : All2 R [] []
  | cons {a b l m} : R a b → All2 R l m → All2 R (a :: l) (b :: m)
namespace All2
variable {α β : Type} {R S : α → β → Prop}
theorem imp (f : ∀ a b, R a b → S a b) : ∀ {l m}, All2 R l m → All2 S l m
  | _, _, .nil => .nil
  | _, _, .cons h t => .cons (f _ _ h) (imp f t)
theorem length : ∀ {l : List α} {m : List β}, All2 R l m → l.length = m.length
  | _, _, .nil => rfl
  | _, _, .cons _ t => congrArg (· + 1) (length t)
theorem append : ∀ {l l' : List α} {m m' : List β}, All2 R l m → All2 R l' m' → All2 R (l ++ l') (m ++ m')
  | _, _, _, _, .nil, s => s
  | _, _, _, _, .cons h t, s => .cons h (append t s)
theorem get : ∀ {l : List α} {m : List β} {i : Nat} {a : α}, All2 R l m → l[i]? = some a → ∃ b, m[i]? = some b ∧ R a b
  | _, _, 0, a, .cons h t, e => ⟨_, rfl, by simp at e; subst e; exact h⟩
  | _, _, i + 1, a, .cons h t, e => by
    obtain ⟨b, h1, h2⟩ := get (i := i) (a := a) t (by simpa using e)
    exact ⟨b, by simpa using h1, h2⟩
  | _, _, _, _, .nil, e => by simp at e
theorem get' : ∀ {l : List α} {m : List β} {i : Nat} {b : β}, All2 R l m → m[i]? = some b → ∃ a, l[i]? = some a ∧ R a b
  | _, _, 0, b, .cons h t, e => ⟨_, rfl, by simp at e; subst e; exact h⟩
  | _, _, i + 1, b, .cons h t, e => by
    obtain ⟨a, h1, h2⟩ := get' (i := i) (b := b) t (by simpa using e)
    exact ⟨a, by simpa using h1, h2⟩
  | _, _, _, _, .nil, e => by simp at e
theorem set {a : α} {b : β} (r : R a b) : ∀ {l : List α} {m : List β} (i : Nat), All2 R l m → All2 R (l.set i a) (m.set i b)
  | _, _, _, .nil => .nil
  | _, _, 0, .cons h t => .cons r t
  | _, _, i + 1, .cons h t => .cons h (set r i t)
theorem take : ∀ {l : List α} {m : List β} (n : Nat), All2 R l m → All2 R (l.take n) (m.take n)
  | _, _, 0, _ => .nil
  | _, _, _ + 1, .nil => .nil
  | _, _, n + 1, .cons h t => .cons h (take n t)
theorem drop : ∀ {l : List α} {m : List β} (n : Nat), All2 R l m → All2 R (l.drop n) (m.drop n)
  | _, _, 0, h => h
  | _, _, _ + 1, .nil => .nil
  | _, _, n + 1, .cons h t => drop n t
theorem reverse : ∀ {l : List α} {m : List β}, All2 R l m → All2 R l.reverse m.reverse
  | _, _, .nil => .nil
  | _, _, .cons h t => by simp only [List.reverse_cons]; exact (reverse t).append (.cons h .nil)
end All2

/-! ### what stands in the written part: nested tuples and lists of flat things -/
def KLs (K : PySem.W.Frag) (a : Addr) (xs : List V) : Prop := ∃ (o : Obj) (its : Array Value) (n : Nat), K.lookup a = some o ∧ o.cls = .type "list" ∧ o.dict = none ∧ o.data = .seq its n ∧ its.size ≤ sizeLine ∧ Vals xs its.toList
def KTp (K : PySem.W.Frag) (a : Addr) (xs : List V) : Prop := ∃ (o : Obj) (its : Array Value) (n : Nat), K.lookup a = some o ∧ o.cls = .type "tuple" ∧ o.data = .seq its n ∧ its.size ≤ sizeLine ∧ Vals xs its.toList
mutual
inductive KV (T : Tab) : W → V → Prop
  | non : KV T .non .non
  | bl {b} : KV T (.bl b) (.bl b)
  | int {i} : KV T (.int i) (.int i)
  | str {s} : KV T (.str s) (.str s)
  | cls {c} : KV T (.cls c) (.ref (T.ca c))
  | ty {n : BT} : KV T (.ty n) (.ty n.name)
  | tup {a vs l} : KTp T.K a vs → KVs T l vs → KV T (.tup l) (.ref a)
  | scr {a vs l} : KLs T.K a vs → KVs T l vs → KV T (.scr l) (.ref a)
inductive KVs (T : Tab) : List W → List V → Prop
  | nil : KVs T [] []
  | cons {x v l m} : KV T x v → KVs T l m → KVs T (x :: l) (v :: m)
end

/-! ### worlds -/
inductive FO where
  | lst (l : List W) | tup (l : List W) | ins (c : Nat) (vs : List W) | scr (l : List W)
structure Wd where
  cl : List Addr
  fz : Addr → Option FO
def VR (T : Tab) (w : Wd) : W → V → Prop
  | .non, v => v = .non
  | .bl b, v => v = .bl b
  | .int i, v => v = .int i
  | .str s, v => v = .str s
  | .tup l, v => (∃ a, v = .ref a ∧ w.fz a = some (.tup l)) ∨ KV T (.tup l) v
  | .lst l, v => ∃ a, v = .ref a ∧ w.fz a = some (.lst l)
  | .ins c vs, v => ∃ a, v = .ref a ∧ w.fz a = some (.ins c vs)
  | .loc n, v => ∃ a, v = .ref a ∧ w.cl[n]? = some a
  | .cls c, v => v = .ref (T.ca c)
  | .ty n, v => v = .ty n.name
  | .scr l, v => (∃ a, v = .ref a ∧ w.fz a = some (.scr l)) ∨ KV T (.scr l) v
abbrev VRs (T : Tab) (w : Wd) : List W → List V → Prop := All2 (VR T w)
def FOk (T : Tab) (w : Wd) (H : Hp) (a : Addr) : FO → Prop
  | .lst l => ∃ vs, H a = some (.lst vs) ∧ VRs T w l vs
  | .tup l => ∃ vs, H a = some (.tup vs) ∧ VRs T w l vs
  | .scr l => ∃ vs, Rd H a (.lst vs) ∧ VRs T w l vs
  | .ins c ws => ∃ dx vs, H a = some (.ins (T.ca c) dx ((T.fl c).zip vs)) ∧ VRs T w ws vs ∧ ws.length ≤ (T.fl c).length
def DKs {κ : Type} (T : Tab) (w : Wd) : List (κ × W) → List (κ × V) → Prop := All2 fun p q => p.1 = q.1 ∧ VR T w p.2 q.2
def COk (T : Tab) (w : Wd) (H : Hp) (a : Addr) : Cell → Prop
  | .lst l => ∃ vs, H a = some (.lst vs) ∧ VRs T w l vs
  | .dk kvs => ∃ kvs', H a = some (.dK kvs') ∧ DKs T w kvs kvs'
  | .dt kvs => ∃ kvs', H a = some (.dT kvs') ∧ DKs T w kvs kvs'
  | .ins c ws => ∃ dx vs, H a = some (.ins (T.ca c) dx ((T.fl c).zip vs)) ∧ VRs T w ws vs ∧ ws.length ≤ (T.fl c).length
  | .dead => H a ≠ none
def Cell.live : Cell → Prop
  | .dead => False
  | _ => True
structure StR (T : Tab) (w : Wd) (h : List Cell) (H : Hp) : Prop where
  fz : ∀ (a : Addr) (o : FO), w.fz a = some o → FOk T w H a o
  len : w.cl.length = h.length
  nd : w.cl.Nodup
  cel : ∀ (n : Nat) (c : Cell) (a : Addr), h[n]? = some c → w.cl[n]? = some a → COk T w H a c ∧ (c.live → w.fz a = none)
structure Le (w w' : Wd) : Prop where
  cl : ∃ more, w'.cl = w.cl ++ more
  fz : ∀ a o, w.fz a = some o → w'.fz a = some o
theorem Le.refl (w : Wd) : Le w w := ⟨⟨[], by simp⟩, fun _ _ h => h⟩
theorem Le.trans {a b c : Wd} (x : Le a b) (y : Le b c) : Le a c := by
  obtain ⟨m, hm⟩ := x.cl
  obtain ⟨n, hn⟩ := y.cl
  exact ⟨⟨m ++ n, by rw [hn, hm, List.append_assoc]⟩, fun a o h => y.fz a o (x.fz a o h)⟩
theorem Le.get {w w' : Wd} (x : Le w w') {n : Nat} {a : Addr} (h : w.cl[n]? = some a) : w'.cl[n]? = some a := by
  obtain ⟨m, hm⟩ := x.cl
  rw [hm, List.getElem?_append_left (List.getElem?_eq_some_iff.mp h).1]
  exact h
section
variable {T : Tab} {w w' : Wd} {h h' : List Cell} {H H' : Hp}
theorem VR.mono (e : Le w w') : ∀ {x : W} {v : V}, VR T w x v → VR T w' x v
  | .non, _, h => h
  | .bl _, _, h => h
  | .int _, _, h => h
  | .str _, _, h => h
  | .tup _, _, h => h.imp (fun ⟨a, q, r⟩ => ⟨a, q, e.fz _ _ r⟩) id
  | .lst _, _, ⟨a, q, r⟩ => ⟨a, q, e.fz _ _ r⟩
  | .ins _ _, _, ⟨a, q, r⟩ => ⟨a, q, e.fz _ _ r⟩
  | .loc _, _, ⟨a, q, r⟩ => ⟨a, q, e.get r⟩
  | .cls _, _, h => h
  | .ty _, _, h => h
  | .scr _, _, h => h.imp (fun ⟨a, q, r⟩ => ⟨a, q, e.fz _ _ r⟩) id
theorem VRs.mono (e : Le w w') {l : List W} {m : List V} (h : VRs T w l m) : VRs T w' l m := All2.imp (fun _ _ => VR.mono e) h
theorem KV.vr : ∀ {x : W} {v : V}, KV T x v → VR T w x v
  | _, _, .non => rfl
  | _, _, .bl => rfl
  | _, _, .int => rfl
  | _, _, .str => rfl
  | _, _, .cls => rfl
  | _, _, .ty => rfl
  | _, _, .tup a b => .inr (.tup a b)
  | _, _, .scr a b => .inr (.scr a b)
theorem KVs.vrs : ∀ {l : List W} {m : List V}, KVs T l m → VRs T w l m
  | _, _, .nil => .nil
  | _, _, .cons a b => .cons a.vr b.vrs
theorem DKs.mono {κ : Type} (e : Le w w') {l : List (κ × W)} {m : List (κ × V)} (h : DKs T w l m) : DKs T w' l m := All2.imp (fun _ _ q => ⟨q.1, q.2.mono e⟩) h
theorem FOk.mono (e : Le w w') {a : Addr} : ∀ {o : FO}, FOk T w H a o → FOk T w' H a o
  | .lst _, ⟨vs, q, r⟩ => ⟨vs, q, VRs.mono e r⟩
  | .tup _, ⟨vs, q, r⟩ => ⟨vs, q, VRs.mono e r⟩
  | .scr _, ⟨vs, q, r⟩ => ⟨vs, q, VRs.mono e r⟩
  | .ins _ _, ⟨dx, vs, q, r, z⟩ => ⟨dx, vs, q, VRs.mono e r, z⟩
theorem COk.mono (e : Le w w') {a : Addr} : ∀ {o : Cell}, COk T w H a o → COk T w' H a o
  | .lst _, ⟨vs, q, r⟩ => ⟨vs, q, VRs.mono e r⟩
  | .dk _, ⟨vs, q, r⟩ => ⟨vs, q, DKs.mono e r⟩
  | .dt _, ⟨vs, q, r⟩ => ⟨vs, q, DKs.mono e r⟩
  | .ins _ _, ⟨dx, vs, q, r, z⟩ => ⟨dx, vs, q, VRs.mono e r, z⟩
  | .dead, q => q
theorem Rd.upd {a b : Addr} {o u : HO} (h : Rd H a u) (ne : a ≠ b) : Rd (L2.upd H b o) a u := by
  rcases h with h | ⟨x, h⟩
  · exact .inl (by rw [upd_ne ne]; exact h)
  · exact .inr ⟨x, by rw [upd_ne ne]; exact h⟩
theorem Rd.some {a : Addr} {u : HO} (h : Rd H a u) : H a ≠ none := by
  rcases h with h | ⟨x, h⟩ <;> · rw [h]; exact fun z => nomatch z
theorem FOk.upd {a b : Addr} {u : HO} (ne : a ≠ b) : ∀ {o : FO}, FOk T w H a o → FOk T w (L2.upd H b u) a o
  | .lst _, ⟨vs, q, r⟩ => ⟨vs, by rw [upd_ne ne]; exact q, r⟩
  | .tup _, ⟨vs, q, r⟩ => ⟨vs, by rw [upd_ne ne]; exact q, r⟩
  | .scr _, ⟨vs, q, r⟩ => ⟨vs, Rd.upd q ne, r⟩
  | .ins _ _, ⟨dx, vs, q, r⟩ => ⟨dx, vs, by rw [upd_ne ne]; exact q, r⟩
theorem FOk.some {a : Addr} : ∀ {o : FO}, FOk T w H a o → H a ≠ none
  | .lst _, ⟨vs, q, r⟩ => by rw [q]; exact fun z => nomatch z
  | .tup _, ⟨vs, q, r⟩ => by rw [q]; exact fun z => nomatch z
  | .scr _, ⟨vs, q, r⟩ => Rd.some q
  | .ins _ _, ⟨dx, vs, q, r⟩ => by rw [q]; exact fun z => nomatch z
theorem COk.upd {a b : Addr} {u : HO} (ne : a ≠ b) : ∀ {o : Cell}, COk T w H a o → COk T w (L2.upd H b u) a o
  | .lst _, ⟨vs, q, r⟩ => ⟨vs, by rw [upd_ne ne]; exact q, r⟩
  | .dk _, ⟨vs, q, r⟩ => ⟨vs, by rw [upd_ne ne]; exact q, r⟩
  | .dt _, ⟨vs, q, r⟩ => ⟨vs, by rw [upd_ne ne]; exact q, r⟩
  | .ins _ _, ⟨dx, vs, q, r⟩ => ⟨dx, vs, by rw [upd_ne ne]; exact q, r⟩
  | .dead, q => by show L2.upd H b u a ≠ none; rw [upd_ne ne]; exact q
theorem COk.some {a : Addr} : ∀ {o : Cell}, COk T w H a o → H a ≠ none
  | .lst _, ⟨vs, q, r⟩ => by rw [q]; exact fun z => nomatch z
  | .dk _, ⟨vs, q, r⟩ => by rw [q]; exact fun z => nomatch z
  | .dt _, ⟨vs, q, r⟩ => by rw [q]; exact fun z => nomatch z
  | .ins _ _, ⟨dx, vs, q, r⟩ => by rw [q]; exact fun z => nomatch z
  | .dead, q => q
theorem StR.cl_some (s : StR T w h H) {a : Addr} (e : a ∈ w.cl) : H a ≠ none := by
  obtain ⟨n, hn⟩ := List.mem_iff_getElem?.mp e
  have hl : n < h.length := by rw [← s.len]; exact (List.getElem?_eq_some_iff.mp hn).1
  exact (s.cel n h[n] a (List.getElem?_eq_getElem hl) hn).1.some
/-- an object that nothing here speaks of is laid -/
theorem StR.other (s : StR T w h H) {p : Addr} {o : HO} (hp : H p = none) : StR T w h (upd H p o) where
  fz := fun a u e => (s.fz a u e).upd (fun z => (s.fz a u e).some (by rw [z]; exact hp))
  len := s.len
  nd := s.nd
  cel := fun n c a e1 e2 => ⟨(s.cel n c a e1 e2).1.upd (fun z => (s.cel n c a e1 e2).1.some (by rw [z]; exact hp)), (s.cel n c a e1 e2).2⟩
def Wd.addF (w : Wd) (p : Addr) (o : FO) : Wd := ⟨w.cl, fun a => if a = p then some o else w.fz a⟩
def Wd.addC (w : Wd) (p : Addr) : Wd := ⟨w.cl ++ [p], w.fz⟩
theorem Le.addF {p : Addr} {o : FO} (n : w.fz p = none) : Le w (w.addF p o) := ⟨⟨[], by simp [Wd.addF]⟩, fun a u e => by
  show (if a = p then some o else w.fz a) = some u
  rw [if_neg (fun z => by rw [z, n] at e; cases e)]
  exact e⟩
theorem Le.addC {p : Addr} : Le w (w.addC p) := ⟨⟨[p], rfl⟩, fun _ _ e => e⟩
theorem StR.fzn (s : StR T w h H) {p : Addr} (hp : H p = none) : w.fz p = none := by
  cases e : w.fz p with
  | none => rfl
  | some o => exact absurd hp (s.fz p o e).some
/-- a new frozen object -/
theorem StR.frozen (s : StR T w h H) {p : Addr} {o : FO} {u : HO} (hp : H p = none) (new : FOk T w (upd H p u) p o) : StR T (w.addF p o) h (upd H p u) ∧ Le w (w.addF p o) := by
  have le : Le w (w.addF p o) := Le.addF (s.fzn hp)
  refine ⟨⟨fun a x e => ?_, s.len, s.nd, fun n c a e1 e2 => ?_⟩, le⟩
  · by_cases ha : a = p
    · subst ha
      have : x = o := by
        have e' : (if a = a then some o else w.fz a) = some x := e
        rw [if_pos rfl] at e'
        exact (Option.some.inj e').symm
      rw [this]
      exact new.mono le
    · have e' : (if a = p then some o else w.fz a) = some x := e
      rw [if_neg ha] at e'
      exact ((s.fz a x e').upd ha).mono le
  · have ha : a ≠ p := fun z => (s.cel n c a e1 e2).1.some (by rw [z]; exact hp)
    refine ⟨((s.cel n c a e1 e2).1.upd ha).mono le, fun lv => ?_⟩
    show (if a = p then some o else w.fz a) = none
    rw [if_neg ha]
    exact (s.cel n c a e1 e2).2 lv
/-- a new live cell -/
theorem StR.cell (s : StR T w h H) {p : Addr} {c : Cell} {u : HO} (hp : H p = none) (new : COk T w (upd H p u) p c) : StR T (w.addC p) (h ++ [c]) (upd H p u) := by
  have le : Le w (w.addC p) := Le.addC
  refine ⟨fun a x e => ((s.fz a x e).upd (fun z => (s.fz a x e).some (by rw [z]; exact hp))).mono le, ?_, ?_, fun n d a e1 e2 => ?_⟩
  · show (w.cl ++ [p]).length = (h ++ [c]).length
    rw [List.length_append, List.length_append, s.len]
    rfl
  · show (w.cl ++ [p]).Nodup
    rw [List.nodup_append]
    exact ⟨s.nd, by simp, fun a ha b hb => by
      rw [List.mem_singleton.mp hb]
      exact fun z => s.cl_some ha (by rw [z]; exact hp)⟩
  · have e2' : (w.cl ++ [p])[n]? = some a := e2
    by_cases hn : n < h.length
    · rw [List.getElem?_append_left hn] at e1
      rw [List.getElem?_append_left (by rw [s.len]; exact hn)] at e2'
      exact ⟨((s.cel n d a e1 e2').1.upd (fun z => (s.cel n d a e1 e2').1.some (by rw [z]; exact hp))).mono le, (s.cel n d a e1 e2').2⟩
    · have hl : n < (h ++ [c]).length := (List.getElem?_eq_some_iff.mp e1).1
      have : n = h.length := by simp at hl; omega
      subst this
      rw [List.getElem?_append_right (Nat.le_refl _)] at e1
      rw [List.getElem?_append_right (by rw [s.len]; exact Nat.le_refl _)] at e2'
      simp at e1
      simp [s.len] at e2'
      subst e1 e2'
      exact ⟨new.mono le, fun _ => s.fzn hp⟩
/-- a live cell is written -/
theorem StR.write (s : StR T w h H) {n : Nat} {a : Addr} {c d : Cell} {u : HO} (e1 : h[n]? = some c) (e2 : w.cl[n]? = some a) (lv : c.live) (new : COk T w (upd H a u) a d) : StR T w (h.set n d) (upd H a u) := by
  have nf := (s.cel n c a e1 e2).2 lv
  refine ⟨fun b x e => (s.fz b x e).upd (fun z => by rw [z, nf] at e; cases e), by rw [List.length_set]; exact s.len, s.nd, fun m d' b q1 q2 => ?_⟩
  by_cases hm : m = n
  · subst hm
    rw [e2] at q2
    cases q2
    rw [List.getElem?_set_self (List.getElem?_eq_some_iff.mp e1).1] at q1
    cases q1
    exact ⟨new, fun _ => nf⟩
  · rw [List.getElem?_set_ne (Ne.symm hm)] at q1
    have hb : b ≠ a := fun z => hm (by
      subst z
      have h1 := List.getElem?_eq_some_iff.mp q2
      have h2 := List.getElem?_eq_some_iff.mp e2
      exact (List.getElem_inj s.nd).mp (h1.2.trans h2.2.symm))
    exact ⟨(s.cel m d' b q1 q2).1.upd hb, (s.cel m d' b q1 q2).2⟩
end
end Fz

namespace Fz
open PySem PySem.Spec PyProof.Rows L2

/-! ### results -/
inductive R (α : Type) where
  | ok (x : α) (h : List Cell)
  | exc (c : Nat) (vs : List W) (h : List Cell)
  | bad
def R.bind {α β : Type} (m : R α) (f : α → List Cell → R β) : R β := match m with
  | .ok x h => f x h
  | .exc c vs h => .exc c vs h
  | .bad => .bad
abbrev EnvW := List (Option W)
abbrev ME := EnvW → List Cell → R W
abbrev MT := EnvW → List Cell → R Bool
abbrev MA := EnvW → List Cell → R (List W)
/-- the payload of an exception in the heap: the class's own fields -/
def EOk (T : Tab) (w : Wd) (H : Hp) (c : Nat) (vs : List W) (d : Option Addr) : Prop :=
  (vs = [] ∧ d = none) ∨ ∃ dd us, d = some dd ∧ H dd = some (.xd ((T.fl c).zip us)) ∧ VRs T w vs us ∧ vs.length = (T.fl c).length
def Post {α β : Type} (T : Tab) (rel : Wd → α → β → Prop) (w : Wd) (Q : β → Hp → Prop) (E : XK) : R α → Prop
  | .ok x h' => ∀ w' H' v, Le w w' → StR T w' h' H' → rel w' x v → Q v H'
  | .exc c vs h' => ∀ w' H' d, Le w w' → StR T w' h' H' → EOk T w' H' c vs d → E (.ref (T.ca c)) d H'
  | .bad => False
theorem Post.mono {α β : Type} {T : Tab} {rel : Wd → α → β → Prop} {w w1 : Wd} {Q : β → Hp → Prop} {E : XK} (le : Le w w1) : ∀ {m : R α}, Post T rel w Q E m → Post T rel w1 Q E m
  | .ok _ _, h => fun w' H' v l s r => h w' H' v (le.trans l) s r
  | .exc _ _ _, h => fun w' H' d l s r => h w' H' d (le.trans l) s r
  | .bad, h => h
theorem Post.imp {α β : Type} {T : Tab} {rel : Wd → α → β → Prop} {w : Wd} {Q Q' : β → Hp → Prop} {E E' : XK} (k : ∀ v H, Q v H → Q' v H) (e : ∀ c d H, E c d H → E' c d H) : ∀ {m : R α}, Post T rel w Q E m → Post T rel w Q' E' m
  | .ok _ _, h => fun w' H' v l s r => k _ _ (h w' H' v l s r)
  | .exc _ _ _, h => fun w' H' d l s r => e _ _ _ (h w' H' d l s r)
  | .bad, h => h
theorem Post.bind {α β γ δ : Type} {T : Tab} {rel : Wd → α → β → Prop} {rel' : Wd → γ → δ → Prop} {w : Wd} {Q : δ → Hp → Prop} {Q' : β → Hp → Prop} {E : XK} {m : R α} {f : α → List Cell → R γ}
    (h : Post T rel' w Q E (m.bind f)) (k : ∀ x h1 w1 H1 v, Le w w1 → StR T w1 h1 H1 → rel w1 x v → Post T rel' w1 Q E (f x h1) → Q' v H1) : Post T rel w Q' E m := by
  cases m with
  | ok x h1 => exact fun w1 H1 v le s r => k x h1 w1 H1 v le s r (Post.mono le (show Post T rel' w Q E (f x h1) from h))
  | exc c vs h1 => exact h
  | bad => exact h
def OR (T : Tab) (w : Wd) : Option W → Option V → Prop := fun o s => ∀ x, o = some x → ∃ v, s = some v ∧ VR T w x v
abbrev EnvR (T : Tab) (w : Wd) : EnvW → L2.St → Prop := All2 (OR T w)
theorem EnvR.mono {T : Tab} {w w' : Wd} (e : Le w w') {ρ : EnvW} {σ : L2.St} (h : EnvR T w ρ σ) : EnvR T w' ρ σ := All2.imp (fun _ _ q x ex => by
  obtain ⟨v, h1, h2⟩ := q x ex
  exact ⟨v, h1, h2.mono e⟩) h
def relB (_ : Wd) (a b : Bool) : Prop := b = a
/-! ### readings -/
def teI (T : Tab) (E : WX) (m : ME) : TE := fun σ H Q => ∃ w ρ h, StR T w h H ∧ EnvR T w ρ σ ∧ Post T (VR T) w Q (fun c d H' => E c d σ H') (m ρ h)
def ttI (T : Tab) (E : WX) (m : MT) : TT := fun σ H Q => ∃ w ρ h, StR T w h H ∧ EnvR T w ρ σ ∧ Post T relB w Q (fun c d H' => E c d σ H') (m ρ h)
def taI (T : Tab) (E : WX) (m : MA) : TA := fun σ H Q => ∃ w ρ h, StR T w h H ∧ EnvR T w ρ σ ∧ Post T (VRs T) w Q (fun c d H' => E c d σ H') (m ρ h)
/-- where one stands -/
structure Gd (T : Tab) (X : Cx) (E : WX) (n : Nat) : Prop where
  K : X.K = T.K
  calm : X.calm = true
  nd : X.N.Nodup
  room : Room n X.A
  tk : Takes X E
  po : PassesOwn (model X.prog X.w) X.A X.env X.xe
section
variable {T : Tab} {X : Cx} {E : WX} {n : Nat} {a b c e : Expr} {ma mb mc : ME} {pos : Pos}
theorem PE.imp {e : Expr} {t t' : TE} (h : PE X e t) (k : ∀ σ H Q, t' σ H Q → t σ H Q) : PE X e t' := ⟨fun pins s σ H Q I q => h.run pins s σ H Q I (k σ H Q q)⟩
theorem PT.imp {e : Expr} {t t' : TT} (h : PT X e t) (k : ∀ σ H Q, t' σ H Q → t σ H Q) : PT X e t' := ⟨fun pins s σ H Q I q => h.run pins s σ H Q I (k σ H Q q)⟩
theorem PW.imp {e : Expr} {t t' : TT} (h : PW X e t) (k : ∀ σ H Q, t' σ H Q → t σ H Q) : PW X e t' := ⟨fun w pins s σ H Q I q => h.run w pins s σ H Q I (k σ H Q q)⟩
theorem PA.imp {e : List Expr} {t t' : TA} (h : PA X e t) (k : ∀ σ H Q, t' σ H Q → t σ H Q) : PA X e t' := ⟨fun w pins s σ H Q I q => h.run w pins s σ H Q I (k σ H Q q)⟩
theorem PS.imp {e : Stmt} {t t' : TS} (h : PS X e t) (k : ∀ D σ H, t' D σ H → t D σ H) : PS X e t' := ⟨fun pins s σ H D I q => h.run pins s σ H D I (k D σ H q)⟩
theorem PSs.imp {e : List Stmt} {t t' : TS} (h : PSs X e t) (k : ∀ D σ H, t' D σ H → t D σ H) : PSs X e t' := ⟨fun pins s σ H D I q => h.run pins s σ H D I (k D σ H q)⟩
abbrev IE (T : Tab) (X : Cx) (E : WX) (e : Expr) (m : ME) : Prop := PE X e (teI T E m)
abbrev IT (T : Tab) (X : Cx) (E : WX) (e : Expr) (m : MT) : Prop := PT X e (ttI T E m)
abbrev IW (T : Tab) (X : Cx) (E : WX) (e : Expr) (m : MT) : Prop := PW X e (ttI T E m)
abbrev IA (T : Tab) (X : Cx) (E : WX) (e : List Expr) (m : MA) : Prop := PA X e (taI T E m)

/-! ### names, constants -/
def mVar (i : Nat) : ME := fun ρ h => match ρ[i]? with
  | some (some x) => .ok x h
  | _ => .bad
def mC (x : W) : ME := fun _ h => .ok x h
theorem i_var (i : Nat) {x : Str} (hN : X.N[i]? = some x := by rfl) (hv : Vis X.env.scope x := by first | exact Or.inl rfl | exact Or.inr (Or.inl rfl) | exact Or.inr (Or.inr rfl)) (hd : (x == ("__debug__" : Str)) = false := by decide +kernel)
    (hcd : (x == ("__classdict__" : Str)) = false := by decide +kernel) : IE T X E (.Name x pos) (mVar i) := by
  refine PE.imp (pe_var hN hv hd hcd) fun σ H Q ⟨w, ρ, h, s, en, p⟩ => ?_
  unfold mVar at p
  cases q : ρ[i]? with
  | none => rw [q] at p; exact p.elim
  | some o =>
    cases o with
    | none => rw [q] at p; exact p.elim
    | some x =>
      rw [q] at p
      obtain ⟨v', h1, h2⟩ := en.get q
      obtain ⟨v, rfl, r⟩ := h2 x rfl
      exact ⟨v, h1, p w H v (Le.refl w) s r⟩
theorem i_c {t : TE} {x : W} {v : V} (hp : PE X e (tC v)) (k : ∀ w, VR T w x v) : IE T X E e (mC x) :=
  PE.imp hp fun _ H _ ⟨w, _, _, s, _, p⟩ => p w H v (Le.refl w) s (k w)
theorem i_int {i : Int} {j} : IE T X E (.Constant (.int i) j pos) (mC (.int i)) := i_c (t := tC (.int i)) pe_int fun _ => rfl
theorem i_bl {b : Bool} {j} : IE T X E (.Constant (.bool b) j pos) (mC (.bl b)) := i_c (t := tC (.bl b)) pe_bl fun _ => rfl
theorem i_non {j} : IE T X E (.Constant .none j pos) (mC .non) := i_c (t := tC .non) pe_non fun _ => rfl
theorem i_str {x : Str} {j} : IE T X E (.Constant (.str x) j pos) (mC (.str x)) := i_c (t := tC (.str x)) pe_str fun _ => rfl
/-- a module's constant -/
theorem i_glob {x : Str} {v : V} {u : Value} {z : W} (hm : X.mg x = some u) (r : RelV v u) (k : KV T z v) (hg : Gl X x := by rfl) (hd : (x == ("__debug__" : Str)) = false := by decide +kernel) : IE T X E (.Name x pos) (mC z) := i_c (t := tC v) (pe_glob hg hm r hd) fun _ => k.vr
theorem i_cls {x : Str} {c : Nat} (hm : X.mg x = some (.ref (T.ca c))) (hg : Gl X x := by rfl) (hd : (x == ("__debug__" : Str)) = false := by decide +kernel) : IE T X E (.Name x pos) (mC (.cls c)) := i_glob (v := .ref (T.ca c)) hm rfl .cls hg hd
theorem i_bty {x : Str} (n : BT) (hm : X.mg x = none) (hv : bootBuiltins x = some (.type n.name)) (hg : Gl X x := by rfl) (hn : x ≠ "__name__" := by decide +kernel) (hd : (x == ("__debug__" : Str)) = false := by decide +kernel) : IE T X E (.Name x pos) (mC (.ty n)) := i_c (t := tC (.ty n.name)) (pe_bltn (v := .ty n.name) hg hm hv rfl hn hd) fun _ => rfl

/-! ### operations on values -/
abbrev F2 := W → W → List Cell → Option W
def OpI (T : Tab) (f : F2) (r : R2) : Prop := ∀ (w : Wd) (h : List Cell) (H : Hp) (x y z : W) (v u : V) (Q : VK), StR T w h H → VR T w x v → VR T w y u → f x y h = some z →
  (∀ w' H' o, Le w w' → StR T w' h H' → VR T w' z o → Q o H') → r v u H Q
def R.ofO {α : Type} (o : Option α) (h : List Cell) : R α := match o with
  | some x => .ok x h
  | none => .bad
def mOp (f : F2) (ma mb : ME) : ME := fun ρ h => (ma ρ h).bind fun x h1 => (mb ρ h1).bind fun y h2 => R.ofO (f x y h2) h2
theorem tOp_of {f : F2} {r : R2} (o : OpI T f r) {σ : L2.St} {H : Hp} {Q : VK} (q : teI T E (mOp f ma mb) σ H Q) : tOp r (teI T E ma) (teI T E mb) σ H Q := by
  obtain ⟨w, ρ, h, s, en, p⟩ := q
  refine ⟨w, ρ, h, s, en, Post.bind p fun x h1 w1 H1 v le s1 r1 p1 => ⟨w1, ρ, h1, s1, en.mono le, Post.bind p1 fun y h2 w2 H2 u le2 s2 r2 p2 => ?_⟩⟩
  cases ez : f x y h2 with
  | none => rw [ez] at p2; exact p2.elim
  | some z =>
    rw [ez] at p2
    exact o w2 h2 H2 x y z v u Q s2 (r1.mono le2) r2 ez fun w' H' o l s' r' => p2 w' H' o l s' r'
theorem i_op {op : Operator} {f : F2} {r : R2} (ho : OpR X (binaryOp op) r) (o : OpI T f r) (ha : IE T X E a ma) (hb : IE T X E b mb) : IE T X E (.BinOp a op b pos) (mOp f ma mb) := PE.imp (pe_op ho ha hb) fun _ _ _ q => tOp_of o q
theorem i_cmp {op : CmpOp} {f : F2} {r : R2} (ho : OpR X (compareOp op) r) (o : OpI T f r) (hm : behindInMarks op b = false) (ha : IE T X E a ma) (hb : IE T X E b mb) : IE T X E (.Compare a [op] [b] pos) (mOp f ma mb) := PE.imp (pe_cmpR ho ha hb hm) fun _ _ _ q => tOp_of o q
/-- a comparison as a test -/
abbrev P2 := W → W → List Cell → Option Bool
def mTst (m : ME) : MT := fun ρ h => (m ρ h).bind fun x h1 => match x with
  | .bl b => .ok b h1
  | _ => .bad
theorem tTest_of {m : ME} {t : TE} (k : ∀ σ H Q, teI T E m σ H Q → t σ H Q) {σ : L2.St} {H : Hp} {Q : Bool → Hp → Prop} (q : ttI T E (mTst m) σ H Q) : tTest t σ H Q := by
  obtain ⟨w, ρ, h, s, en, p⟩ := q
  refine k σ H _ ⟨w, ρ, h, s, en, Post.bind p fun x h1 w1 H1 v le s1 r1 p1 => ?_⟩
  cases x with
  | bl b =>
    cases r1
    exact ⟨b, rfl, p1 w1 H1 b (Le.refl _) s1 rfl⟩
  | _ => exact p1.elim
theorem it_cmp {op : CmpOp} {f : F2} {r : R2} (ho : OpR X (compareOp op) r) (o : OpI T f r) (hm : behindInMarks op b = false) (ha : IE T X E a ma) (hb : IE T X E b mb) : IT T X E (.Compare a [op] [b] pos) (mTst (mOp f ma mb)) :=
  PT.imp (pt_cmpR ho ha hb hm) fun _ _ _ q => tTest_of (fun _ _ _ q => tOp_of o q) q
theorem OpI.or {f g : F2} {r r' : R2} (o : OpI T f r) (o' : OpI T g r') : OpI T (fun x y h => (f x y h).or (g x y h)) (fun x y H Q => r x y H Q ∨ r' x y H Q) := fun w h H x y z v u Q s r1 r2 e k => by
  have e : (f x y h).or (g x y h) = some z := e
  cases q : f x y h with
  | some z' =>
    rw [q] at e
    exact .inl (o w h H x y z v u Q s r1 r2 (q.trans e) k)
  | none =>
    rw [q] at e
    exact .inr (o' w h H x y z v u Q s r1 r2 e k)

/-! ### tests -/
def mAnd (a b : MT) : MT := fun ρ h => (a ρ h).bind fun x h1 => if x = true then b ρ h1 else .ok false h1
def mOr (a b : MT) : MT := fun ρ h => (a ρ h).bind fun x h1 => if x = true then .ok true h1 else b ρ h1
def mNot (a : MT) : MT := fun ρ h => (a ρ h).bind fun x h1 => .ok (!x) h1
variable {ta tb : MT} {rest : List Expr}
theorem iw_and1 (ha : IT T X E a ta) : IW T X E (.BoolOp .And [a] pos) ta := pw_and1 ha
theorem iw_or1 (ha : IT T X E a ta) : IW T X E (.BoolOp .Or [a] pos) ta := pw_or1 ha
theorem iw_and (ha : IT T X E a ta) (hb : IW T X E (.BoolOp .And (b :: rest) pos) tb) : IW T X E (.BoolOp .And (a :: b :: rest) pos) (mAnd ta tb) :=
  PW.imp (pw_and ha hb) fun σ H Q ⟨w, ρ, h, s, en, p⟩ => ⟨w, ρ, h, s, en, Post.bind p fun x h1 w1 H1 v le s1 r1 p1 => by
    cases r1
    cases x with
    | true => exact ⟨w1, ρ, h1, s1, en.mono le, p1⟩
    | false => exact p1 w1 H1 false (Le.refl _) s1 rfl⟩
theorem iw_or (ha : IT T X E a ta) (hb : IW T X E (.BoolOp .Or (b :: rest) pos) tb) : IW T X E (.BoolOp .Or (a :: b :: rest) pos) (mOr ta tb) :=
  PW.imp (pw_or ha hb) fun σ H Q ⟨w, ρ, h, s, en, p⟩ => ⟨w, ρ, h, s, en, Post.bind p fun x h1 w1 H1 v le s1 r1 p1 => by
    cases r1
    cases x with
    | false => exact ⟨w1, ρ, h1, s1, en.mono le, p1⟩
    | true => exact p1 w1 H1 true (Le.refl _) s1 rfl⟩
theorem it_w (h : IW T X E e ta) : IT T X E e ta := h.pt
theorem it_not (ha : IT T X E a ta) : IT T X E (.UnaryOp .Not a pos) (mNot ta) :=
  PT.imp (pt_not ha) fun σ H Q ⟨w, ρ, h, s, en, p⟩ => ⟨w, ρ, h, s, en, Post.bind p fun x h1 w1 H1 v le s1 r1 p1 => by
    cases r1
    exact p1 w1 H1 _ (Le.refl _) s1 rfl⟩
/-- as values, all True or False -/
def mAndV (a b : ME) : ME := fun ρ h => (a ρ h).bind fun x h1 => match x with
  | .bl true => b ρ h1
  | .bl false => .ok (.bl false) h1
  | _ => .bad
def mOrV (a b : ME) : ME := fun ρ h => (a ρ h).bind fun x h1 => match x with
  | .bl true => .ok (.bl true) h1
  | .bl false => b ρ h1
  | _ => .bad
def mNotV (a : ME) : ME := fun ρ h => (a ρ h).bind fun x h1 => match x with
  | .bl b => .ok (.bl (!b)) h1
  | _ => .bad
theorem i_one {op} {m : ME} (h : IE T X E a m) : IE T X E (.BoolOp op [a] pos) m := pe_one h
theorem i_and (ha : IE T X E a ma) (hb : IE T X E (.BoolOp .And (b :: rest) pos) mb) : IE T X E (.BoolOp .And (a :: b :: rest) pos) (mAndV ma mb) :=
  PE.imp (pe_and ha hb) fun σ H Q ⟨w, ρ, h, s, en, p⟩ => ⟨w, ρ, h, s, en, Post.bind p fun x h1 w1 H1 v le s1 r1 p1 => by
    cases x with
    | bl c =>
      cases r1
      refine ⟨c, rfl, ?_⟩
      cases c with
      | true => exact ⟨w1, ρ, h1, s1, en.mono le, p1⟩
      | false => exact p1 w1 H1 _ (Le.refl _) s1 rfl
    | _ => exact p1.elim⟩
theorem i_or (ha : IE T X E a ma) (hb : IE T X E (.BoolOp .Or (b :: rest) pos) mb) : IE T X E (.BoolOp .Or (a :: b :: rest) pos) (mOrV ma mb) :=
  PE.imp (pe_or ha hb) fun σ H Q ⟨w, ρ, h, s, en, p⟩ => ⟨w, ρ, h, s, en, Post.bind p fun x h1 w1 H1 v le s1 r1 p1 => by
    cases x with
    | bl c =>
      cases r1
      refine ⟨c, rfl, ?_⟩
      cases c with
      | false => exact ⟨w1, ρ, h1, s1, en.mono le, p1⟩
      | true => exact p1 w1 H1 _ (Le.refl _) s1 rfl
    | _ => exact p1.elim⟩
theorem i_not (ha : IE T X E a ma) : IE T X E (.UnaryOp .Not a pos) (mNotV ma) :=
  PE.imp (pe_not ha) fun σ H Q ⟨w, ρ, h, s, en, p⟩ => ⟨w, ρ, h, s, en, Post.bind p fun x h1 w1 H1 v le s1 r1 p1 => by
    cases x with
    | bl c =>
      cases r1
      exact ⟨c, rfl, p1 w1 H1 _ (Le.refl _) s1 rfl⟩
    | _ => exact p1.elim⟩
def mIf (c : MT) (a b : ME) : ME := fun ρ h => (c ρ h).bind fun x h1 => if x = true then a ρ h1 else b ρ h1
theorem i_ifExp (hc : IT T X E c ta) (ha : IE T X E a ma) (hb : IE T X E b mb) : IE T X E (.IfExp c a b pos) (mIf ta ma mb) :=
  PE.imp (pe_ifExp hc ha hb) fun σ H Q ⟨w, ρ, h, s, en, p⟩ => ⟨w, ρ, h, s, en, Post.bind p fun x h1 w1 H1 v le s1 r1 p1 => by
    cases r1
    cases x with
    | true => exact ⟨w1, ρ, h1, s1, en.mono le, p1⟩
    | false => exact ⟨w1, ρ, h1, s1, en.mono le, p1⟩⟩
end
end Fz

namespace Fz
open PySem PySem.Spec PyProof.Rows L2

section
variable {T : Tab} {w : Wd} {h : List Cell} {H : Hp} {v : V} {l : List W}
theorem lst_at (s : StR T w h H) (r : VR T w (.lst l) v) : ∃ a vs, v = .ref a ∧ H a = some (.lst vs) ∧ VRs T w l vs := by
  obtain ⟨a, rfl, q⟩ := r
  obtain ⟨vs, h1, h2⟩ := s.fz a _ q
  exact ⟨a, vs, rfl, h1, h2⟩
theorem scr_at (s : StR T w h H) (r : VR T w (.scr l) v) : ∃ a vs, v = .ref a ∧ SqL T.K H a vs ∧ VRs T w l vs := by
  rcases r with ⟨a, rfl, q⟩ | q
  · obtain ⟨vs, h1, h2⟩ := s.fz a _ q
    exact ⟨a, vs, rfl, .inl h1, h2⟩
  · cases q with
    | scr a b => exact ⟨_, _, rfl, .inr a, b.vrs⟩
theorem tup_at (s : StR T w h H) (r : VR T w (.tup l) v) : ∃ a vs, v = .ref a ∧ SqT T.K H a vs ∧ VRs T w l vs := by
  rcases r with ⟨a, rfl, q⟩ | q
  · obtain ⟨vs, h1, h2⟩ := s.fz a _ q
    exact ⟨a, vs, rfl, .inl (.inl h1), h2⟩
  · cases q with
    | tup a b => exact ⟨_, _, rfl, .inr a, b.vrs⟩
theorem loc_at (s : StR T w h H) {n : Nat} (r : VR T w (.loc n) v) {c : Cell} (e : h[n]? = some c) : ∃ a, v = .ref a ∧ w.cl[n]? = some a ∧ COk T w H a c := by
  obtain ⟨a, rfl, q⟩ := r
  exact ⟨a, rfl, q, (s.cel n c a e q).1⟩
/-- what may be read as a list -/
def rdL (h : List Cell) : W → Option (List W)
  | .lst l => some l
  | .scr l => some l
  | .loc n => match h[n]? with
    | some (.lst l) => some l
    | _ => none
  | _ => none
def rdT : W → Option (List W)
  | .tup l => some l
  | _ => none
theorem rdL_at {x : W} (s : StR T w h H) (r : VR T w x v) (e : rdL h x = some l) : ∃ a vs, v = .ref a ∧ SqL T.K H a vs ∧ VRs T w l vs := by
  cases x with
  | lst l' =>
    cases e
    obtain ⟨a, vs, rfl, h1, h2⟩ := lst_at s r
    exact ⟨a, vs, rfl, .of h1, h2⟩
  | scr l' =>
    cases e
    exact scr_at s r
  | loc n =>
    unfold rdL at e
    dsimp only at e
    cases q : h[n]? with
    | none => rw [q] at e; cases e
    | some c =>
      rw [q] at e
      cases c with
      | lst l' =>
        cases e
        obtain ⟨a, rfl, _, vs, h1, h2⟩ := loc_at s r q
        exact ⟨a, vs, rfl, .of h1, h2⟩
      | _ => cases e
  | _ => cases e
theorem rdT_at {x : W} (s : StR T w h H) (r : VR T w x v) (e : rdT x = some l) : ∃ a vs, v = .ref a ∧ SqT T.K H a vs ∧ VRs T w l vs := by
  cases x with
  | tup l' =>
    cases e
    exact tup_at s r
  | _ => cases e
/-- a list that stands in the heap itself -/
def rdM (h : List Cell) : W → Option (List W)
  | .lst l => some l
  | .loc n => match h[n]? with
    | some (.lst l) => some l
    | _ => none
  | _ => none
theorem rdM_at {x : W} (s : StR T w h H) (r : VR T w x v) (e : rdM h x = some l) : ∃ a vs, v = .ref a ∧ H a = some (.lst vs) ∧ VRs T w l vs := by
  cases x with
  | lst l' =>
    cases e
    exact lst_at s r
  | loc n =>
    unfold rdM at e
    dsimp only at e
    cases q : h[n]? with
    | none => rw [q] at e; cases e
    | some c =>
      rw [q] at e
      cases c with
      | lst l' =>
        cases e
        obtain ⟨a, rfl, _, vs, h1, h2⟩ := loc_at s r q
        exact ⟨a, vs, rfl, h1, h2⟩
      | _ => cases e
  | _ => cases e
theorem atI_all {α β : Type} {R : α → β → Prop} {l : List α} {m : List β} (r : All2 R l m) {i : Int} {x : α} (e : atI l i = some x) : ∃ y, atI m i = some y ∧ R x y := by
  unfold atI at e ⊢
  rw [← r.length]
  cases q : ixN l.length i with
  | none => rw [q] at e; cases e
  | some j =>
    rw [q] at e
    exact r.get e
end

/-! ### arithmetic -/
section
variable {T : Tab}
def fI (g : Int → Int → Option W) : F2 := fun x y _ => match x, y with
  | .int i, .int j => g i j
  | _, _ => none
theorem oI {C : Int → Int → Prop} {g : Int → Int → V} {f : Int → Int → Option W} (k : ∀ i j z, f i j = some z → C i j ∧ ∀ w, VR T w z (g i j)) : OpI T (fI f) (rI C g) := fun w h H x y z v u Q s r1 r2 e q => by
  cases x with
  | int i =>
    cases y with
    | int j =>
      cases r1
      cases r2
      obtain ⟨c, r⟩ := k i j z e
      exact ⟨i, j, rfl, rfl, c, q w H _ (Le.refl w) s (r w)⟩
    | _ => cases e
  | _ => cases e
theorem oI0 {g : Int → Int → V} {f : Int → Int → Option W} (k : ∀ i j z, f i j = some z → ∀ w, VR T w z (g i j)) : OpI T (fI f) (rI0 g) := fun w h H x y z v u Q s r1 r2 e q => by
  cases x with
  | int i =>
    cases y with
    | int j =>
      cases r1
      cases r2
      exact ⟨i, j, rfl, rfl, q w H _ (Le.refl w) s (k i j z e w)⟩
    | _ => cases e
  | _ => cases e
abbrev fAddI : F2 := fI fun i j => some (.int (i + j))
abbrev fSubI : F2 := fI fun i j => some (.int (i - j))
def smallI (i : Int) : Bool := decide (-(2 ^ 64) < i ∧ i < 2 ^ 64)
abbrev fMulI : F2 := fI fun i j => if smallI i || smallI j then some (.int (i * j)) else none
abbrev fDivI : F2 := fI fun i j => if 0 < j ∧ j < 1073741824 then some (.int (i / j)) else none
abbrev fModI : F2 := fI fun i j => if 0 < j then some (.int (i % j)) else none
abbrev fPowI : F2 := fI fun i j => if 0 ≤ j ∧ j ≤ 1000000 ∧ i.natAbs < 2 ^ 64 then some (.int (i ^ j.toNat)) else none
theorem o_addI : OpI T fAddI (rI0 fun i j => .int (i + j)) := oI0 fun i j z e w => by cases e; rfl
theorem o_subI : OpI T fSubI (rI0 fun i j => .int (i - j)) := oI0 fun i j z e w => by cases e; rfl
theorem o_mulI : OpI T fMulI (rI CMul fun i j => .int (i * j)) := oI fun i j z e => by
  split at e
  · rename_i hc
    cases e
    refine ⟨?_, fun _ => rfl⟩
    rw [Bool.or_eq_true] at hc
    exact hc.imp (fun q => of_decide_eq_true q) fun q => of_decide_eq_true q
  · cases e
theorem o_divI : OpI T fDivI (rI CDiv fun i j => .int (i / j)) := oI fun i j z e => by
  split at e
  · rename_i hc
    cases e
    exact ⟨hc, fun _ => rfl⟩
  · cases e
theorem o_modI : OpI T fModI (rI (fun _ j => 0 < j) fun i j => .int (i % j)) := oI fun i j z e => by
  split at e
  · rename_i hc
    cases e
    exact ⟨hc, fun _ => rfl⟩
  · cases e
theorem o_powI : OpI T fPowI (rI CPow fun i j => .int (i ^ j.toNat)) := oI fun i j z e => by
  split at e
  · rename_i hc
    cases e
    exact ⟨hc, fun _ => rfl⟩
  · cases e
/-! ### texts, lists, tuples under + -/
def fAddS : F2 := fun x y _ => match x, y with
  | .str a, .str b => if a.length + b.length ≤ sizeLine then some (.str (a ++ b)) else none
  | _, _ => none
theorem o_addS : OpI T fAddS (fun x y H Q => ∃ i j, x = .str i ∧ y = .str j ∧ i.length + j.length ≤ sizeLine ∧ Q (.str (i ++ j)) H) := fun w h H x y z v u Q s r1 r2 e q => by
  cases x with
  | str i =>
    cases y with
    | str j =>
      cases r1
      cases r2
      unfold fAddS at e
      dsimp only at e
      split at e
      · rename_i hc
        cases e
        exact ⟨i, j, rfl, rfl, hc, q w H _ (Le.refl w) s rfl⟩
      · cases e
    | _ => cases e
  | _ => cases e
def fAddL : F2 := fun x y h => match rdM h x, rdM h y with
  | some a, some b => if a.length + b.length ≤ sizeLine then some (.lst (a ++ b)) else none
  | _, _ => none
theorem o_addL : OpI T fAddL rCat := fun w h H x y z v u Q s r1 r2 e q => by
  unfold fAddL at e
  cases ex : rdM h x with
  | none => rw [ex] at e; cases e
  | some a =>
    cases ey : rdM h y with
    | none => rw [ex, ey] at e; cases e
    | some b =>
      rw [ex, ey] at e
      dsimp only at e
      split at e
      · rename_i hc
        cases e
        obtain ⟨p, vs, rfl, h1, q1⟩ := rdM_at s r1 ex
        obtain ⟨p2, us, rfl, h2, q2⟩ := rdM_at s r2 ey
        refine ⟨p, p2, vs, us, rfl, rfl, h1, h2, by rw [← q1.length, ← q2.length]; exact hc, fun t ht => ?_⟩
        obtain ⟨s', le⟩ := s.frozen (o := .lst (a ++ b)) (u := .lst (vs ++ us)) ht ⟨vs ++ us, upd_same, q1.append q2⟩
        exact q _ _ _ le s' ⟨t, rfl, if_pos rfl⟩
      · cases e
def fAddT : F2 := fun x y _ => match x, y with
  | .tup a, .tup b => if a.isEmpty then none else if a.length + b.length ≤ sizeLine then some (.tup (a ++ b)) else none
  | _, _ => none
theorem o_addT : OpI T fAddT (rCatT T.K) := fun w h H x y z v u Q s r1 r2 e q => by
  cases x with
  | tup a =>
    cases y with
    | tup b =>
      unfold fAddT at e
      dsimp only at e
      cases a with
      | nil => cases e
      | cons a0 a =>
        rw [if_neg (by simp)] at e
        split at e
        · rename_i hc
          cases e
          obtain ⟨p, vs, rfl, h1, q1⟩ := tup_at s r1
          obtain ⟨p2, us, rfl, h2, q2⟩ := tup_at s r2
          refine ⟨p, p2, vs, us, rfl, rfl, h1, h2, fun z => ?_, by rw [← q1.length, ← q2.length]; exact hc, fun z => ?_, fun _ t ht => ?_⟩
          · have := q1.length
            rw [z] at this
            cases this
          · have hb : b = [] := List.length_eq_zero_iff.mp (by rw [q2.length, z]; rfl)
            subst hb
            rw [List.append_nil] at q
            exact q w H _ (Le.refl w) s r1
          · obtain ⟨s', le⟩ := s.frozen (o := .tup (a0 :: a ++ b)) (u := .tup (vs ++ us)) ht ⟨vs ++ us, upd_same, q1.append q2⟩
            exact q _ _ _ le s' (.inl ⟨t, rfl, if_pos rfl⟩)
        · cases e
    | _ => cases e
  | _ => cases e
/-- + by its arguments -/
def fAdd : F2 := fun x y h => match x with
  | .int _ => fAddI x y h
  | .str _ => fAddS x y h
  | .tup _ => fAddT x y h
  | _ => fAddL x y h
def rAddA (K : PySem.W.Frag) : R2 := fun x y H Q => (rI0 fun i j => .int (i + j)) x y H Q ∨ (∃ i j, x = .str i ∧ y = .str j ∧ i.length + j.length ≤ sizeLine ∧ Q (.str (i ++ j)) H) ∨ rCatT K x y H Q ∨ rCat x y H Q
theorem op_addA {X : Cx} : OpR X (binaryOp .Add) (rAddA X.K) := op_add.or (op_add_str.or (op_catT.or op_cat))
theorem o_add : OpI T fAdd (rAddA T.K) := fun w h H x y z v u Q s r1 r2 e q => by
  cases x with
  | int i => exact .inl (o_addI w h H _ y z v u Q s r1 r2 e q)
  | str i => exact .inr (.inl (o_addS w h H _ y z v u Q s r1 r2 e q))
  | tup i => exact .inr (.inr (.inl (o_addT w h H _ y z v u Q s r1 r2 e q)))
  | _ => exact .inr (.inr (.inr (o_addL w h H _ y z v u Q s r1 r2 e q)))
/-- list * int -/
def fMulL : F2 := fun x y h => match rdM h x, y with
  | some a, .int k => if -(2 ^ 63) ≤ k ∧ k < 2 ^ 63 ∧ a.length * k.toNat ≤ sizeLine then some (.lst (List.replicate k.toNat a).flatten) else none
  | _, _ => none
theorem rep_all {α β : Type} {R : α → β → Prop} {l : List α} {m : List β} (r : All2 R l m) : ∀ k : Nat, All2 R (List.replicate k l).flatten (List.replicate k m).flatten
  | 0 => .nil
  | k + 1 => by
    rw [List.replicate_succ, List.replicate_succ, List.flatten_cons, List.flatten_cons]
    exact r.append (rep_all r k)
theorem o_mulL : OpI T fMulL rRep := fun w h H x y z v u Q s r1 r2 e q => by
  unfold fMulL at e
  cases ex : rdM h x with
  | none => rw [ex] at e; cases e
  | some a =>
    rw [ex] at e
    cases y with
    | int k =>
      dsimp only at e
      split at e
      · rename_i hc
        cases e
        cases r2
        obtain ⟨p, vs, rfl, h1, q1⟩ := rdM_at s r1 ex
        refine ⟨p, k, vs, rfl, rfl, h1, hc.1, hc.2.1, by rw [← q1.length]; exact hc.2.2, fun t ht => ?_⟩
        obtain ⟨s', le⟩ := s.frozen (o := .lst (List.replicate k.toNat a).flatten) (u := .lst (List.replicate k.toNat vs).flatten) ht ⟨_, upd_same, rep_all q1 _⟩
        exact q _ _ _ le s' ⟨t, rfl, if_pos rfl⟩
      · cases e
    | _ => cases e
def fMul : F2 := fun x y h => match x with
  | .int _ => fMulI x y h
  | _ => fMulL x y h
theorem o_mul : OpI T fMul (fun x y H Q => (rI CMul fun i j => .int (i * j)) x y H Q ∨ rRep x y H Q) := fun w h H x y z v u Q s r1 r2 e q => by
  cases x with
  | int i => exact .inl (o_mulI w h H _ y z v u Q s r1 r2 e q)
  | _ => exact .inr (o_mulL w h H _ y z v u Q s r1 r2 e q)
end

/-! ### comparisons -/
section
variable {T : Tab}
def scalW : W → W → Option Bool
  | .non, .non => some true
  | .non, .int _ => some false
  | .int _, .non => some false
  | .non, .bl _ => some false
  | .bl _, .non => some false
  | .non, .str _ => some false
  | .str _, .non => some false
  | .int i, .int j => some (decide (i = j))
  | .bl i, .bl j => some (decide (i = j))
  | .str i, .str j => some (decide (i = j))
  | .int _, .str _ => some false
  | .str _, .int _ => some false
  | .bl _, .str _ => some false
  | .str _, .bl _ => some false
  | _, _ => none
theorem scalW_ok {w : Wd} {x y : W} {v u : V} {b : Bool} (r1 : VR T w x v) (r2 : VR T w y u) (e : scalW x y = some b) : scal v u = true ∧ decide (v = u) = b := by
  cases x <;> cases y <;> first | (cases e; done) | skip
  all_goals (cases r1; cases r2; cases e; refine ⟨rfl, ?_⟩)
  all_goals first | rfl | (simp; done) | skip
mutual
def toD : W → Option PyData
  | .non => some .none
  | .bl b => some (.bool b)
  | .int i => some (.int i)
  | .str s => some (.str s)
  | .tup l => match toDs l with
    | some ds => some (.tuple ds)
    | none => none
  | .lst l => match toDs l with
    | some ds => some (.list ds)
    | none => none
  | .scr l => match toDs l with
    | some ds => some (.list ds)
    | none => none
  | .ins _ _ => none
  | .loc _ => none
  | .cls _ => none
  | .ty _ => none
def toDs : List W → Option (List PyData)
  | [] => some []
  | x :: r => match toD x, toDs r with
    | some d, some ds => some (d :: ds)
    | _, _ => none
end
mutual
theorem toD_ok {w : Wd} {h : List Cell} {H : Hp} (s : StR T w h H) : ∀ (x : W) {v : V} {d : PyData}, VR T w x v → toD x = some d → Dp T.K H v d
  | .non, _, _, r, e => by cases e; cases r; exact .non
  | .bl b, _, _, r, e => by cases e; cases r; exact .bl b
  | .int i, _, _, r, e => by cases e; cases r; exact .int i
  | .str x, _, _, r, e => by cases e; cases r; exact .str x
  | .tup l, v, d, r, e => by
    unfold toD at e
    cases q : toDs l with
    | none => rw [q] at e; cases e
    | some ds =>
      rw [q] at e
      cases e
      obtain ⟨a, vs, rfl, h1, h2⟩ := tup_at s r
      exact .tup h1 (toDs_ok s l h2 q)
  | .lst l, v, d, r, e => by
    unfold toD at e
    cases q : toDs l with
    | none => rw [q] at e; cases e
    | some ds =>
      rw [q] at e
      cases e
      obtain ⟨a, vs, rfl, h1, h2⟩ := lst_at s r
      exact .lst (.of h1) (toDs_ok s l h2 q)
  | .scr l, v, d, r, e => by
    unfold toD at e
    cases q : toDs l with
    | none => rw [q] at e; cases e
    | some ds =>
      rw [q] at e
      cases e
      obtain ⟨a, vs, rfl, h1, h2⟩ := scr_at s r
      exact .lst h1 (toDs_ok s l h2 q)
  | .ins _ _, _, _, _, e => by cases e
  | .loc _, _, _, _, e => by cases e
  | .cls _, _, _, _, e => by cases e
  | .ty _, _, _, _, e => by cases e
theorem toDs_ok {w : Wd} {h : List Cell} {H : Hp} (s : StR T w h H) : ∀ (l : List W) {vs : List V} {ds : List PyData}, VRs T w l vs → toDs l = some ds → DpAll T.K H vs ds
  | [], _, _, r, e => by cases e; cases r; exact .nil
  | x :: l, _, _, r, e => by
    unfold toDs at e
    cases q : toD x with
    | none => rw [q] at e; cases e
    | some d =>
      cases q2 : toDs l with
      | none => rw [q, q2] at e; cases e
      | some ds =>
        rw [q, q2] at e
        cases e
        cases r with
        | cons r1 r2 => exact .cons (toD_ok s x r1 q) (toDs_ok s l r2 q2)
end
def toDH (h : List Cell) (x : W) : Option PyData := match x with
  | .loc n => (match h[n]? with
    | some (.lst l) => (match toDs l with
      | some ds => some (.list ds)
      | none => none)
    | _ => none)
  | _ => toD x
theorem toDH_ok {w : Wd} {h : List Cell} {H : Hp} (s : StR T w h H) {x : W} {v : V} {d : PyData} (r : VR T w x v) (e : toDH h x = some d) : Dp T.K H v d := by
  unfold toDH at e
  cases x with
  | loc n =>
    dsimp only at e
    cases q : h[n]? with
    | none => rw [q] at e; cases e
    | some c =>
      rw [q] at e
      cases c with
      | lst l =>
        dsimp only at e
        cases q2 : toDs l with
        | none => rw [q2] at e; cases e
        | some ds =>
          rw [q2] at e
          cases e
          obtain ⟨a, rfl, _, vs, h1, h2⟩ := loc_at s r q
          exact .lst (.of h1) (toDs_ok s l h2 q2)
      | _ => cases e
  | _ => exact toD_ok s _ r e
def eqD (h : List Cell) (x y : W) : Option Bool := match toDH h x, toDH h y with
  | some d, some e => if SeqAt.shaped d && SeqAt.shaped e then some (PyData.eqv d e) else none
  | _, _ => none
theorem eqD_ok {w : Wd} {h : List Cell} {H : Hp} (s : StR T w h H) {x y : W} {v u : V} {b : Bool} (r1 : VR T w x v) (r2 : VR T w y u) (e : eqD h x y = some b) :
    ∃ d d', Dp T.K H v d ∧ Dp T.K H u d' ∧ SeqAt.shaped d = true ∧ SeqAt.shaped d' = true ∧ PyData.eqv d d' = b := by
  unfold eqD at e
  cases q : toDH h x with
  | none => rw [q] at e; cases e
  | some d =>
    cases q2 : toDH h y with
    | none => rw [q, q2] at e; cases e
    | some d' =>
      rw [q, q2] at e
      dsimp only at e
      split at e
      · rename_i hc
        rw [Bool.and_eq_true] at hc
        cases e
        exact ⟨d, d', toDH_ok s r1 q, toDH_ok s r2 q2, hc.1, hc.2, rfl⟩
      · cases e
/-- x == y -/
def eqW (h : List Cell) (x y : W) : Option Bool := match scalW x y with
  | some b => some b
  | none => eqD h x y
def fEq : F2 := fun x y h => (eqW h x y).map .bl
def fNe : F2 := fun x y h => (eqW h x y).map fun b => .bl (!b)
def rEqA (K : PySem.W.Frag) : R2 := fun x y H Q => rEq x y H Q ∨ rEqD K x y H Q
def rNeA (K : PySem.W.Frag) : R2 := fun x y H Q => rNe x y H Q ∨ rNeD K x y H Q
theorem op_eqA {X : Cx} (hu : X.A.units + 64 < cLine) : OpR X (compareOp .Eq) (rEqA X.K) := op_eq.or (op_eqD hu)
theorem op_neA {X : Cx} (hu : X.A.units + 64 < cLine) : OpR X (compareOp .NotEq) (rNeA X.K) := op_ne.or (op_neD hu)
theorem o_eq : OpI T fEq (rEqA T.K) := fun w h H x y z v u Q s r1 r2 e q => by
  unfold fEq eqW at e
  cases es : scalW x y with
  | some b =>
    rw [es] at e
    cases e
    obtain ⟨h1, h2⟩ := scalW_ok r1 r2 es
    exact .inl ⟨h1, q w H _ (Le.refl w) s (by show V.bl _ = V.bl b; rw [h2])⟩
  | none =>
    rw [es] at e
    dsimp only at e
    cases ed : eqD h x y with
    | none => rw [ed] at e; cases e
    | some b =>
      rw [ed] at e
      cases e
      obtain ⟨d, d', h1, h2, h3, h4, h5⟩ := eqD_ok s r1 r2 ed
      exact .inr ⟨d, d', h1, h2, h3, h4, q w H _ (Le.refl w) s (by show V.bl _ = V.bl b; rw [h5])⟩
theorem o_ne : OpI T fNe (rNeA T.K) := fun w h H x y z v u Q s r1 r2 e q => by
  unfold fNe eqW at e
  cases es : scalW x y with
  | some b =>
    rw [es] at e
    cases e
    obtain ⟨h1, h2⟩ := scalW_ok r1 r2 es
    exact .inl ⟨h1, q w H _ (Le.refl w) s (by show V.bl _ = V.bl (!b); rw [h2])⟩
  | none =>
    rw [es] at e
    dsimp only at e
    cases ed : eqD h x y with
    | none => rw [ed] at e; cases e
    | some b =>
      rw [ed] at e
      cases e
      obtain ⟨d, d', h1, h2, h3, h4, h5⟩ := eqD_ok s r1 r2 ed
      exact .inr ⟨d, d', h1, h2, h3, h4, q w H _ (Le.refl w) s (by show V.bl _ = V.bl (!b); rw [h5])⟩
abbrev fLt : F2 := fI fun i j => some (.bl (decide (i < j)))
abbrev fLe : F2 := fI fun i j => some (.bl (decide (i ≤ j)))
abbrev fGt : F2 := fI fun i j => some (.bl (decide (j < i)))
abbrev fGe : F2 := fI fun i j => some (.bl (decide (j ≤ i)))
theorem o_lt : OpI T fLt (rI0 fun i j => .bl (decide (i < j))) := oI0 fun i j z e w => by cases e; rfl
theorem o_le : OpI T fLe (rI0 fun i j => .bl (decide (i ≤ j))) := oI0 fun i j z e w => by cases e; rfl
theorem o_gt : OpI T fGt (rI0 fun i j => .bl (decide (j < i))) := oI0 fun i j z e w => by cases e; rfl
theorem o_ge : OpI T fGe (rI0 fun i j => .bl (decide (j ≤ i))) := oI0 fun i j z e w => by cases e; rfl
/-- x is None, x is not None -/
def isNon : W → Bool
  | .non => true
  | _ => false
theorem isNon_ok {w : Wd} {x : W} {v : V} (r : VR T w x v) : decide (v = .non) = isNon x := by
  cases x with
  | non => cases r; rfl
  | tup l =>
    rcases r with ⟨a, rfl, _⟩ | r
    · rfl
    · cases r; rfl
  | scr l =>
    rcases r with ⟨a, rfl, _⟩ | r
    · rfl
    · cases r; rfl
  | lst l => obtain ⟨a, rfl, _⟩ := r; rfl
  | ins c vs => obtain ⟨a, rfl, _⟩ := r; rfl
  | loc n => obtain ⟨a, rfl, _⟩ := r; rfl
  | _ => cases r; rfl
def fIsN : F2 := fun x y _ => match y with
  | .non => some (.bl (isNon x))
  | _ => none
def fNotN : F2 := fun x y _ => match y with
  | .non => some (.bl (!isNon x))
  | _ => none
theorem o_isN : OpI T fIsN (fun x y H Q => y = .non ∧ Q (.bl (decide (x = .non))) H) := fun w h H x y z v u Q s r1 r2 e q => by
  cases y with
  | non =>
    cases e
    exact ⟨r2, q w H _ (Le.refl w) s (by show V.bl _ = V.bl _; rw [isNon_ok r1])⟩
  | _ => cases e
theorem o_notN : OpI T fNotN (fun x y H Q => y = .non ∧ Q (.bl (!decide (x = .non))) H) := fun w h H x y z v u Q s r1 r2 e q => by
  cases y with
  | non =>
    cases e
    exact ⟨r2, q w H _ (Le.refl w) s (by show V.bl _ = V.bl _; rw [isNon_ok r1])⟩
  | _ => cases e
/-- x in a list or tuple of flat things -/
def flatW : W → Option V
  | .non => some .non
  | .bl b => some (.bl b)
  | .int i => some (.int i)
  | .str s => some (.str s)
  | _ => none
def flatWs : List W → Option (List V)
  | [] => some []
  | x :: r => match flatW x, flatWs r with
    | some v, some vs => some (v :: vs)
    | _, _ => none
theorem flatW_ok {w : Wd} {x : W} {v v' : V} (r : VR T w x v) (e : flatW x = some v') : v' = v ∧ flatV v = true := by
  cases x <;> first | (cases e; done) | (cases e; cases r; exact ⟨rfl, rfl⟩)
theorem flatWs_ok {w : Wd} : ∀ {l : List W} {vs vs' : List V}, VRs T w l vs → flatWs l = some vs' → vs' = vs ∧ vs.all flatV = true
  | [], _, _, r, e => by cases e; cases r; exact ⟨rfl, rfl⟩
  | x :: l, _, _, r, e => by
    unfold flatWs at e
    cases q : flatW x with
    | none => rw [q] at e; cases e
    | some d =>
      cases q2 : flatWs l with
      | none => rw [q, q2] at e; cases e
      | some ds =>
        rw [q, q2] at e
        cases e
        cases r with
        | cons r1 r2 =>
          obtain ⟨rfl, f1⟩ := flatW_ok r1 q
          obtain ⟨rfl, f2⟩ := flatWs_ok r2 q2
          exact ⟨rfl, by rw [List.all_cons, f1, f2]; rfl⟩
/-- the items of a list or a tuple -/
def rdS (h : List Cell) (x : W) : Option (List W) := match x with
  | .tup l => some l
  | _ => rdL h x
def inW (h : List Cell) (x y : W) : Option Bool := match flatW x, rdS h y with
  | some v, some l => (match flatWs l with
    | some vs => some (inV v vs)
    | none => none)
  | _, _ => none
theorem rdS_at {w : Wd} {h : List Cell} {H : Hp} {v : V} {l : List W} {x : W} (s : StR T w h H) (r : VR T w x v) (e : rdS h x = some l) : ∃ a vs, v = .ref a ∧ (SqL T.K H a vs ∨ SqT T.K H a vs) ∧ VRs T w l vs := by
  cases x with
  | tup l' =>
    cases e
    obtain ⟨a, vs, rfl, h1, h2⟩ := tup_at s r
    exact ⟨a, vs, rfl, .inr h1, h2⟩
  | _ =>
    obtain ⟨a, vs, rfl, h1, h2⟩ := rdL_at s r e
    exact ⟨a, vs, rfl, .inl h1, h2⟩
theorem inW_ok {w : Wd} {h : List Cell} {H : Hp} (s : StR T w h H) {x y : W} {v u : V} {b : Bool} (r1 : VR T w x v) (r2 : VR T w y u) (e : inW h x y = some b) :
    ∃ p xs, u = .ref p ∧ (SqL T.K H p xs ∨ SqT T.K H p xs) ∧ flatV v = true ∧ xs.all flatV = true ∧ inV v xs = b := by
  unfold inW at e
  cases q : flatW x with
  | none => rw [q] at e; cases e
  | some v' =>
    cases q2 : rdS h y with
    | none => rw [q, q2] at e; cases e
    | some l =>
      rw [q, q2] at e
      dsimp only at e
      cases q3 : flatWs l with
      | none => rw [q3] at e; cases e
      | some vs' =>
        rw [q3] at e
        cases e
        obtain ⟨rfl, f1⟩ := flatW_ok r1 q
        obtain ⟨a, vs, rfl, h1, h2⟩ := rdS_at s r2 q2
        obtain ⟨rfl, f2⟩ := flatWs_ok h2 q3
        exact ⟨a, _, rfl, h1, f1, f2, rfl⟩
def fIn : F2 := fun x y h => (inW h x y).map .bl
def fNotIn : F2 := fun x y h => (inW h x y).map fun b => .bl (!b)
theorem o_in : OpI T fIn (rIn T.K false) := fun w h H x y z v u Q s r1 r2 e q => by
  unfold fIn at e
  cases es : inW h x y with
  | none => rw [es] at e; cases e
  | some b =>
    rw [es] at e
    cases e
    obtain ⟨p, xs, rfl, h1, h2, h3, h4⟩ := inW_ok s r1 r2 es
    exact ⟨p, xs, rfl, h1, h2, h3, q w H _ (Le.refl w) s (by show V.bl _ = V.bl b; rw [h4]; rfl)⟩
theorem o_notIn : OpI T fNotIn (rIn T.K true) := fun w h H x y z v u Q s r1 r2 e q => by
  unfold fNotIn at e
  cases es : inW h x y with
  | none => rw [es] at e; cases e
  | some b =>
    rw [es] at e
    cases e
    obtain ⟨p, xs, rfl, h1, h2, h3, h4⟩ := inW_ok s r1 r2 es
    exact ⟨p, xs, rfl, h1, h2, h3, q w H _ (Le.refl w) s (by show V.bl _ = V.bl (!b); rw [h4]; rfl)⟩
end
end Fz

namespace Fz
open PySem PySem.Spec PyProof.Rows L2

section
variable {T : Tab} {X : Cx} {E : WX} {n : Nat} {a b c e : Expr} {ma mb mc m : ME} {pos : Pos} {ta tb : MT}
/-! ### the operators as rules -/
theorem i_add (ha : IE T X E a ma) (hb : IE T X E b mb) (G : Gd T X E n) : IE T X E (.BinOp a .Add b pos) (mOp fAdd ma mb) := i_op op_addA (G.K ▸ o_add) ha hb
theorem i_sub (ha : IE T X E a ma) (hb : IE T X E b mb) : IE T X E (.BinOp a .Sub b pos) (mOp fSubI ma mb) := i_op op_sub o_subI ha hb
theorem i_mul (ha : IE T X E a ma) (hb : IE T X E b mb) : IE T X E (.BinOp a .Mult b pos) (mOp fMul ma mb) := i_op (op_mul.or op_rep) o_mul ha hb
theorem i_fdiv (ha : IE T X E a ma) (hb : IE T X E b mb) : IE T X E (.BinOp a .FloorDiv b pos) (mOp fDivI ma mb) := i_op op_fdiv o_divI ha hb
theorem i_mod (ha : IE T X E a ma) (hb : IE T X E b mb) : IE T X E (.BinOp a .Mod b pos) (mOp fModI ma mb) := i_op op_mod o_modI ha hb
theorem i_pow (ha : IE T X E a ma) (hb : IE T X E b mb) : IE T X E (.BinOp a .Pow b pos) (mOp fPowI ma mb) := i_op op_pow o_powI ha hb
theorem i_lt (ha : IE T X E a ma) (hb : IE T X E b mb) : IE T X E (.Compare a [.Lt] [b] pos) (mOp fLt ma mb) := i_cmp op_lt o_lt (nomark _) ha hb
theorem i_le (ha : IE T X E a ma) (hb : IE T X E b mb) : IE T X E (.Compare a [.LtE] [b] pos) (mOp fLe ma mb) := i_cmp op_le o_le (nomark _) ha hb
theorem i_gt (ha : IE T X E a ma) (hb : IE T X E b mb) : IE T X E (.Compare a [.Gt] [b] pos) (mOp fGt ma mb) := i_cmp op_gt o_gt (nomark _) ha hb
theorem i_ge (ha : IE T X E a ma) (hb : IE T X E b mb) : IE T X E (.Compare a [.GtE] [b] pos) (mOp fGe ma mb) := i_cmp op_ge o_ge (nomark _) ha hb
theorem i_eq (ha : IE T X E a ma) (hb : IE T X E b mb) (G : Gd T X E n) : IE T X E (.Compare a [.Eq] [b] pos) (mOp fEq ma mb) := i_cmp (op_eqA G.room.units) (G.K ▸ o_eq) (nomark _) ha hb
theorem i_ne (ha : IE T X E a ma) (hb : IE T X E b mb) (G : Gd T X E n) : IE T X E (.Compare a [.NotEq] [b] pos) (mOp fNe ma mb) := i_cmp (op_neA G.room.units) (G.K ▸ o_ne) (nomark _) ha hb
theorem i_isN (ha : IE T X E a ma) (hb : IE T X E b mb) : IE T X E (.Compare a [.Is] [b] pos) (mOp fIsN ma mb) := i_cmp op_isN o_isN (nomark _) ha hb
theorem i_notN (ha : IE T X E a ma) (hb : IE T X E b mb) : IE T X E (.Compare a [.IsNot] [b] pos) (mOp fNotN ma mb) := i_cmp op_notN o_notN (nomark _) ha hb
theorem i_in (ha : IE T X E a ma) (hb : IE T X E b mb) (G : Gd T X E n) (hm : behindInMarks .In b = false := by rfl) : IE T X E (.Compare a [.In] [b] pos) (mOp fIn ma mb) := i_cmp op_in_seq (G.K ▸ o_in) hm ha hb
theorem i_notIn (ha : IE T X E a ma) (hb : IE T X E b mb) (G : Gd T X E n) (hm : behindInMarks .NotIn b = false := by rfl) : IE T X E (.Compare a [.NotIn] [b] pos) (mOp fNotIn ma mb) := i_cmp op_notIn_seq (G.K ▸ o_notIn) hm ha hb
theorem it_lt (ha : IE T X E a ma) (hb : IE T X E b mb) : IT T X E (.Compare a [.Lt] [b] pos) (mTst (mOp fLt ma mb)) := it_cmp op_lt o_lt (nomark _) ha hb
theorem it_le (ha : IE T X E a ma) (hb : IE T X E b mb) : IT T X E (.Compare a [.LtE] [b] pos) (mTst (mOp fLe ma mb)) := it_cmp op_le o_le (nomark _) ha hb
theorem it_gt (ha : IE T X E a ma) (hb : IE T X E b mb) : IT T X E (.Compare a [.Gt] [b] pos) (mTst (mOp fGt ma mb)) := it_cmp op_gt o_gt (nomark _) ha hb
theorem it_ge (ha : IE T X E a ma) (hb : IE T X E b mb) : IT T X E (.Compare a [.GtE] [b] pos) (mTst (mOp fGe ma mb)) := it_cmp op_ge o_ge (nomark _) ha hb
theorem it_eq (ha : IE T X E a ma) (hb : IE T X E b mb) (G : Gd T X E n) : IT T X E (.Compare a [.Eq] [b] pos) (mTst (mOp fEq ma mb)) := it_cmp (op_eqA G.room.units) (G.K ▸ o_eq) (nomark _) ha hb
theorem it_ne (ha : IE T X E a ma) (hb : IE T X E b mb) (G : Gd T X E n) : IT T X E (.Compare a [.NotEq] [b] pos) (mTst (mOp fNe ma mb)) := it_cmp (op_neA G.room.units) (G.K ▸ o_ne) (nomark _) ha hb
theorem it_isN (ha : IE T X E a ma) (hb : IE T X E b mb) : IT T X E (.Compare a [.Is] [b] pos) (mTst (mOp fIsN ma mb)) := it_cmp op_isN o_isN (nomark _) ha hb
theorem it_notN (ha : IE T X E a ma) (hb : IE T X E b mb) : IT T X E (.Compare a [.IsNot] [b] pos) (mTst (mOp fNotN ma mb)) := it_cmp op_notN o_notN (nomark _) ha hb
theorem it_in (ha : IE T X E a ma) (hb : IE T X E b mb) (G : Gd T X E n) (hm : behindInMarks .In b = false := by rfl) : IT T X E (.Compare a [.In] [b] pos) (mTst (mOp fIn ma mb)) := it_cmp op_in_seq (G.K ▸ o_in) hm ha hb
theorem it_notIn (ha : IE T X E a ma) (hb : IE T X E b mb) (G : Gd T X E n) (hm : behindInMarks .NotIn b = false := by rfl) : IT T X E (.Compare a [.NotIn] [b] pos) (mTst (mOp fNotIn ma mb)) := it_cmp op_notIn_seq (G.K ▸ o_notIn) hm ha hb
/-- a op b op' c -/
def mChain (f g : F2) (ma mb mc : ME) : ME := fun ρ h => (ma ρ h).bind fun x h1 => (mb ρ h1).bind fun y h2 => match f x y h2 with
  | some (.bl true) => (mc ρ h2).bind fun z h3 => R.ofO (g y z h3) h3
  | some (.bl false) => .ok (.bl false) h2
  | _ => .bad
theorem chain_of {f g : F2} {r r' : R2} (o : OpI T f r) (o' : OpI T g r') {σ : L2.St} {H : Hp} {Q : VK} (q : teI T E (mChain f g ma mb mc) σ H Q) : tChain r r' (teI T E ma) (teI T E mb) (teI T E mc) σ H Q := by
  obtain ⟨w, ρ, h, s, en, p⟩ := q
  refine ⟨w, ρ, h, s, en, Post.bind p fun x h1 w1 H1 v le s1 r1 p1 => ⟨w1, ρ, h1, s1, en.mono le, Post.bind p1 fun y h2 w2 H2 u le2 s2 r2 p2 => ?_⟩⟩
  cases ez : f x y h2 with
  | none => rw [ez] at p2; exact p2.elim
  | some z =>
    rw [ez] at p2
    refine o w2 h2 H2 x y z v u _ s2 (r1.mono le2) r2 ez fun w3 H3 o3 l3 s3 r3 => ?_
    cases z with
    | bl k =>
      cases r3
      refine ⟨k, rfl, ?_⟩
      cases k with
      | true =>
        refine ⟨w3, ρ, h2, s3, en.mono (le.trans (le2.trans l3)), Post.bind (Post.mono l3 p2) fun z h4 w4 H4 v4 le4 s4 r4 p4 => ?_⟩
        cases eg : g y z h4 with
        | none => rw [eg] at p4; exact p4.elim
        | some z' =>
          rw [eg] at p4
          exact o' w4 h4 H4 y z z' u v4 Q s4 (r2.mono (l3.trans le4)) r4 eg fun w' H' o l s' r' => p4 w' H' o l s' r'
      | false => exact p2 w3 H3 _ l3 s3 rfl
    | _ => exact p2.elim
theorem it_chain {op op' : CmpOp} {f g : F2} {r r' : R2} (ho : OpR X (compareOp op) r) (ho' : OpR X (compareOp op') r') (o : OpI T f r) (o' : OpI T g r') (ha : IE T X E a ma) (hb : IE T X E b mb) (hc : IE T X E c mc)
    (hm : lastMarks [op, op'] [b, c] = false := by with_unfolding_all rfl) : IT T X E (.Compare a [op, op'] [b, c] pos) (mTst (mChain f g ma mb mc)) := PT.imp (pt_chain ho ho' ha hb hc hm) fun _ _ _ q => tTest_of (fun _ _ _ q => chain_of o o' q) q
theorem i_chain {op op' : CmpOp} {f g : F2} {r r' : R2} (ho : OpR X (compareOp op) r) (ho' : OpR X (compareOp op') r') (o : OpI T f r) (o' : OpI T g r') (ha : IE T X E a ma) (hb : IE T X E b mb) (hc : IE T X E c mc)
    (hm : lastMarks [op, op'] [b, c] = false := by with_unfolding_all rfl) : IE T X E (.Compare a [op, op'] [b, c] pos) (mChain f g ma mb mc) := PE.imp (pe_chain ho ho' ha hb hc hm) fun _ _ _ q => chain_of o o' q
/-- -a -/
def mNeg (m : ME) : ME := fun ρ h => (m ρ h).bind fun x h1 => match x with
  | .int i => .ok (.int (-i)) h1
  | _ => .bad
theorem i_neg (ha : IE T X E a ma) : IE T X E (.UnaryOp .USub a pos) (mNeg ma) :=
  PE.imp (pe_un un_neg ha) fun σ H Q ⟨w, ρ, h, s, en, p⟩ => ⟨w, ρ, h, s, en, Post.bind p fun x h1 w1 H1 v le s1 r1 p1 => by
    cases x with
    | int i =>
      cases r1
      exact ⟨i, rfl, p1 w1 H1 _ (Le.refl _) s1 rfl⟩
    | _ => exact p1.elim⟩

/-! ### subscripts -/
def fIx : F2 := fun x y h => match y with
  | .int i => (match x with
    | .tup l => atI l i
    | .str s => if s.length ≤ sizeLine then (match atI s.cps.toList i with
      | some c => some (.str ⟨#[c]⟩)
      | none => none) else none
    | _ => (match rdL h x with
      | some l => atI l i
      | none => none))
  | _ => none
theorem o_ix : OpI T fIx (rIx T.K) := fun w h H x y z v u Q s r1 r2 e q => by
  cases y with
  | int i =>
    cases r2
    have lst : ∀ {x : W}, VR T w x v → (match rdL h x with | some l => atI l i | none => none) = some z → rIx T.K v (.int i) H Q := fun {x} r1 e => by
      cases ex : rdL h x with
      | none => rw [ex] at e; cases e
      | some l =>
        rw [ex] at e
        obtain ⟨a, vs, rfl, h1, h2⟩ := rdL_at s r1 ex
        obtain ⟨z', e1, r⟩ := atI_all h2 e
        exact .inl ⟨a, vs, i, z', rfl, rfl, h1, e1, q w H _ (Le.refl w) s r⟩
    cases x with
    | tup l =>
      obtain ⟨a, vs, rfl, h1, h2⟩ := tup_at s r1
      obtain ⟨z', e1, r⟩ := atI_all h2 (show atI l i = some z from e)
      exact .inr (.inl ⟨a, vs, i, z', rfl, rfl, h1, e1, q w H _ (Le.refl w) s r⟩)
    | str t =>
      cases r1
      unfold fIx at e
      dsimp only at e
      split at e
      · rename_i hc
        cases ea : atI t.cps.toList i with
        | none => rw [ea] at e; cases e
        | some k =>
          rw [ea] at e
          cases e
          exact .inr (.inr ⟨t, i, k, rfl, rfl, hc, ea, q w H _ (Le.refl w) s rfl⟩)
      · cases e
    | _ => exact lst r1 e
  | _ => cases e
theorem i_ix (ha : IE T X E a ma) (hb : IE T X E b mb) (G : Gd T X E n) (hs : PlainIx b := by exact fun _ _ => rfl) : IE T X E (.Subscript a b pos) (mOp fIx ma mb) := PE.imp (pe_ix ix_seq ha hb hs) fun _ _ _ q => by
  rw [G.K]
  exact tOp_of o_ix q
/-- a part of a slice -/
abbrev MO := EnvW → List Cell → R (Option Int)
def relO (_ : Wd) (a b : Option Int) : Prop := b = a
def toI (T : Tab) (E : WX) (m : MO) : TO := fun σ H Q => ∃ w ρ h, StR T w h H ∧ EnvR T w ρ σ ∧ Post T relO w Q (fun c d H' => E c d σ H') (m ρ h)
def mNoP : MO := fun _ h => .ok none h
def mPart (m : ME) : MO := fun ρ h => (m ρ h).bind fun x h1 => match x with
  | .int i => .ok (some i) h1
  | _ => .bad
theorem PO.imp {e : Option Expr} {t t' : TO} (h : PO X e t) (k : ∀ σ H Q, t' σ H Q → t σ H Q) : PO X e t' := ⟨fun pins s σ H Q I q => h.run pins s σ H Q I (k σ H Q q)⟩
theorem io_none : PO X none (toI T E mNoP) := PO.imp po_none fun σ H Q ⟨w, ρ, h, s, en, p⟩ => p w H none (Le.refl w) s rfl
theorem io_some (ha : IE T X E a ma) : PO X (some a) (toI T E (mPart ma)) := PO.imp (po_some ha) fun σ H Q ⟨w, ρ, h, s, en, p⟩ => ⟨w, ρ, h, s, en, Post.bind p fun x h1 w1 H1 v le s1 r1 p1 => by
    cases x with
    | int i =>
      cases r1
      exact ⟨i, rfl, p1 w1 H1 _ (Le.refl _) s1 rfl⟩
    | _ => exact p1.elim⟩
def cutW (l : List W) (lo hi : Option Int) : List W := (l.drop (HT.sIx l.length 0 lo)).take (HT.sIx l.length l.length hi - HT.sIx l.length 0 lo)
theorem cut_all {w : Wd} {l : List W} {vs : List V} (r : VRs T w l vs) (lo hi : Option Int) : VRs T w (cutW l lo hi) (cutV vs lo hi) := by
  unfold cutW cutV
  rw [← r.length]
  exact (r.drop _).take _
/-- x[lo:hi]: of a list a new one, of a text, of a tuple -/
def fSl (h : List Cell) (x : W) (lo hi : Option Int) : Option W := match x with
  | .str s => if s.length ≤ sizeLine then some (.str (cutS s lo hi)) else none
  | .tup l => if HT.sIx l.length 0 lo = 0 ∧ HT.sIx l.length l.length hi = l.length then none else some (.tup (cutW l lo hi))
  | _ => match rdL h x with
    | some l => some (.lst (cutW l lo hi))
    | none => none
def rSl (K : PySem.W.Frag) : V → Option Int → Option Int → Hp → VK → Prop := fun x lo hi H Q => rSlL K x lo hi H Q ∨ rSlT K x lo hi H Q ∨ rSlS x lo hi H Q
theorem sl_any : SlR X (rSl X.K) := sl_list.or (sl_tup.or sl_str)
theorem fSl_ok {w : Wd} {h : List Cell} {H : Hp} {x z : W} {v : V} {lo hi : Option Int} {Q : VK} (s : StR T w h H) (r : VR T w x v) (e : fSl h x lo hi = some z) (q : ∀ w' H' o, Le w w' → StR T w' h H' → VR T w' z o → Q o H') : rSl T.K v lo hi H Q := by
  have lst : ∀ {x : W}, VR T w x v → (match rdL h x with | some l => some (W.lst (cutW l lo hi)) | none => none) = some z → rSl T.K v lo hi H Q := fun {x} r1 e => by
    cases ex : rdL h x with
    | none => rw [ex] at e; cases e
    | some l =>
      rw [ex] at e
      cases e
      obtain ⟨a, vs, rfl, h1, h2⟩ := rdL_at s r1 ex
      refine .inl ⟨a, vs, rfl, h1, fun p hp => ?_⟩
      obtain ⟨s', le⟩ := s.frozen (o := .lst (cutW l lo hi)) (u := .lst (cutV vs lo hi)) hp ⟨_, upd_same, cut_all h2 lo hi⟩
      exact q _ _ _ le s' ⟨p, rfl, if_pos rfl⟩
  cases x with
  | str t =>
    cases r
    unfold fSl at e
    dsimp only at e
    split at e
    · rename_i hc
      cases e
      exact .inr (.inr ⟨t, rfl, hc, q w H _ (Le.refl w) s rfl⟩)
    · cases e
  | tup l =>
    unfold fSl at e
    dsimp only at e
    split at e
    · cases e
    · rename_i hc
      cases e
      obtain ⟨a, vs, rfl, h1, h2⟩ := tup_at s r
      refine .inr (.inl ⟨a, vs, rfl, h1, by rw [← h2.length]; exact hc, fun p hp => ?_⟩)
      obtain ⟨s', le⟩ := s.frozen (o := .tup (cutW l lo hi)) (u := .tup (cutV vs lo hi)) hp ⟨_, upd_same, cut_all h2 lo hi⟩
      exact q _ _ _ le s' (.inl ⟨p, rfl, if_pos rfl⟩)
  | _ => exact lst r e
def mSl (m : ME) (ml mh : MO) : ME := fun ρ h => (m ρ h).bind fun x h1 => (ml ρ h1).bind fun lo h2 => (mh ρ h2).bind fun hi h3 => R.ofO (fSl h3 x lo hi) h3
theorem i_sl {lo hi : Option Expr} {ml mh : MO} {p2 : Pos} (G : Gd T X E n) (ha : IE T X E a ma) (hl : PO X lo (toI T E ml)) (hh : PO X hi (toI T E mh)) : IE T X E (.Subscript a (.Slice lo hi none p2) pos) (mSl ma ml mh) :=
  PE.imp (pe_slice sl_any ha hl hh) fun σ H Q ⟨w, ρ, h, s, en, p⟩ => ⟨w, ρ, h, s, en, Post.bind p fun x h1 w1 H1 v le s1 r1 p1 => ⟨w1, ρ, h1, s1, en.mono le, Post.bind p1 fun o1 h2 w2 H2 o1' le2 s2 q2 p2 =>
    ⟨w2, ρ, h2, s2, en.mono (le.trans le2), Post.bind p2 fun o2 h3 w3 H3 o2' le3 s3 q3 p3 => by
      cases q2
      cases q3
      rw [G.K]
      cases ez : fSl h3 x o1 o2 with
      | none => rw [ez] at p3; exact p3.elim
      | some z =>
        rw [ez] at p3
        exact fSl_ok s3 (r1.mono (le2.trans le3)) ez fun w' H' o l s' r' => p3 w' H' o l s' r'⟩⟩⟩

/-! ### argument lists, displays -/
def mNil : MA := fun _ h => .ok [] h
def mCons (m : ME) (mr : MA) : MA := fun ρ h => (m ρ h).bind fun x h1 => (mr ρ h1).bind fun l h2 => .ok (x :: l) h2
variable {es : List Expr} {mr : MA}
theorem ia_nil : IA T X E [] mNil := PA.imp pa_nil fun σ H Q ⟨w, ρ, h, s, en, p⟩ => p w H [] (Le.refl w) s .nil
theorem ia_cons (ha : IE T X E a ma) (hr : IA T X E es mr) (hs : starEach (a :: es) X.env = (false, eval a X.env) :: starEach es X.env := by rfl) : IA T X E (a :: es) (mCons ma mr) :=
  PA.imp (pa_cons ha hr hs) fun σ H Q ⟨w, ρ, h, s, en, p⟩ => ⟨w, ρ, h, s, en, Post.bind p fun x h1 w1 H1 v le s1 r1 p1 => ⟨w1, ρ, h1, s1, en.mono le, Post.bind p1 fun l h2 w2 H2 vs le2 s2 r2 p2 =>
    p2 w2 H2 _ (Le.refl _) s2 (.cons (r1.mono le2) r2)⟩⟩
def mTup (mr : MA) : ME := fun ρ h => (mr ρ h).bind fun l h1 => if l.length ≤ sizeLine then .ok (.tup l) h1 else .bad
/-- a list that stays as it is -/
def mLst (mr : MA) : ME := fun ρ h => (mr ρ h).bind fun l h1 => if l.length ≤ sizeLine then .ok (.lst l) h1 else .bad
/-- a list that will change -/
def mLstC (mr : MA) : ME := fun ρ h => (mr ρ h).bind fun l h1 => if l.length ≤ sizeLine then .ok (.loc h1.length) (h1 ++ [.lst l]) else .bad
theorem i_tup {x1} (hr : IA T X E es mr) : IE T X E (.Tuple es x1 pos) (mTup mr) := PE.imp (pe_tup hr) fun σ H Q ⟨w, ρ, h, s, en, p⟩ => ⟨w, ρ, h, s, en, Post.bind p fun l h1 w1 H1 vs le s1 r1 p1 => by
  split at p1
  · rename_i hc
    refine ⟨by rw [← r1.length]; exact hc, fun t ht => ?_⟩
    obtain ⟨s', le'⟩ := s1.frozen (o := .tup l) (u := .tup vs) ht ⟨_, upd_same, r1⟩
    exact p1 _ _ _ le' s' (.inl ⟨t, rfl, if_pos rfl⟩)
  · exact p1.elim⟩
theorem i_lst (hr : IA T X E es mr) : IE T X E (.List es pos) (mLst mr) := PE.imp (pe_lst hr) fun σ H Q ⟨w, ρ, h, s, en, p⟩ => ⟨w, ρ, h, s, en, Post.bind p fun l h1 w1 H1 vs le s1 r1 p1 => by
  split at p1
  · rename_i hc
    refine ⟨by rw [← r1.length]; exact hc, fun t ht => ?_⟩
    obtain ⟨s', le'⟩ := s1.frozen (o := .lst l) (u := .lst vs) ht ⟨_, upd_same, r1⟩
    exact p1 _ _ _ le' s' ⟨t, rfl, if_pos rfl⟩
  · exact p1.elim⟩
theorem new_loc {w : Wd} {h : List Cell} {H : Hp} {p : Addr} (s : StR T w h H) : VR T (w.addC p) (.loc h.length) (.ref p) := ⟨p, rfl, by
  show (w.cl ++ [p])[h.length]? = some p
  rw [← s.len, List.getElem?_append_right (Nat.le_refl _)]
  simp⟩
theorem i_lstC (hr : IA T X E es mr) : IE T X E (.List es pos) (mLstC mr) := PE.imp (pe_lst hr) fun σ H Q ⟨w, ρ, h, s, en, p⟩ => ⟨w, ρ, h, s, en, Post.bind p fun l h1 w1 H1 vs le s1 r1 p1 => by
  split at p1
  · rename_i hc
    refine ⟨by rw [← r1.length]; exact hc, fun t ht => ?_⟩
    exact p1 _ _ _ Le.addC (s1.cell (c := .lst l) (u := .lst vs) ht ⟨_, upd_same, r1⟩) (new_loc s1)
  · exact p1.elim⟩

/-! ### calls of built-ins -/
abbrev FA := List W → List Cell → Option W
def CallI (T : Tab) (f : FA) (r : List V → Hp → VK → Prop) : Prop := ∀ (w : Wd) (h : List Cell) (H : Hp) (xs : List W) (vs : List V) (z : W) (Q : VK), StR T w h H → VRs T w xs vs → f xs h = some z →
  (∀ w' H' o, Le w w' → StR T w' h H' → VR T w' z o → Q o H') → r vs H Q
def mCB (f : FA) (mr : MA) : ME := fun ρ h => (mr ρ h).bind fun l h1 => R.ofO (f l h1) h1
theorem cb_of {f : FA} {r : List V → Hp → VK → Prop} (c : CallI T f r) {σ : L2.St} {H : Hp} {Q : VK} (q : teI T E (mCB f mr) σ H Q) : tCB r (taI T E mr) σ H Q := by
  obtain ⟨w, ρ, h, s, en, p⟩ := q
  refine ⟨w, ρ, h, s, en, Post.bind p fun l h1 w1 H1 vs le s1 r1 p1 => ?_⟩
  cases ez : f l h1 with
  | none => rw [ez] at p1; exact p1.elim
  | some z =>
    rw [ez] at p1
    exact c w1 h1 H1 l vs z Q s1 r1 ez fun w' H' o l s' r' => p1 w' H' o l s' r'
theorem i_cb {id : String} {x : Str} {p : Pos} {f : FA} {r : List V → Hp → VK → Prop} (c : CallI T f r) (hc : CallR X (.builtin id) r) (hg : Gl X x) (hm : X.mg x = none) (hv : bootBuiltins x = some (.builtin id)) (ha : IA T X E (e :: es) mr)
    (hn : x ≠ "__name__" := by decide +kernel) (hdb : (x == ("__debug__" : Str)) = false := by decide +kernel)
    (he : starEach (e :: es) X.env = (false, eval e X.env) :: starEach es X.env := by rfl) (hpl : (backTo pos (starEach es X.env)).any (·.1) = false := by rfl) : IE T X E (.Call (.Name x p) (e :: es) [] pos) (mCB f mr) :=
  PE.imp (pe_callB hc hg hm hv ha hn hdb he hpl) fun _ _ _ q => cb_of c q
theorem i_cty {id : String} {x : Str} {p : Pos} {f : FA} {r : List V → Hp → VK → Prop} (c : CallI T f r) (hc : CallR X (.type id) r) (hg : Gl X x) (hm : X.mg x = none) (hv : bootBuiltins x = some (.type id)) (ha : IA T X E (e :: es) mr)
    (hn : x ≠ "__name__" := by decide +kernel) (hdb : (x == ("__debug__" : Str)) = false := by decide +kernel)
    (he : starEach (e :: es) X.env = (false, eval e X.env) :: starEach es X.env := by rfl) (hpl : (backTo pos (starEach es X.env)).any (·.1) = false := by rfl) : IE T X E (.Call (.Name x p) (e :: es) [] pos) (mCB f mr) :=
  PE.imp (pe_callTy hc hg hm hv ha hn hdb he hpl) fun _ _ _ q => cb_of c q
theorem all1 {α β : Type} {R : α → β → Prop} {x : α} {m : List β} (r : All2 R [x] m) : ∃ y, m = [y] ∧ R x y := by
  cases r with
  | cons h t => cases t; exact ⟨_, rfl, h⟩
theorem all2 {α β : Type} {R : α → β → Prop} {x y : α} {m : List β} (r : All2 R [x, y] m) : ∃ x' y', m = [x', y'] ∧ R x x' ∧ R y y' := by
  cases r with
  | cons h t => cases t with | cons h2 t2 => cases t2; exact ⟨_, _, rfl, h, h2⟩
def lenW (h : List Cell) : W → Option Nat
  | .str s => if s.length ≤ sizeLine then some s.length else none
  | .tup l => some l.length
  | x => match rdL h x with
    | some l => some l.length
    | none => none
def fLen : FA := fun xs h => match xs with
  | [x] => (match lenW h x with
    | some k => some (.int (k : Int))
    | none => none)
  | _ => none
theorem lenW_ok {w : Wd} {h : List Cell} {H : Hp} (s : StR T w h H) {x : W} {v : V} {k : Nat} (r : VR T w x v) (e : lenW h x = some k) : LenV T.K v H k := by
  have lst : ∀ {x : W}, VR T w x v → (match rdL h x with | some l => some l.length | none => none) = some k → LenV T.K v H k := fun {x} r1 e => by
    cases ex : rdL h x with
    | none => rw [ex] at e; cases e
    | some l =>
      rw [ex] at e
      cases e
      obtain ⟨a, vs, rfl, h1, h2⟩ := rdL_at s r1 ex
      exact .inl ⟨vs, h1, h2.length⟩
  cases x with
  | str t =>
    cases r
    have e : (if t.length ≤ sizeLine then some t.length else none) = some k := e
    split at e
    · rename_i hc
      cases e
      exact ⟨hc, rfl⟩
    · cases e
  | tup l =>
    cases e
    obtain ⟨a, vs, rfl, h1, h2⟩ := tup_at s r
    exact .inr ⟨vs, h1, h2.length⟩
  | _ => exact lst r e
theorem c_len : CallI T fLen (fun xs H Q => ∃ x n, xs = [x] ∧ LenV T.K x H n ∧ Q (.int n) H) := fun w h H xs vs z Q s r e q => by
  unfold fLen at e
  split at e
  · rename_i x
    cases ex : lenW h x with
    | none => rw [ex] at e; cases e
    | some k =>
      rw [ex] at e
      cases e
      obtain ⟨v, rfl, r1⟩ := all1 r
      exact ⟨v, k, rfl, lenW_ok s r1 ex, q w H _ (Le.refl w) s rfl⟩
  · cases e
theorem i_len (G : Gd T X E n) {p : Pos} (ha : IE T X E a ma) (hm : X.mg "len" = none) (hg : Gl X "len" := by rfl) (hs : starEach [a] X.env = (false, eval a X.env) :: starEach [] X.env := by rfl) : IE T X E (.Call (.Name "len" p) [a] [] pos) (mCB fLen (mCons ma mNil)) :=
  i_cb (c_len (T := T)) (G.K ▸ call_len) hg hm boot_len (ia_cons ha ia_nil hs) (by decide +kernel) (by decide +kernel) hs rfl
def fInt : FA := fun xs _ => match xs with
  | [.int i] => some (.int i)
  | [.bl k] => some (.int (if k then 1 else 0))
  | _ => none
theorem c_int : CallI T fInt (fun xs H Q => (∃ i, xs = [.int i] ∧ Q (.int i) H) ∨ ∃ k, xs = [.bl k] ∧ Q (.int (if k then 1 else 0)) H) := fun w h H xs vs z Q s r e q => by
  unfold fInt at e
  split at e
  · cases e
    obtain ⟨v, rfl, r1⟩ := all1 r
    cases r1
    exact .inl ⟨_, rfl, q w H _ (Le.refl w) s rfl⟩
  · cases e
    obtain ⟨v, rfl, r1⟩ := all1 r
    cases r1
    exact .inr ⟨_, rfl, q w H _ (Le.refl w) s rfl⟩
  · cases e
theorem i_int1 {p : Pos} (ha : IE T X E a ma) (hm : X.mg "int" = none) (hg : Gl X "int" := by rfl) (hs : starEach [a] X.env = (false, eval a X.env) :: starEach [] X.env := by rfl) : IE T X E (.Call (.Name "int" p) [a] [] pos) (mCB fInt (mCons ma mNil)) :=
  i_cty (c_int (T := T)) call_int1 hg hm boot_int (ia_cons ha ia_nil hs) (by decide +kernel) (by decide +kernel) hs rfl
/-- list(x), a list that stays as it is; tuple(x) -/
def fList : FA := fun xs h => match xs with
  | [x] => (match rdS h x with
    | some l => some (.lst l)
    | none => none)
  | _ => none
theorem c_list : CallI T fList (fun xs H Q => ∃ p ys, xs = [.ref p] ∧ (SqL T.K H p ys ∨ SqT T.K H p ys) ∧ ∀ l, H l = none → Q (.ref l) (upd H l (.lst ys))) := fun w h H xs vs z Q s r e q => by
  unfold fList at e
  split at e
  · rename_i x
    cases ex : rdS h x with
    | none => rw [ex] at e; cases e
    | some l =>
      rw [ex] at e
      cases e
      obtain ⟨v, rfl, r1⟩ := all1 r
      obtain ⟨p, us, rfl, h1, h2⟩ := rdS_at s r1 ex
      refine ⟨p, us, rfl, h1, fun t ht => ?_⟩
      obtain ⟨s', le⟩ := s.frozen (o := .lst l) (u := .lst us) ht ⟨_, upd_same, h2⟩
      exact q _ _ _ le s' ⟨t, rfl, if_pos rfl⟩
  · cases e
def fTuple : FA := fun xs h => match xs with
  | [.tup l] => some (.tup l)
  | [x] => (match rdL h x with
    | some l => some (.tup l)
    | none => none)
  | _ => none
theorem c_tuple : CallI T fTuple (fun xs H Q => ∃ p ys, xs = [.ref p] ∧ ((SqL T.K H p ys ∧ ∀ l, H l = none → Q (.ref l) (upd H l (.tup ys))) ∨ (SqT T.K H p ys ∧ Q (.ref p) H))) := fun w h H xs vs z Q s r e q => by
  unfold fTuple at e
  split at e
  · cases e
    obtain ⟨v, rfl, r1⟩ := all1 r
    obtain ⟨p, us, rfl, h1, h2⟩ := tup_at s r1
    exact ⟨p, us, rfl, .inr ⟨h1, q w H _ (Le.refl w) s r1⟩⟩
  · rename_i x _
    cases ex : rdL h x with
    | none => rw [ex] at e; cases e
    | some l =>
      rw [ex] at e
      cases e
      obtain ⟨v, rfl, r1⟩ := all1 r
      obtain ⟨p, us, rfl, h1, h2⟩ := rdL_at s r1 ex
      refine ⟨p, us, rfl, .inl ⟨h1, fun t ht => ?_⟩⟩
      obtain ⟨s', le⟩ := s.frozen (o := .tup l) (u := .tup us) ht ⟨_, upd_same, h2⟩
      exact q _ _ _ le s' (.inl ⟨t, rfl, if_pos rfl⟩)
  · cases e
theorem i_list1 (G : Gd T X E n) {p : Pos} (ha : IE T X E a ma) (hm : X.mg "list" = none) (hg : Gl X "list" := by rfl) (hs : starEach [a] X.env = (false, eval a X.env) :: starEach [] X.env := by rfl) : IE T X E (.Call (.Name "list" p) [a] [] pos) (mCB fList (mCons ma mNil)) :=
  i_cty (c_list (T := T)) (G.K ▸ call_list_of) hg hm (by decide +kernel) (ia_cons ha ia_nil hs) (by decide +kernel) (by decide +kernel) hs rfl
theorem i_tuple1 (G : Gd T X E n) {p : Pos} (ha : IE T X E a ma) (hm : X.mg "tuple" = none) (hg : Gl X "tuple" := by rfl) (hs : starEach [a] X.env = (false, eval a X.env) :: starEach [] X.env := by rfl) : IE T X E (.Call (.Name "tuple" p) [a] [] pos) (mCB fTuple (mCons ma mNil)) :=
  i_cty (c_tuple (T := T)) (G.K ▸ call_tuple_of) hg hm (by decide +kernel) (ia_cons ha ia_nil hs) (by decide +kernel) (by decide +kernel) hs rfl
/-- list(x), a list that will change -/
def mListC (m : ME) : ME := fun ρ h => (m ρ h).bind fun x h1 => match rdS h1 x with
  | some l => .ok (.loc h1.length) (h1 ++ [.lst l])
  | none => .bad
theorem i_list1C (G : Gd T X E n) {p : Pos} (ha : IE T X E a ma) (hm : X.mg "list" = none) (hg : Gl X "list" := by rfl) (hs : starEach [a] X.env = (false, eval a X.env) :: starEach [] X.env := by rfl) : IE T X E (.Call (.Name "list" p) [a] [] pos) (mListC ma) :=
  PE.imp (pe_callTy (r := fun xs H Q => ∃ p ys, xs = [.ref p] ∧ (SqL T.K H p ys ∨ SqT T.K H p ys) ∧ ∀ l, H l = none → Q (.ref l) (upd H l (.lst ys))) (G.K ▸ call_list_of) hg hm (by decide +kernel) (pa_cons ha pa_nil hs) (by decide +kernel) (by decide +kernel) hs rfl)
    fun σ H Q ⟨w, ρ, h, s, en, p⟩ => ⟨w, ρ, h, s, en, Post.bind p fun x h1 w1 H1 v le s1 r1 p1 => by
      cases ex : rdS h1 x with
      | none => rw [ex] at p1; exact p1.elim
      | some l =>
        rw [ex] at p1
        obtain ⟨p, us, rfl, q1, q2⟩ := rdS_at s1 r1 ex
        exact ⟨p, us, rfl, q1, fun t ht => p1 _ _ _ Le.addC (s1.cell (c := .lst l) (u := .lst us) ht ⟨_, upd_same, q2⟩) (new_loc s1)⟩⟩

/-! ### truth -/
def truW (h : List Cell) : W → Option Bool
  | .non => some false
  | .bl b => some b
  | .int i => some (i != 0)
  | .str s => if s.length ≤ sizeLine then some ((s.length : Int) != 0) else none
  | .tup l => some (!l.isEmpty)
  | .loc n => match h[n]? with
    | some (.lst l) => some (!l.isEmpty)
    | some (.dk l) => some (!l.isEmpty)
    | _ => none
  | x => match rdL h x with
    | some l => some (!l.isEmpty)
    | none => none
theorem All2.isEmpty {α β : Type} {R : α → β → Prop} {l : List α} {m : List β} (r : All2 R l m) : (!l.isEmpty) = !m.isEmpty := by cases r <;> rfl
theorem truW_ok {w : Wd} {h : List Cell} {H : Hp} (s : StR T w h H) {x : W} {v : V} {k : Bool} (r : VR T w x v) (e : truW h x = some k) : TruV T.K v H k := by
  have lst : ∀ {x : W}, VR T w x v → (match rdL h x with | some l => some (!l.isEmpty) | none => none) = some k → TruV T.K v H k := fun {x} r1 e => by
    cases ex : rdL h x with
    | none => rw [ex] at e; cases e
    | some l =>
      rw [ex] at e
      cases e
      obtain ⟨a, vs, rfl, h1, h2⟩ := rdL_at s r1 ex
      exact .inl ⟨vs, h1, h2.isEmpty⟩
  cases x with
  | non => cases r; cases e; rfl
  | bl b => cases r; cases e; rfl
  | int i => cases r; cases e; rfl
  | str t =>
    cases r
    have e : (if t.length ≤ sizeLine then some ((t.length : Int) != 0) else none) = some k := e
    split at e
    · rename_i hc
      cases e
      exact ⟨hc, rfl⟩
    · cases e
  | tup l =>
    cases e
    obtain ⟨a, vs, rfl, h1, h2⟩ := tup_at s r
    exact .inr (.inl ⟨vs, h1, h2.isEmpty⟩)
  | loc j =>
    unfold truW at e
    dsimp only at e
    cases q : h[j]? with
    | none => rw [q] at e; cases e
    | some c =>
      rw [q] at e
      cases c with
      | lst l =>
        cases e
        obtain ⟨a, rfl, _, vs, h1, h2⟩ := loc_at s r q
        exact .inl ⟨vs, .of h1, h2.isEmpty⟩
      | dk l =>
        cases e
        obtain ⟨a, rfl, _, vs, h1, h2⟩ := loc_at s r q
        exact .inr (.inr ⟨vs, h1, h2.isEmpty⟩)
      | _ => cases e
  | _ => exact lst r e
def mTru (m : ME) : MT := fun ρ h => (m ρ h).bind fun x h1 => R.ofO (truW h1 x) h1
theorem it_tru (G : Gd T X E n) (ha : IE T X E a ma) (he : ∀ whole, isTrue a X.env whole = (do let v ← whole; standAt a.pos; holding [v] (truthy v)) := by intro _; rfl) : IT T X E a (mTru ma) :=
  PT.imp (pt_truth ha he) fun σ H Q ⟨w, ρ, h, s, en, p⟩ => ⟨w, ρ, h, s, en, Post.bind p fun x h1 w1 H1 v le s1 r1 p1 => by
    rw [G.K]
    cases ez : truW h1 x with
    | none => rw [ez] at p1; exact p1.elim
    | some k =>
      rw [ez] at p1
      exact ⟨k, truW_ok s1 r1 ez, p1 w1 H1 _ (Le.refl _) s1 rfl⟩⟩
end
end Fz

namespace Fz
open PySem PySem.Spec PyProof.Rows L2

/-! ### statements -/
inductive RS where
  | nx (ρ : EnvW) (h : List Cell) | rt (x : W) (h : List Cell) | bk (ρ : EnvW) (h : List Cell) | ct (ρ : EnvW) (h : List Cell)
  | exc (c : Nat) (vs : List W) (ρ : EnvW) (h : List Cell)
  | bad
abbrev MS := EnvW → List Cell → RS
def R.toS {α : Type} (m : R α) (ρ : EnvW) (k : α → List Cell → RS) : RS := match m with
  | .ok x h => k x h
  | .exc c vs h => .exc c vs ρ h
  | .bad => .bad
def PostS (T : Tab) (w : Wd) (D : Ends) (E : WX) : RS → Prop
  | .nx ρ h => ∀ w' σ' H', Le w w' → StR T w' h H' → EnvR T w' ρ σ' → D.nx σ' H'
  | .rt x h => ∀ w' H' v, Le w w' → StR T w' h H' → VR T w' x v → D.rt v H'
  | .bk ρ h => ∀ w' σ' H', Le w w' → StR T w' h H' → EnvR T w' ρ σ' → D.bk σ' H'
  | .ct ρ h => ∀ w' σ' H', Le w w' → StR T w' h H' → EnvR T w' ρ σ' → D.ct σ' H'
  | .exc c vs ρ h => ∀ w' σ' H' d, Le w w' → StR T w' h H' → EnvR T w' ρ σ' → EOk T w' H' c vs d → E (.ref (T.ca c)) d σ' H'
  | .bad => False
def tsI (T : Tab) (E : WX) (m : MS) : TS := fun D σ H => ∃ w ρ h, StR T w h H ∧ EnvR T w ρ σ ∧ PostS T w D E (m ρ h)
section
variable {T : Tab} {E : WX} {w w1 : Wd} {D D' : Ends}
theorem PostS.mono (le : Le w w1) : ∀ {m : RS}, PostS T w D E m → PostS T w1 D E m
  | .nx _ _, h => fun w' σ' H' l s r => h w' σ' H' (le.trans l) s r
  | .rt _ _, h => fun w' H' v l s r => h w' H' v (le.trans l) s r
  | .bk _ _, h => fun w' σ' H' l s r => h w' σ' H' (le.trans l) s r
  | .ct _ _, h => fun w' σ' H' l s r => h w' σ' H' (le.trans l) s r
  | .exc _ _ _ _, h => fun w' σ' H' d l s r => h w' σ' H' d (le.trans l) s r
  | .bad, h => h
theorem PostS.of {α β : Type} {rel : Wd → α → β → Prop} {Q : β → Hp → Prop} {m : R α} {ρ : EnvW} {σ : L2.St} {k : α → List Cell → RS} (en : EnvR T w ρ σ) (h : PostS T w D E (m.toS ρ k))
    (f : ∀ x h1 w1 H1 v, Le w w1 → StR T w1 h1 H1 → rel w1 x v → PostS T w1 D E (k x h1) → Q v H1) : Post T rel w Q (fun c d H' => E c d σ H') m := by
  cases m with
  | ok x h1 => exact fun w1 H1 v le s r => f x h1 w1 H1 v le s r (PostS.mono le (show PostS T w D E (k x h1) from h))
  | exc c vs h1 => exact fun w' H' d l s e => h w' σ H' d l s (en.mono l) e
  | bad => exact h
end
section
variable {T : Tab} {X : Cx} {E : WX} {n : Nat} {a b e : Expr} {ma mb m : ME} {pos : Pos} {st : Stmt} {rest : List Stmt} {s1 s2 : MS}
abbrev IS (T : Tab) (X : Cx) (E : WX) (s : Stmt) (m : MS) : Prop := PS X s (tsI T E m)
abbrev ISs (T : Tab) (X : Cx) (E : WX) (s : List Stmt) (m : MS) : Prop := PSs X s (tsI T E m)
def mSkip : MS := fun ρ h => .nx ρ h
def mSeq (a b : MS) : MS := fun ρ h => match a ρ h with
  | .nx ρ1 h1 => b ρ1 h1
  | r => r
theorem seq_of {D : Ends} {σ : L2.St} {H : Hp} (q : tsI T E (mSeq s1 s2) D σ H) : tSeq (tsI T E s1) (tsI T E s2) D σ H := by
  obtain ⟨w, ρ, h, s, en, p⟩ := q
  refine ⟨w, ρ, h, s, en, ?_⟩
  unfold mSeq at p
  cases q1 : s1 ρ h with
  | nx ρ1 h1 =>
    rw [q1] at p
    exact fun w' σ' H' l s' r => ⟨w', ρ1, h1, s', r, PostS.mono l p⟩
  | rt x h1 => rw [q1] at p; exact p
  | bk ρ1 h1 => rw [q1] at p; exact p
  | ct ρ1 h1 => rw [q1] at p; exact p
  | exc c vs ρ1 h1 => rw [q1] at p; exact p
  | bad => rw [q1] at p; exact p
theorem is_nil : ISs T X E [] mSkip := PSs.imp pss_nil fun D σ H ⟨w, ρ, h, s, en, p⟩ => p w σ H (Le.refl w) s en
theorem is_cons (h1 : IS T X E st s1) (h2 : ISs T X E rest s2) : ISs T X E (st :: rest) (mSeq s1 s2) := PSs.imp (pss_cons h1 h2) fun D σ H q => seq_of q
theorem is_one (h1 : IS T X E st s1) : ISs T X E [st] s1 := pss_one h1
theorem is_pass : IS T X E (.Pass pos) mSkip := PS.imp ps_pass fun D σ H ⟨w, ρ, h, s, en, p⟩ => p w σ H (Le.refl w) s en
def mBrk : MS := fun ρ h => .bk ρ h
def mCnt : MS := fun ρ h => .ct ρ h
theorem is_break : IS T X E (.Break pos) mBrk := PS.imp ps_break fun D σ H ⟨w, ρ, h, s, en, p⟩ => p w σ H (Le.refl w) s en
theorem is_continue : IS T X E (.Continue pos) mCnt := PS.imp ps_continue fun D σ H ⟨w, ρ, h, s, en, p⟩ => p w σ H (Le.refl w) s en
def mNever : MS := fun _ _ => .bad
theorem is_never : IS T X E st mNever := PS.imp ps_never fun D σ H ⟨w, ρ, h, s, en, p⟩ => p.elim
theorem iss_never : ISs T X E rest mNever := PSs.imp pss_never fun D σ H ⟨w, ρ, h, s, en, p⟩ => p.elim
theorem is_doc {x j pos'} : IS T X E (.Expr (.Constant (.str x) j pos) pos') mSkip := PS.imp ps_doc fun D σ H ⟨w, ρ, h, s, en, p⟩ => p w σ H (Le.refl w) s en
def mExp (m : ME) : MS := fun ρ h => (m ρ h).toS ρ fun _ h1 => .nx ρ h1
theorem is_expr (he : IE T X E e m) (hs : swapsWith e none pos.line X.env = pure false := by rfl) : IS T X E (.Expr e pos) (mExp m) :=
  PS.imp (ps_expr he hs) fun D σ H ⟨w, ρ, h, s, en, p⟩ => ⟨w, ρ, h, s, en, PostS.of en p fun x h1 w1 H1 v le s1 r1 p1 => p1 w1 σ H1 (Le.refl _) s1 (en.mono le)⟩
def mRet (m : ME) : MS := fun ρ h => (m ρ h).toS ρ fun x h1 => .rt x h1
theorem is_ret (he : IE T X E e m) : IS T X E (.Return (some e) pos) (mRet m) :=
  PS.imp (ps_ret he) fun D σ H ⟨w, ρ, h, s, en, p⟩ => ⟨w, ρ, h, s, en, PostS.of en p fun x h1 w1 H1 v le s1 r1 p1 => p1 w1 H1 v (Le.refl _) s1 r1⟩
def mRetN : MS := fun _ h => .rt .non h
theorem is_retN : IS T X E (.Return none pos) mRetN := PS.imp ps_retN fun D σ H ⟨w, ρ, h, s, en, p⟩ => p w H .non (Le.refl w) s rfl
def mIfS (c : MT) (a b : MS) : MS := fun ρ h => (c ρ h).toS ρ fun x h1 => if x = true then a ρ h1 else b ρ h1
theorem is_if {c : Expr} {xs ys : List Stmt} {mc : MT} (hc : IT T X E c mc) (ha : ISs T X E xs s1) (hb : ISs T X E ys s2) : IS T X E (.If c xs ys pos) (mIfS mc s1 s2) :=
  PS.imp (ps_if hc ha hb) fun D σ H ⟨w, ρ, h, s, en, p⟩ => ⟨w, ρ, h, s, en, PostS.of en p fun x h1 w1 H1 v le s1 r1 p1 => by
    cases r1
    cases x with
    | true => exact ⟨w1, ρ, h1, s1, en.mono le, p1⟩
    | false => exact ⟨w1, ρ, h1, s1, en.mono le, p1⟩⟩

/-! ### targets -/
abbrev MG := W → EnvW → List Cell → RS
abbrev MGs := List W → EnvW → List Cell → RS
def gEnds (Q : L2.St → Hp → Prop) : Ends := { nx := Q, rt := fun _ _ => False }
def tgI (T : Tab) (E : WX) (m : MG) : TG := fun v σ H Q => ∃ w ρ h x, StR T w h H ∧ EnvR T w ρ σ ∧ VR T w x v ∧ PostS T w (gEnds Q) E (m x ρ h)
def tgsI (T : Tab) (E : WX) (m : MGs) : TGs := fun vs σ H Q => ∃ w ρ h xs, StR T w h H ∧ EnvR T w ρ σ ∧ VRs T w xs vs ∧ PostS T w (gEnds Q) E (m xs ρ h)
abbrev IG (T : Tab) (X : Cx) (E : WX) (e : Expr) (m : MG) : Prop := PG X e (tgI T E m)
abbrev IGs (T : Tab) (X : Cx) (E : WX) (e : List Expr) (m : MGs) : Prop := PGs X e (tgsI T E m)
theorem PG.imp {e : Expr} {t t' : TG} (h : PG X e t) (k : ∀ v σ H Q, t' v σ H Q → t v σ H Q) : PG X e t' := ⟨fun pins s σ H v u Q I r q => h.run pins s σ H v u Q I r (k v σ H Q q)⟩
theorem PG.or {e : Expr} {t t' : TG} (h : PG X e t) (h' : PG X e t') : PG X e (fun v σ H Q => t v σ H Q ∨ t' v σ H Q) := ⟨fun pins s σ H v u Q I r q => q.elim (h.run pins s σ H v u Q I r) (h'.run pins s σ H v u Q I r)⟩
theorem PGs.imp {e : List Expr} {t t' : TGs} (h : PGs X e t) (k : ∀ v σ H Q, t' v σ H Q → t v σ H Q) : PGs X e t' := ⟨fun pins s σ H v u Q I r q => h.run pins s σ H v u Q I r (k v σ H Q q)⟩
def mGName (i : Nat) : MG := fun x ρ h => .nx (ρ.set i (some x)) h
theorem EnvR.set {w : Wd} {ρ : EnvW} {σ : L2.St} (en : EnvR T w ρ σ) {x : W} {v : V} (r : VR T w x v) (i : Nat) : EnvR T w (ρ.set i (some x)) (σ.set i (some v)) :=
  All2.set (fun y e => by cases e; exact ⟨v, rfl, r⟩) i en
theorem ig_name (i : Nat) {x : Str} (G : Gd T X E n) (hi : X.N[i]? = some x := by rfl) (hx : Loc X.env.scope x := by first | exact Or.inl rfl | exact Or.inr rfl) (hf : X.fn x = true ∨ X.env.scope.names.lookup x = some .local := by first | exact .inl rfl | exact .inr rfl) : IG T X E (.Name x pos) (mGName i) :=
  PG.imp (pg_name G.nd hi hx hf) fun v σ H Q ⟨w, ρ, h, x, s, en, r, p⟩ => p w _ H (Le.refl w) s (en.set r i)
def mGNil : MGs := fun xs ρ h => match xs with
  | [] => .nx ρ h
  | _ => .bad
def mGCons (g : MG) (gs : MGs) : MGs := fun xs ρ h => match xs with
  | x :: r => (match g x ρ h with
    | .nx ρ1 h1 => gs r ρ1 h1
    | z => z)
  | [] => .bad
theorem igs_nil : IGs T X E [] mGNil := PGs.imp pgs_nil fun vs σ H Q ⟨w, ρ, h, xs, s, en, r, p⟩ => by
  cases xs with
  | nil => cases r; exact ⟨rfl, p w σ H (Le.refl w) s en⟩
  | cons x l => exact p.elim
theorem igs_cons {e : Expr} {es : List Expr} {g : MG} {gs : MGs} (h1 : IG T X E e g) (h2 : IGs T X E es gs) (hs : (assignEach (e :: es) X.env).map (·.2) = assign e X.env :: (assignEach es X.env).map (·.2) := by rfl) : IGs T X E (e :: es) (mGCons g gs) :=
  PGs.imp (pgs_cons h1 h2 hs) fun vs σ H Q ⟨w, ρ, h, xs, s, en, r, p⟩ => by
    cases xs with
    | nil => exact p.elim
    | cons x l =>
      cases r with
      | cons r1 r2 =>
        refine ⟨_, _, rfl, w, ρ, h, x, s, en, r1, ?_⟩
        unfold mGCons at p
        dsimp only at p
        cases q1 : g x ρ h with
        | nx ρ1 h1 =>
          rw [q1] at p
          exact fun w' σ' H' le s' en' => ⟨w', ρ1, h1, l, s', en', VRs.mono le r2, PostS.mono le p⟩
        | rt x h1 => rw [q1] at p; exact p
        | bk ρ1 h1 => rw [q1] at p; exact p
        | ct ρ1 h1 => rw [q1] at p; exact p
        | exc c vs ρ1 h1 => rw [q1] at p; exact p
        | bad => rw [q1] at p; exact p
def mGTup (k : Nat) (gs : MGs) : MG := fun x ρ h => match rdS h x with
  | some l => if l.length = k then gs l ρ h else .bad
  | none => .bad
theorem ig_tup {es : List Expr} {k : Nat} {gs : MGs} (G : Gd T X E n) (h : IGs T X E es gs) (hn : (assignEach es X.env).length = es.length := by rfl) (hst : (assignEach es X.env).findIdx? (·.1) = none := by rfl) : IG T X E (.Tuple es k pos) (mGTup es.length gs) :=
  PG.imp (PG.or (pg_tup (n := es.length) G.calm h hn hst) (pg_lst (n := es.length) G.calm h hn hst)) fun v σ H Q ⟨w, ρ, h, x, s, en, r, p⟩ => by
    unfold mGTup at p
    cases q : rdS h x with
    | none => rw [q] at p; exact p.elim
    | some l =>
      rw [q] at p
      dsimp only at p
      split at p
      · rename_i hl
        obtain ⟨a, vs, rfl, h1, h2⟩ := rdS_at s r q
        rw [G.K]
        rcases h1 with h1 | h1
        · exact .inr ⟨a, vs, rfl, h1, by rw [← h2.length]; exact hl, w, ρ, h, l, s, en, h2, p⟩
        · exact .inl ⟨a, vs, rfl, h1, by rw [← h2.length]; exact hl, w, ρ, h, l, s, en, h2, p⟩
      · exact p.elim
/-- o[i] = .., o a list that changes -/
def mGSub (mo mi : ME) : MG := fun x ρ h => (mo ρ h).toS ρ fun o h1 => (mi ρ h1).toS ρ fun i h2 => match o, i with
  | .loc j, .int k => (match h2[j]? with
    | some (.lst l) => (match ixN l.length k with
      | some t => .nx ρ (h2.set j (.lst (l.set t x)))
      | none => .bad)
    | _ => .bad)
  | _, _ => .bad
theorem ig_sub {o i : Expr} {mo mi : ME} (ho : IE T X E o mo) (hi : IE T X E i mi) (ha : ∀ v, assign (.Subscript o i pos) X.env v = (do
      let ov ← holding [v] (eval o X.env)
      let iv ← holding [v, ov] (eval i X.env)
      standAt pos
      holding [v, ov, iv] (setItem ov iv v)
      release [v, ov, iv] []) := by intro _; rfl) : IG T X E (.Subscript o i pos) (mGSub mo mi) :=
  PG.imp (pg_sub ho hi set_list ha) fun v σ H Q ⟨w, ρ, h, x, s, en, r, p⟩ => ⟨w, ρ, h, s, en, PostS.of en p fun o h1 w1 H1 ov le s1 r1 p1 => ⟨w1, ρ, h1, s1, en.mono le, PostS.of (en.mono le) p1 fun i h2 w2 H2 iv le2 s2 r2 p2 => by
    cases o with
    | loc j =>
      cases i with
      | int k =>
        dsimp only at p2
        cases q : h2[j]? with
        | none => rw [q] at p2; exact p2.elim
        | some c =>
          rw [q] at p2
          cases c with
          | lst l =>
            dsimp only at p2
            cases q3 : ixN l.length k with
            | none => rw [q3] at p2; exact p2.elim
            | some t =>
              rw [q3] at p2
              cases r2
              obtain ⟨a, rfl, e2, vs, e3, e4⟩ := loc_at s2 (r1.mono le2) q
              refine ⟨a, vs, k, t, rfl, rfl, e3, by rw [← e4.length]; exact q3, ?_⟩
              have rv := (r.mono (le.trans le2))
              have s3 := s2.write (c := .lst l) (d := .lst (l.set t x)) (u := .lst (vs.set t v)) q e2 trivial ⟨_, upd_same, e4.set rv t⟩
              exact p2 w2 σ _ (Le.refl _) s3 (en.mono (le.trans le2))
          | _ => exact p2.elim
      | _ => exact p2.elim
    | _ => exact p2.elim⟩⟩
def mAsg (m : ME) (g : MG) : MS := fun ρ h => (m ρ h).toS ρ fun x h1 => g x ρ h1
theorem gends_of {w : Wd} {D : Ends} {m : RS} (k : ∀ ρ h, m ≠ .bk ρ h ∧ m ≠ .ct ρ h) (kr : ∀ x h, m ≠ .rt x h) (p : PostS T w D E m) : PostS T w (gEnds D.nx) E m := by
  cases m with
  | nx ρ h => exact p
  | rt x h => exact absurd rfl (kr x h)
  | bk ρ h => exact absurd rfl (k ρ h).1
  | ct ρ h => exact absurd rfl (k ρ h).2
  | exc c vs ρ h => exact p
  | bad => exact p
/-- a target's result made plain -/
def gOnly : RS → RS
  | .nx ρ h => .nx ρ h
  | .exc c vs ρ h => .exc c vs ρ h
  | _ => .bad
def mAsgG (m : ME) (g : MG) : MS := fun ρ h => (m ρ h).toS ρ fun x h1 => gOnly (g x ρ h1)
theorem gOnly_of {w : Wd} {D : Ends} {m : RS} (p : PostS T w D E (gOnly m)) : PostS T w (gEnds D.nx) E m := by
  cases m with
  | nx ρ h => exact p
  | exc c vs ρ h => exact p
  | _ => exact p.elim
theorem is_asg {tg : Expr} {g : MG} (he : IE T X E e m) (hg : IG T X E tg g) (hs : swapsWithSole [tg] e pos.line X.env = pure false := by rfl) (hw : swappedStores [tg] e X.env = pure none := by rfl)
    (h1 : (assignEach [tg] X.env).map (·.2) = [assign tg X.env] := by rfl) : IS T X E (.Assign [tg] e pos) (mAsgG m g) :=
  PS.imp (ps_asg he hg hs hw h1) fun D σ H ⟨w, ρ, h, s, en, p⟩ => ⟨w, ρ, h, s, en, PostS.of en p fun x h1 w1 H1 v le s1 r1 p1 => ⟨w1, ρ, h1, x, s1, en.mono le, r1, gOnly_of p1⟩⟩
def mSet (i : Nat) (m : ME) : MS := fun ρ h => (m ρ h).toS ρ fun x h1 => .nx (ρ.set i (some x)) h1
theorem is_set (i : Nat) {x : Str} {pos' : Pos} (G : Gd T X E n) (he : IE T X E e m) (hi : X.N[i]? = some x := by rfl) (hx : Loc X.env.scope x := by first | exact Or.inl rfl | exact Or.inr rfl) (hs : swapsWith e (some (.Name x pos')) pos.line X.env = pure false := by rfl)
    (hf : X.fn x = true ∨ X.env.scope.names.lookup x = some .local := by first | exact .inl rfl | exact .inr rfl) : IS T X E (.Assign [.Name x pos'] e pos) (mSet i m) :=
  PS.imp (ps_set G.nd hi hx he hs hf) fun D σ H ⟨w, ρ, h, s, en, p⟩ => ⟨w, ρ, h, s, en, PostS.of en p fun x h1 w1 H1 v le s1 r1 p1 => p1 w1 _ H1 (Le.refl _) s1 ((en.mono le).set r1 i)⟩
/-- x op= e -/
def mAug (i : Nat) (f : F2) (m : ME) : MS := fun ρ h => match ρ[i]? with
  | some (some x) => (m ρ h).toS ρ fun y h1 => (match f x y h1 with
    | some z => .nx (ρ.set i (some z)) h1
    | none => .bad)
  | _ => .bad
theorem is_aug (i : Nat) {x : Str} {op : Operator} {f : F2} {r : R2} {pos' : Pos} (o : OpI T f r) (ho : OpR X (inplaceOp op) r) (G : Gd T X E n) (he : IE T X E e m) (hi : X.N[i]? = some x := by rfl) (hx : Loc X.env.scope x := by first | exact Or.inl rfl | exact Or.inr rfl)
    (hf : X.fn x = true ∨ X.env.scope.names.lookup x = some .local := by first | exact .inl rfl | exact .inr rfl) : IS T X E (.AugAssign (.Name x pos') op e pos) (mAug i f m) :=
  PS.imp (ps_aug G.nd hi hx he ho hf) fun D σ H ⟨w, ρ, h, s, en, p⟩ => by
    unfold mAug at p
    cases q : ρ[i]? with
    | none => rw [q] at p; exact p.elim
    | some o1 =>
      cases o1 with
      | none => rw [q] at p; exact p.elim
      | some x =>
        rw [q] at p
        obtain ⟨v', e1, e2⟩ := en.get q
        obtain ⟨v, rfl, rv⟩ := e2 x rfl
        refine ⟨v, e1, w, ρ, h, s, en, PostS.of en p fun y h1 w1 H1 u le s1 r1 p1 => ?_⟩
        cases ez : f x y h1 with
        | none => rw [ez] at p1; exact p1.elim
        | some z =>
          rw [ez] at p1
          exact o w1 h1 H1 x y z v u _ s1 (rv.mono le) r1 ez fun w' H' o' l s' r' => p1 w' _ H' l s' ((en.mono (le.trans l)).set r' i)
/-- xs.append(e) -/
def mApp (mo m : ME) : MS := fun ρ h => (mo ρ h).toS ρ fun o h1 => match o with
  | .loc j => (match h1[j]? with
    | some (.lst _) => (m ρ h1).toS ρ fun x h2 => (match h2[j]? with
      | some (.lst l) => if l.length < sizeLine then .nx ρ (h2.set j (.lst (l ++ [x]))) else .bad
      | _ => .bad)
    | _ => .bad)
  | _ => .bad
theorem is_app {o : Expr} {mo : ME} {apos cpos : Pos} (G : Gd T X E n) (ho : IE T X E o mo) (he : IE T X E e m) (hbase : attributeBase o "append" X.env (eval o X.env) = eval o X.env := by rfl)
    (hfew : ((backTo cpos (starEach [e] X.env)).all (fun x => !x.1) && (backToKw cpos (keywordEach [] X.env)).all (fun x => x.1.isSome)
      && decide ([e].length + ([] : List Keyword).length + (if ([] : List Keyword).isEmpty then 0 else 1) < 30)) = true := by rfl)
    (hline : (apos.endLine == cpos.line) = true := by rfl) (hs : starEach [e] X.env = (false, eval e X.env) :: starEach [] X.env := by rfl) (hplain : (backTo cpos (starEach [] X.env)).any (·.1) = false := by rfl)
    (hsw : swapsWith (.Call (.Attribute o "append" apos) [e] [] cpos) none pos.line X.env = pure false := by rfl) : IS T X E (.Expr (.Call (.Attribute o "append" apos) [e] [] cpos) pos) (mApp mo m) :=
  PS.imp (ps_expr (pe_bm PySem.F.plainAttrs_list PySem.F.slot_list_append PySem.F.type_list_append mt_append ho (pa_cons he pa_nil hs) hbase hfew hline hs hplain) hsw) fun D σ H ⟨w, ρ, h, s, en, p⟩ =>
    ⟨w, ρ, h, s, en, PostS.of en p fun o h1 w1 H1 ov le s1 r1 p1 => by
      cases o with
      | loc j =>
        dsimp only at p1
        cases hc : h1[j]? with
        | none => rw [hc] at p1; exact p1.elim
        | some c =>
          rw [hc] at p1
          cases c with
          | lst l0 =>
            obtain ⟨a, rfl, ea, vs0, g1, g2⟩ := loc_at s1 r1 hc
            refine ⟨.inl ⟨rfl, vs0, by rw [G.K]; exact .of g1⟩, w1, ρ, h1, s1, en.mono le, PostS.of (en.mono le) p1 fun x h2 w2 H2 u le2 s2 r2 p2 => ?_⟩
            cases q : h2[j]? with
            | none => rw [q] at p2; exact p2.elim
            | some c =>
              rw [q] at p2
              cases c with
              | lst l =>
                dsimp only at p2
                split at p2
                · rename_i hz
                  obtain ⟨a', e0, e2, vs, e3, e4⟩ := loc_at s2 (⟨a, rfl, le2.get ea⟩ : VR T w2 (.loc j) (.ref a)) q
                  cases e0
                  refine ⟨a, vs, u, rfl, rfl, e3, by rw [← e4.length]; exact hz, ?_⟩
                  have s3 := s2.write (c := .lst l) (d := .lst (l ++ [x])) (u := .lst (vs ++ [u])) q e2 trivial ⟨_, upd_same, e4.append (.cons r2 .nil)⟩
                  exact p2 w2 σ _ (Le.refl _) s3 (en.mono (le.trans le2))
                · exact p2.elim
              | _ => exact p2.elim
          | _ => exact p1.elim
      | _ => exact p1.elim⟩
end
end Fz

/-! ### enumerate(tuple) -/
namespace Fz
open PySem PySem.Spec PyProof.Rows L2
open Sem (wp)
open AutoSeq1 (wpAny_loadPart')
theorem meets_enumT (l : Addr) (items : Array Value) :
    Meets (Builtin.«enumerate.__new__» ⟨[.type "enumerate", .ref l], []⟩) (fun _ R s => s.heap.IsTuple l items ∧
      R (.ok (.ret (.ref (s.heap.push { cls := .type "tuple_iterator", data := .fields #[.ref l, .int 0 0] }).objs.size)))
        { s with heap := (s.heap.push { cls := .type "tuple_iterator", data := .fields #[.ref l, .int 0 0] }).push { cls := .type "enumerate", data := .fields #[.none, .bool false, .ref s.heap.objs.size, rawInt 0, .none, .none] } }) :=
  .of_wp fun prog w A R s h => by
    obtain ⟨hp, g, d, tk, os⟩ := s
    obtain ⟨hl, h⟩ := h
    have hsub := sub_enumerate
    have q1 : ∀ {A' : Around} {E : Value → Shared → Prop} {Q : Value → Shared → Prop}, Q (.ref hp.objs.size) ⟨hp.push { cls := .type "tuple_iterator", data := .fields #[.ref l, .int 0 0] }, g, d, tk, os⟩ → wpAny (model prog w) A' (pyIter (.ref l)) Q E ⟨hp, g, d, tk, os⟩ :=
      fun q => wpAny_pyIter_tuple hl q
    wp_walk using q1
    refine wpAny_stack_any fun st => wpAny_pure ?_
    split
    · rename_i c _ _ _ _ _
      cases (c == Value.type "enumerate")
      · wp_walk using q1
        exact ⟨_, rfl, h⟩
      · wp_walk using q1
        exact ⟨_, rfl, h⟩
    · wp_walk using q1
      exact ⟨_, rfl, h⟩
theorem call_enumT {prog : Program} {w : World} {A : Around} {E : Value → Shared → Prop} {s : Shared} {l : Addr} {items : Array Value} {Q : Value → Shared → Prop} (hL : s.heap.IsTuple l items)
    (h : ∀ h', IsEnum h' (s.heap.objs.size + 1) s.heap.objs.size 0 .none → h'.IsTupleIter s.heap.objs.size l 0 → h'.objs.size = s.heap.objs.size + 2 →
      (∀ b o, s.heap.get? b = some o → h'.get? b = some o) → Q (.ref (s.heap.objs.size + 1)) { s with heap := h' }) :
    wpAny (model prog w) A (call (.type "enumerate") [.ref l]) Q E s := by
  refine callType_new F.called_enumerate (by decide) (F.typeCall_enumerate_1 _) (F.newCall_enumerate_1 _) (fun obj => F.args_object_init_2 obj _) F.entry_enumerate_new
    (meets_enumT l items) ⟨hL, ?_⟩
  have hz : (s.heap.push { cls := .type "tuple_iterator", data := .fields #[.ref l, .int 0 0] }).objs.size = s.heap.objs.size + 1 := Heap.size_push ..
  show _ ∧ _
  rw [hz]
  have he : IsEnum ((s.heap.push { cls := .type "tuple_iterator", data := .fields #[.ref l, .int 0 0] }).push
      { cls := .type "enumerate", data := .fields #[.none, .bool false, .ref s.heap.objs.size, rawInt 0, .none, .none] }) (s.heap.objs.size + 1) s.heap.objs.size 0 .none := by
    have := Heap.get?_push_size (s.heap.push { cls := .type "tuple_iterator", data := .fields #[.ref l, .int 0 0] })
      (o := { cls := .type "enumerate", data := .fields #[.none, .bool false, .ref s.heap.objs.size, rawInt 0, .none, .none] }) rfl
    rw [hz] at this; exact this
  refine ⟨⟨_, he, rfl⟩, h _ he ⟨_, Heap.get?_push_of_some _ (Heap.get?_push_size _ rfl), rfl, rfl⟩ (by rw [Heap.size_push, hz]) fun b o x => Heap.get?_push_of_some _ (Heap.get?_push_of_some _ x)⟩
theorem enumT_end {prog : Program} {w : World} {A : Around} {E : Value → Shared → Prop} {s : Shared} {e it l : Addr} {i : Nat} {items : Array Value} {old : Value} {Q : Option Value → Shared → Prop} (hh : A.handled = none)
    (he : IsEnum s.heap e it i old) (hit : s.heap.IsTupleIter it l i) (hl : s.heap.IsTuple l items) (hx : items[i]? = none)
    (hQ : ∀ h', Heap.ExtBut it s.heap h' → Q none { s with heap := h' }) : wpAny (model prog w) A (pyNext (.ref e)) Q E s := by
  have hT : s.TypeIs (.ref e) "enumerate" := ⟨_, he, rfl⟩
  unfold pyNext
  refine wpAny_bind (wpAny_attempt (wpAny_callSpecial?_slot (name := Str.ofString "__next__") hT F.slot_enumerate_next
    (wpAny_call_entry F.slot_enumerate_next hT F.entry_enumerate_next ?_ (F.args_enumerate_next_1 _))))
  show wpAny _ _ (field (.ref e) 2 >>= _) _ _ _
  refine wpAny_bind (wpAny_field he rfl (x := .ref it) rfl ?_)
  refine wpAny_bind (wpAny_nextOf_tuple_end hh hit hl hx fun h' x he' hx' => ?_)
  obtain ⟨o, ho, hc⟩ := hx'
  refine wpAny_bind (wpAny_isInstance (T := "StopIteration") (b := true) ⟨o, ho, hc⟩ isSubtype_stop ?_)
  exact wpAny_pure (hQ _ he')
def IteT (K : PySem.W.Frag) (a : Addr) : It :=
  ⟨fun i H => ∃ (xs : List V) (x : V), SqT K H a xs ∧ xs[i]? = some x, fun i H v H' => ∃ T x, v = .ref T ∧ H T = none ∧ H' = upd H T (.tup [.int (i : Nat), x]) ∧ ∀ xs, SqT K H a xs → xs[i]? = some x, fun i H => ∃ xs : List V, SqT K H a xs ∧ xs.length ≤ i⟩
theorem turn_enumT {P : Program} {w : World} {K : PySem.W.Frag} {elts : List Expr} {kk : Nat} {tpos : Pos} (a e it : Addr) (hae : a ≠ e) (hai : a ≠ it) :
    Turn P w K (.Tuple elts kk tpos) (IteT K a) [e, it] e (fun i h => (∃ old, IsEnum h e it ((i : Nat) : Int) old) ∧ h.IsTupleIter it a i ∧ e ≠ it) where
  mem := by simp
  obj := fun i h st b hb => by
    obtain ⟨⟨old, he⟩, ⟨o, ho, hc, hd⟩, _⟩ := st
    have e' : b = e ∨ b = it := by simpa using hb
    rcases e' with z | z
    · rw [z]; exact ⟨_, he, fun v q => nomatch q⟩
    · rw [z]; exact ⟨o, ho, fun v q => by rw [hd] at q; cases q⟩
  keep := fun i h h' st k => let ⟨⟨old, he⟩, hi, hne⟩ := st; ⟨⟨old, k e (by simp) _ he⟩, hi.at fun o q => k it (by simp) o q, hne⟩
  item := by
    intro X hP hw hK hc i pins s σ H E I hf st hg
    subst hP hw hK
    obtain ⟨⟨old, he⟩, hit, hne⟩ := st
    obtain ⟨xs, x, hq, hx⟩ := hg
    obtain ⟨its, rv, p, hz⟩ := I.tuple hq
    obtain ⟨u, hu, ru⟩ := rv.get hx
    have hel : e < s.heap.objs.size := Heap.lt_size he
    have hil : it < s.heap.objs.size := by obtain ⟨_, q, _⟩ := hit; exact Heap.lt_size q
    have ht : s.heap.IsTuple a its.toArray := by
      obtain ⟨o, h1, h2, k, h3⟩ := p
      exact ⟨o, h1, h2, k, h3⟩
    have hlt : i < its.toArray.size := by
      have := (List.getElem?_eq_some_iff.mp hu).1
      simpa using this
    refine wpAny_pyNext_enum_itemC (Draws.tuple (A := X.A.in1) (I.ok.hd hc) it a hai its.toArray) he ⟨hit, ht⟩ hlt hne (by simp; exact ⟨hne, Ne.symm hae⟩) fun x' h' tk hx' ho st' hT hsz hk => ?_
    have hxx : x' = u := by
      have : its.toArray[i]? = some u := by simpa using hu
      rw [this] at hx'
      exact (Option.some.inj hx').symm
    subst hxx
    refine ⟨_, rfl, wpAny_letOwnedTupleGo_enum (s := { s with heap := h', toks := tk + 1 }) ho fun h'' he' sb => ?_⟩
    have hT2 : h''.get? s.heap.objs.size = some { cls := .type "tuple", data := .seq #[.int i tk, x'] } := (sb.2 _ (Nat.ne_of_gt hel)).trans hT
    have new : ObjOk X.prog X.w (upd H s.heap.objs.size (.tup [.int (i : Nat), x])) h'' s.heap.objs.size (.tup [.int (i : Nat), x]) :=
      ⟨by show 2 ≤ sizeLine; decide, [.int i tk, x'], .cons ⟨_, rfl⟩ (.cons ru .nil), ⟨_, hT2, rfl, _, rfl⟩⟩
    have I1 : Inv X pins σ (upd H s.heap.objs.size (.tup [.int (i : Nat), x])) { s with heap := h'', toks := tk + 1 } :=
      I.turnedNew (ch := [e, it]) (fun b ob hb q => (sb.2 b (fun z => hb (by simp [z]))).trans (hk b ob (fun z => hb (by simp [z])) (fun z => hb (by simp [z])) q)) hf (Nat.le_refl _) new
    refine ⟨.ref s.heap.objs.size, _, I1, rfl, ⟨_, x, rfl, I.hok.fresh (Nat.le_refl _), rfl, fun ys hy => by rw [I.tuple_inj hy hq]; exact hx⟩, ⟨⟨x', ?_⟩, st'.1.at fun o q => (sb.2 it (Ne.symm hne)).trans q, hne⟩, fun b hb => ?_⟩
    · have e1 : ((i + 1 : Nat) : Int) = (i : Int) + 1 := by omega
      rw [e1]; exact he'
    · have hb' : b < s.heap.objs.size := by
        have e' : b = e ∨ b = it := by simpa using hb
        rcases e' with z | z
        · rw [z]; exact hel
        · rw [z]; exact hil
      rw [upd_ne (Nat.ne_of_lt hb')]
      exact (hf b hb).1
  done := by
    intro X hP hw hK hc i pins s σ H E I hf st hg
    subst hP hw hK
    obtain ⟨⟨old, he⟩, hit, hne⟩ := st
    obtain ⟨xs, hq, hx⟩ := hg
    obtain ⟨its, rv, p, hz⟩ := I.tuple hq
    obtain ⟨f0, f1, f2, f3, f4, f5⟩ := hf it (by simp)
    have hl := rv.length
    have ht : s.heap.IsTuple a its.toArray := by
      obtain ⟨o, h1, h2, k, h3⟩ := p
      exact ⟨o, h1, h2, k, h3⟩
    exact enumT_end (I.ok.hd hc) he hit ht (by simp; omega) fun h' eb => ⟨rfl, I.turned (t' := s.toks) (fun b o hb q => eb b o hb q) f0 f1 f3 f4 f5⟩
  self := fun A i s Q E st h => let ⟨⟨_, he⟩, _⟩ := st; wpAny_pyIter_enum he h
def iEnumT (K : PySem.W.Frag) (ta : TA) : TI := fun σ H R => ta σ H fun vs H1 => ∃ a xs, vs = [.ref a] ∧ SqT K H1 a xs ∧ R (IteT K a) H1
theorem pi_enumT {X : Cx} {e : Expr} {ta : TA} {p pos tpos : Pos} {elts : List Expr} {kk : Nat} (hg : Gl X "enumerate") (hm : X.mg "enumerate" = none) (ha : PA X [e] ta) (hs : starEach [e] X.env = [(false, eval e X.env)] := by rfl) :
    PI X (.Tuple elts kk tpos) (.Call (.Name "enumerate" p) [e] [] pos) (iEnumT X.K ta) := by
  refine ⟨fun pins s σ H R I h => ?_⟩
  refine Call_ (ld_blt I hg hm boot_enumerate (PyProof.Rows.callWith_type1 (thn (ha.run pos pins s σ H _ I h) fun us s1 ⟨vs, H1, I1, r1, q1⟩ => ?_) hs rfl))
  obtain ⟨a, xs, ex, hq, q⟩ := q1
  subst ex
  cases r1 with
  | cons r rr =>
    cases rr
    cases r
    obtain ⟨its, rv, p', hz⟩ := I1.tuple hq
    have ht : s1.heap.IsTuple a its.toArray := by
      obtain ⟨o, h1, h2, k, h3⟩ := p'
      exact ⟨o, h1, h2, k, h3⟩
    have hal : a < s1.heap.objs.size := by obtain ⟨o, h1, _⟩ := p'; exact Heap.lt_size h1
    refine call_enumT ht fun h' he hit hsz hk => wpAny_pyIter_enum he ?_
    have I2 : Inv X pins σ H1 { s1 with heap := h' } := I1.kept (t' := s1.toks) hk
    refine ⟨s1.heap.objs.size + 1, [s1.heap.objs.size + 1, s1.heap.objs.size], _, _, H1, rfl, I2, turn_enumT a (s1.heap.objs.size + 1) s1.heap.objs.size (Nat.ne_of_lt (Nat.lt_succ_of_lt hal)) (Nat.ne_of_lt hal), ⟨⟨.none, he⟩, hit, Nat.succ_ne_self _⟩, fun b hb => ?_, q⟩
    have e' : b = s1.heap.objs.size + 1 ∨ b = s1.heap.objs.size := by simpa using hb
    have hle : s1.heap.objs.size ≤ b := by
      rcases e' with z | z
      · rw [z]; exact Nat.le_add_right _ _
      · rw [z]; exact Nat.le_refl _
    exact I1.fpOk hle (I1.hok.fresh hle)

/-! ### what a loop goes over -/
/-- at turn i in the heap as it stands: nothing known, the end, an item -/
abbrev Src := Nat → List Cell → Option (Option W)
/-- the source and a number that the turns lie below -/
abbrev MI := EnvW → List Cell → R (Src × Nat)
def SrcOk (T : Tab) (w : Wd) (src : Src) (J : It) : Prop := ∀ (i : Nat) (w' : Wd) (h' : List Cell) (H' : Hp), Le w w' → StR T w' h' H' →
  (src i h' = some none → J.stop i H') ∧ ∀ y, src i h' = some (some y) → J.go i H' ∧ ∀ x H'', J.yld i H' x H'' → ∃ w'', Le w' w'' ∧ StR T w'' h' H'' ∧ VR T w'' y x
def relI (T : Tab) (w : Wd) (s : Src × Nat) (J : It) : Prop := SrcOk T w s.1 J
def tiI (T : Tab) (E : WX) (m : MI) : TI := fun σ H RR => ∃ w ρ h, StR T w h H ∧ EnvR T w ρ σ ∧ Post T (relI T) w (fun J H' => RR J H') (fun c d H' => E c d σ H') (m ρ h)
abbrev II (T : Tab) (X : Cx) (E : WX) (tg iter : Expr) (m : MI) : Prop := PI X tg iter (tiI T E m)
section
variable {T : Tab} {X : Cx} {E : WX} {n : Nat} {tg a b c e iter : Expr} {ma mb m : ME} {pos : Pos}
theorem PI.imp {t t' : TI} (h : PI X tg iter t) (k : ∀ σ H R, t' σ H R → t σ H R) : PI X tg iter t' := ⟨fun pins s σ H R I q => h.run pins s σ H R I (k σ H R q)⟩
theorem PI.or {t t' : TI} (h : PI X tg iter t) (h' : PI X tg iter t') : PI X tg iter (fun σ H R => t σ H R ∨ t' σ H R) := ⟨fun pins s σ H R I q => q.elim (h.run pins s σ H R I) (h'.run pins s σ H R I)⟩
/-- a list, a tuple, a text -/
def srcSeq (x : W) : Src := fun i h => match x with
  | .str s => some ((s.cps[i]?).map fun c => .str ⟨#[c]⟩)
  | _ => match rdS h x with
    | some l => some l[i]?
    | none => none
def seqLen (h : List Cell) (x : W) : Option Nat := match x with
  | .str s => some s.cps.size
  | _ => match rdS h x with
    | some l => some l.length
    | none => none
def mISeq (m : ME) : MI := fun ρ h => (m ρ h).bind fun x h1 => match seqLen h1 x with
  | some k => .ok (srcSeq x, k + 1) h1
  | none => .bad
theorem src_list {w : Wd} {x : W} {a : Addr} (hx : ∀ s, x ≠ .str s) (r : VR T w x (.ref a)) (nt : ∀ l, x ≠ .tup l) : SrcOk T w (srcSeq x) (Itl T.K a) := by
  intro i w' h' H' le s
  have e0 : srcSeq x i h' = (match rdL h' x with | some l => some l[i]? | none => none) := by
    cases x with
    | str s => exact absurd rfl (hx s)
    | tup l => exact absurd rfl (nt l)
    | _ => rfl
  rw [e0]
  cases q : rdL h' x with
  | none => exact ⟨(fun z => by cases z), (fun y z => by cases z)⟩
  | some l =>
    obtain ⟨a', vs, ea, h1, h2⟩ := rdL_at s (r.mono le) q
    cases ea
    refine ⟨fun z => ⟨vs, h1, ?_⟩, fun y z => ?_⟩
    · have z : l[i]? = none := Option.some.inj z
      rw [← h2.length]
      exact List.getElem?_eq_none_iff.mp z
    · have z : l[i]? = some y := Option.some.inj z
      obtain ⟨v, hv, rv⟩ := h2.get z
      refine ⟨⟨vs, v, h1, hv⟩, fun u H'' hy => ?_⟩
      obtain ⟨rfl, hu⟩ := hy
      have := hu vs h1
      rw [hv] at this
      cases this
      exact ⟨w', Le.refl _, s, rv⟩
theorem src_tup {w : Wd} {l : List W} {a : Addr} (r : VR T w (.tup l) (.ref a)) : SrcOk T w (srcSeq (.tup l)) (Itt T.K a) := by
  intro i w' h' H' le s
  obtain ⟨a', vs, ea, h1, h2⟩ := tup_at s (r.mono le)
  cases ea
  refine ⟨fun z => ⟨vs, h1, ?_⟩, fun y z => ?_⟩
  · have z : l[i]? = none := Option.some.inj z
    rw [← h2.length]
    exact List.getElem?_eq_none_iff.mp z
  · have z : l[i]? = some y := Option.some.inj z
    obtain ⟨v, hv, rv⟩ := h2.get z
    refine ⟨⟨vs, v, h1, hv⟩, fun u H'' hy => ?_⟩
    obtain ⟨rfl, hu⟩ := hy
    have := hu vs h1
    rw [hv] at this
    cases this
    exact ⟨w', Le.refl _, s, rv⟩
theorem src_str {w : Wd} {z : Str} : SrcOk T w (srcSeq (.str z)) (Its z) := by
  intro i w' h' H' le s
  show (some ((z.cps[i]?).map fun c => W.str ⟨#[c]⟩) = some none → _) ∧ _
  refine ⟨fun q => ?_, fun y q => ?_⟩
  · have q : (z.cps[i]?).map (fun c => W.str ⟨#[c]⟩) = none := Option.some.inj q
    have : z.cps[i]? = none := by cases e : z.cps[i]? with | none => rfl | some c => rw [e] at q; cases q
    show z.cps.size ≤ i
    exact Array.getElem?_eq_none_iff.mp this
  · have q : (z.cps[i]?).map (fun c => W.str ⟨#[c]⟩) = some y := Option.some.inj q
    cases e : z.cps[i]? with
    | none => rw [e] at q; cases q
    | some c =>
      rw [e] at q
      cases q
      refine ⟨(Array.getElem?_eq_some_iff.mp e).1, fun u H'' hy => ?_⟩
      obtain ⟨rfl, c', hc, rfl⟩ := hy
      rw [e] at hc
      cases hc
      exact ⟨w', Le.refl _, s, rfl⟩
theorem ii_seq (G : Gd T X E n) (he : IE T X E e m) : II T X E tg e (mISeq m) :=
  PI.imp (PI.or (pi_list he) (PI.or (pi_tup he) (pi_str he))) fun σ H RR ⟨w, ρ, h, s, en, p⟩ => by
    unfold mISeq at p
    cases q : m ρ h with
    | bad => rw [q] at p; exact p.elim
    | exc c vs h1 =>
      rw [q] at p
      exact .inl ⟨w, ρ, h, s, en, by rw [q]; exact p⟩
    | ok x h1 =>
      rw [q] at p
      have p : Post T (relI T) w (fun J H' => RR J H') (fun c d H' => E c d σ H') (match seqLen h1 x with | some k => R.ok (srcSeq x, k + 1) h1 | none => .bad) := p
      have lst : (∀ s, x ≠ .str s) → (∀ l, x ≠ .tup l) → iList X.K (teI T E m) σ H RR := fun n1 n2 => by
        refine ⟨w, ρ, h, s, en, ?_⟩
        rw [q]
        intro w1 H1 v le s1 r1
        have e0 : seqLen h1 x = (match rdL h1 x with | some l => some l.length | none => none) := by
          cases x with
          | str s => exact absurd rfl (n1 s)
          | tup l => exact absurd rfl (n2 l)
          | _ => rfl
        rw [e0] at p
        cases ql : rdL h1 x with
        | none => rw [ql] at p; exact p.elim
        | some l =>
          rw [ql] at p
          obtain ⟨a, vs, rfl, g1, g2⟩ := rdL_at s1 r1 ql
          rw [G.K]
          exact ⟨a, rfl, ⟨vs, g1⟩, p w1 H1 (Itl T.K a) le s1 (src_list n1 r1 n2)⟩
      cases x with
      | str z =>
        refine .inr (.inr ⟨w, ρ, h, s, en, ?_⟩)
        rw [q]
        intro w1 H1 v le s1 r1
        cases r1
        exact ⟨z, rfl, p w1 H1 (Its z) le s1 src_str⟩
      | tup l =>
        refine .inr (.inl ⟨w, ρ, h, s, en, ?_⟩)
        rw [q]
        intro w1 H1 v le s1 r1
        obtain ⟨a, vs, rfl, g1, g2⟩ := tup_at s1 r1
        rw [G.K]
        exact ⟨a, rfl, ⟨vs, g1⟩, p w1 H1 (Itt T.K a) le s1 (src_tup r1)⟩
      | _ => exact .inl (lst (fun _ z => by cases z) (fun _ z => by cases z))
/-- range -/
def srcRng (lo c : Int) (k : Nat) : Src := fun i _ => if i < k then some (some (.int (lo + (i : Nat) * c))) else some none
theorem src_rng {w : Wd} {lo : Int} {k : Nat} : SrcOk T w (srcRng lo 1 k) (Itr lo k) := by
  intro i w' h' H' le s
  unfold srcRng
  by_cases hi : i < k
  · rw [if_pos hi]
    refine ⟨(fun z => by cases z), fun y z => ⟨hi, fun u H'' hy => ?_⟩⟩
    cases z
    obtain ⟨rfl, rfl⟩ := hy
    exact ⟨w', Le.refl _, s, by show V.int _ = V.int _; rw [Int.mul_one]⟩
  · rw [if_neg hi]
    exact ⟨(fun _ => by show k ≤ i; omega), (fun y z => by cases z)⟩
theorem src_rngC {w : Wd} {lo c : Int} {k : Nat} : SrcOk T w (srcRng lo c k) (Itc lo c k) := by
  intro i w' h' H' le s
  unfold srcRng
  by_cases hi : i < k
  · rw [if_pos hi]
    refine ⟨(fun z => by cases z), fun y z => ⟨hi, fun u H'' hy => ?_⟩⟩
    cases z
    obtain ⟨rfl, rfl⟩ := hy
    exact ⟨w', Le.refl _, s, rfl⟩
  · rw [if_neg hi]
    exact ⟨(fun _ => by show k ≤ i; omega), (fun y z => by cases z)⟩
variable {mr : MA}
def inR (i : Int) : Bool := decide (-(2 ^ 62) ≤ i ∧ i < 2 ^ 62)
theorem inR_ok {i : Int} (h : inR i = true) : -(2 ^ 62) ≤ i ∧ i < 2 ^ 62 := of_decide_eq_true h
def mIRng1 (mr : MA) : MI := fun ρ h => (mr ρ h).bind fun xs h1 => match xs with
  | [.int j] => if inR j then .ok (srcRng 0 1 j.toNat, j.toNat + 1) h1 else .bad
  | _ => .bad
def mIRng2 (mr : MA) : MI := fun ρ h => (mr ρ h).bind fun xs h1 => match xs with
  | [.int i, .int j] => if inR i && inR j then .ok (srcRng i 1 (j - i).toNat, (j - i).toNat + 1) h1 else .bad
  | _ => .bad
/-- range(i, j, -1) -/
def mIRngD (mr : MA) : MI := fun ρ h => (mr ρ h).bind fun xs h1 => match xs with
  | [.int i, .int j, .int (-1)] => if inR i && inR j then .ok (srcRng i (-1) (i - j).toNat, (i - j).toNat + 1) h1 else .bad
  | _ => .bad
theorem all3 {α β : Type} {R : α → β → Prop} {x y z : α} {m : List β} (r : All2 R [x, y, z] m) : ∃ x' y' z', m = [x', y', z'] ∧ R x x' ∧ R y y' ∧ R z z' := by
  cases r with
  | cons h t => obtain ⟨a, b, rfl, h1, h2⟩ := all2 t; exact ⟨_, a, b, rfl, h, h1, h2⟩
theorem ii_range1 {p : Pos} (ha : IE T X E a ma) (hm : X.mg "range" = none) (hg : Gl X "range" := by rfl) (hs : starEach [a] X.env = [(false, eval a X.env)] := by rfl) : II T X E tg (.Call (.Name "range" p) [a] [] pos) (mIRng1 (mCons ma mNil)) :=
  PI.imp (pi_range1 hg hm (ia_cons ha ia_nil hs) hs) fun σ H RR ⟨w, ρ, h, s, en, p⟩ => ⟨w, ρ, h, s, en, Post.bind p fun xs h1 w1 H1 vs le s1 r1 p1 => by
    split at p1
    · rename_i j
      split at p1
      · rename_i hj
        obtain ⟨v, rfl, e⟩ := all1 r1
        cases e
        have := inR_ok hj
        exact ⟨j, rfl, this.1, this.2, p1 w1 H1 _ (Le.refl _) s1 src_rng⟩
      · exact p1.elim
    · exact p1.elim⟩
theorem ii_range2 {p : Pos} (ha : IE T X E a ma) (hb : IE T X E b mb) (hm : X.mg "range" = none) (hg : Gl X "range" := by rfl) (hs : starEach [a, b] X.env = [(false, eval a X.env), (false, eval b X.env)] := by rfl) (hs2 : starEach [b] X.env = [(false, eval b X.env)] := by rfl) :
    II T X E tg (.Call (.Name "range" p) [a, b] [] pos) (mIRng2 (mCons ma (mCons mb mNil))) :=
  PI.imp (pi_range2 hg hm (ia_cons ha (ia_cons hb ia_nil hs2) (hs.trans (by rw [hs2]))) hs hs2) fun σ H RR ⟨w, ρ, h, s, en, p⟩ => ⟨w, ρ, h, s, en, Post.bind p fun xs h1 w1 H1 vs le s1 r1 p1 => by
    split at p1
    · rename_i i j
      split at p1
      · rename_i hj
        rw [Bool.and_eq_true] at hj
        obtain ⟨v, u, rfl, e, e2⟩ := all2 r1
        cases e
        cases e2
        have h1 := inR_ok hj.1
        have h2 := inR_ok hj.2
        exact ⟨i, j, rfl, ⟨h1.1, h1.2, h2.1, h2.2⟩, p1 w1 H1 _ (Le.refl _) s1 src_rng⟩
      · exact p1.elim
    · exact p1.elim⟩
variable {mc : ME}
theorem ii_rangeD {p : Pos} (ha : IE T X E a ma) (hb : IE T X E b mb) (hc : IE T X E c mc) (hm : X.mg "range" = none) (hg : Gl X "range" := by rfl) (hs : starEach [a, b, c] X.env = (false, eval a X.env) :: starEach [b, c] X.env := by rfl)
    (hs2 : starEach [b, c] X.env = (false, eval b X.env) :: starEach [c] X.env := by rfl) (hs3 : starEach [c] X.env = (false, eval c X.env) :: starEach [] X.env := by rfl) (hpl : (backTo pos (starEach [b, c] X.env)).any (·.1) = false := by rfl) :
    II T X E tg (.Call (.Name "range" p) [a, b, c] [] pos) (mIRngD (mCons ma (mCons mb (mCons mc mNil)))) :=
  PI.imp (pi_range3 hg hm (ia_cons ha (ia_cons hb (ia_cons hc ia_nil hs3) hs2) hs) hs hpl) fun σ H RR ⟨w, ρ, h, s, en, p⟩ => ⟨w, ρ, h, s, en, Post.bind p fun xs h1 w1 H1 vs le s1 r1 p1 => by
    split at p1
    · rename_i i j
      split at p1
      · rename_i hj
        rw [Bool.and_eq_true] at hj
        obtain ⟨v, u, t, rfl, e, e2, e3⟩ := all3 r1
        cases e
        cases e2
        cases e3
        have h1 := inR_ok hj.1
        have h2 := inR_ok hj.2
        exact ⟨i, j, -1, _, rfl, RgC.neg h1.1 h1.2 h2.1 h2.2, p1 w1 H1 _ (Le.refl _) s1 src_rngC⟩
      · exact p1.elim
    · exact p1.elim⟩
/-- enumerate of a list or a tuple -/
def srcEnum (x : W) : Src := fun i h => match rdS h x with
  | some l => some ((l[i]?).map fun y => .tup [.int (i : Nat), y])
  | none => none
def mIEnum (mr : MA) : MI := fun ρ h => (mr ρ h).bind fun xs h1 => match xs with
  | [x] => (match rdS h1 x with
    | some l => .ok (srcEnum x, l.length + 1) h1
    | none => .bad)
  | _ => .bad
theorem new_pair {w : Wd} {h : List Cell} {H : Hp} {x y : W} {v u : V} {t : Addr} (s : StR T w h H) (r1 : VR T w x v) (r2 : VR T w y u) (ht : H t = none) : ∃ w'', Le w w'' ∧ StR T w'' h (upd H t (.tup [v, u])) ∧ VR T w'' (.tup [x, y]) (.ref t) := by
  obtain ⟨s', le⟩ := s.frozen (o := .tup [x, y]) (u := .tup [v, u]) ht ⟨_, upd_same, .cons r1 (.cons r2 .nil)⟩
  exact ⟨_, le, s', .inl ⟨t, rfl, if_pos rfl⟩⟩
theorem src_enumL {w : Wd} {x : W} {a : Addr} (r : VR T w x (.ref a)) (nt : ∀ l, x ≠ .tup l) : SrcOk T w (srcEnum x) (Ite T.K a) := by
  intro i w' h' H' le s
  have e0 : srcEnum x i h' = (match rdL h' x with | some l => some ((l[i]?).map fun y => .tup [.int (i : Nat), y]) | none => none) := by
    cases x with
    | tup l => exact absurd rfl (nt l)
    | _ => rfl
  rw [e0]
  cases q : rdL h' x with
  | none => exact ⟨(fun z => by cases z), (fun y z => by cases z)⟩
  | some l =>
    obtain ⟨a', vs, ea, h1, h2⟩ := rdL_at s (r.mono le) q
    cases ea
    dsimp only
    cases e : l[i]? with
    | none =>
      refine ⟨fun z => ⟨vs, h1, ?_⟩, fun y z => by cases z⟩
      rw [← h2.length]
      exact List.getElem?_eq_none_iff.mp e
    | some y =>
      refine ⟨(fun z => by cases z), fun z q => ?_⟩
      cases q
      obtain ⟨v, hv, rv⟩ := h2.get e
      refine ⟨⟨vs, v, h1, hv⟩, fun u H'' hy => ?_⟩
      obtain ⟨t, v', rfl, ht, rfl, hu⟩ := hy
      have := hu vs h1
      rw [hv] at this
      cases this
      exact new_pair s rfl rv ht
theorem src_enumT {w : Wd} {l : List W} {a : Addr} (r : VR T w (.tup l) (.ref a)) : SrcOk T w (srcEnum (.tup l)) (IteT T.K a) := by
  intro i w' h' H' le s
  obtain ⟨a', vs, ea, h1, h2⟩ := tup_at s (r.mono le)
  cases ea
  show (some ((l[i]?).map fun y => W.tup [.int (i : Nat), y]) = some none → _) ∧ ∀ y, some ((l[i]?).map fun y => W.tup [.int (i : Nat), y]) = some (some y) → _
  cases e : l[i]? with
  | none =>
    refine ⟨fun z => ⟨vs, h1, ?_⟩, fun y z => by cases z⟩
    rw [← h2.length]
    exact List.getElem?_eq_none_iff.mp e
  | some y =>
    refine ⟨fun z => (by cases z), fun z q => ?_⟩
    cases q
    obtain ⟨v, hv, rv⟩ := h2.get e
    refine ⟨⟨vs, v, h1, hv⟩, fun u H'' hy => ?_⟩
    obtain ⟨t, v', rfl, ht, rfl, hu⟩ := hy
    have := hu vs h1
    rw [hv] at this
    cases this
    exact new_pair s rfl rv ht
theorem ii_enum (G : Gd T X E n) {p tpos : Pos} {elts : List Expr} {kk : Nat} (ha : IE T X E a ma) (hm : X.mg "enumerate" = none) (hg : Gl X "enumerate" := by rfl) (hs : starEach [a] X.env = [(false, eval a X.env)] := by rfl) :
    II T X E (.Tuple elts kk tpos) (.Call (.Name "enumerate" p) [a] [] pos) (mIEnum (mCons ma mNil)) :=
  PI.imp (PI.or (pi_enum hg hm (ia_cons ha ia_nil hs) hs) (pi_enumT hg hm (ia_cons ha ia_nil hs) hs)) fun σ H RR ⟨w, ρ, h, s, en, p⟩ => by
    unfold mIEnum at p
    cases q : mCons ma mNil ρ h with
    | bad => rw [q] at p; exact p.elim
    | exc c vs h1 =>
      rw [q] at p
      exact .inl ⟨w, ρ, h, s, en, by rw [q]; exact p⟩
    | ok xs h1 =>
      rw [q] at p
      match xs, q, p with
      | [], q, p => exact p.elim
      | _ :: _ :: _, q, p => exact p.elim
      | [x], q, p =>
        have p : Post T (relI T) w (fun J H' => RR J H') (fun c d H' => E c d σ H') (match rdS h1 x with
          | some l => R.ok (srcEnum x, l.length + 1) h1
          | none => .bad) := p
        cases ql : rdS h1 x with
        | none => rw [ql] at p; exact p.elim
        | some l =>
          rw [ql] at p
          have lst : (∀ l, x ≠ .tup l) → iEnum X.K (taI T E (mCons ma mNil)) σ H RR := fun n2 => by
            refine ⟨w, ρ, h, s, en, ?_⟩
            rw [q]
            intro w1 H1 v le s1 r1
            obtain ⟨v, rfl, r⟩ := all1 r1
            have ql' : rdL h1 x = some l := by
              cases x with
              | tup l => exact absurd rfl (n2 l)
              | _ => exact ql
            obtain ⟨a, vs, rfl, g1, g2⟩ := rdL_at s1 r ql'
            rw [G.K]
            exact ⟨a, vs, rfl, g1, p w1 H1 (Ite T.K a) le s1 (src_enumL r n2)⟩
          cases x with
          | tup l' =>
            refine .inr ⟨w, ρ, h, s, en, ?_⟩
            rw [q]
            intro w1 H1 v le s1 r1
            obtain ⟨v, rfl, r⟩ := all1 r1
            obtain ⟨a, vs, rfl, g1, g2⟩ := tup_at s1 r
            rw [G.K]
            exact ⟨a, vs, rfl, g1, p w1 H1 (IteT T.K a) le s1 (src_enumT r)⟩
          | _ => exact .inl (lst (fun _ z => by cases z))
/-! ### for -/
def forW (src : Src) (g : MG) (body : MS) : Nat → Nat → EnvW → List Cell → RS
  | 0, _, _, _ => .bad
  | k + 1, i, ρ, h => match src i h with
    | none => .bad
    | some none => .nx ρ h
    | some (some x) => (match gOnly (g x ρ h) with
      | .nx ρ1 h1 => (match body ρ1 h1 with
        | .nx ρ2 h2 => forW src g body k (i + 1) ρ2 h2
        | .ct ρ2 h2 => forW src g body k (i + 1) ρ2 h2
        | .bk ρ2 h2 => .nx ρ2 h2
        | r => r)
      | r => r)
def mFor (mi : MI) (g : MG) (body : MS) : MS := fun ρ h => (mi ρ h).toS ρ fun s h1 => forW s.1 g body s.2 0 ρ h1
theorem for_of {w : Wd} {D : Ends} {σ : L2.St} {H : Hp} {J : It} {src : Src} {g : MG} {body : MS} {ρ : EnvW} {h : List Cell} {k : Nat} (ok : SrcOk T w src J) (s : StR T w h H) (en : EnvR T w ρ σ) (p : PostS T w D E (forW src g body k 0 ρ h)) :
    ∃ W : Nat → Nat → L2.St → Hp → Prop, (∃ m, W 0 m σ H) ∧ ∀ i m σ H, W i m σ H → (J.stop i H ∧ D.nx σ H) ∨ (J.go i H ∧ ∃ N : L2.St → Hp → Prop, (∀ σ' H', N σ' H' → ∃ m', m' < m ∧ W (i + 1) m' σ' H') ∧
      ∀ x H', J.yld i H x H' → tgI T E g x σ H' fun σ2 H2 => tsI T E body { D with nx := N, ct := N, bk := D.nx } σ2 H2) := by
  refine ⟨fun i m σ H => ∃ w' ρ h, Le w w' ∧ StR T w' h H ∧ EnvR T w' ρ σ ∧ PostS T w' D E (forW src g body m i ρ h), ⟨k, w, ρ, h, Le.refl w, s, en, p⟩, ?_⟩
  rintro i m σ H ⟨w1, ρ, h, le, s, en, p⟩
  cases m with
  | zero => exact p.elim
  | succ m =>
    unfold forW at p
    obtain ⟨o1, o2⟩ := ok i w1 h H le s
    cases e : src i h with
    | none => rw [e] at p; exact p.elim
    | some o =>
      rw [e] at p o1 o2
      cases o with
      | none => exact .inl ⟨o1 rfl, p w1 σ H (Le.refl _) s en⟩
      | some y =>
        obtain ⟨g1, g2⟩ := o2 y rfl
        dsimp only at p
        refine .inr ⟨g1, fun σ' H' => ∃ w' ρ' h', Le w w' ∧ StR T w' h' H' ∧ EnvR T w' ρ' σ' ∧ PostS T w' D E (forW src g body m (i + 1) ρ' h'), fun σ' H' q => ⟨m, Nat.lt_succ_self _, q⟩, fun x H' hy => ?_⟩
        obtain ⟨w2, le2, s2, r2⟩ := g2 x H' hy
        refine ⟨w2, ρ, h, y, s2, en.mono le2, r2, ?_⟩
        have p := PostS.mono le2 p
        have le3 := le.trans le2
        cases eg : g y ρ h with
        | nx ρ1 h1 =>
          rw [eg] at p
          intro w3 σ3 H3 l3 s3 en3
          refine ⟨w3, ρ1, h1, s3, en3, ?_⟩
          have p : PostS T w2 D E (match body ρ1 h1 with
            | .nx ρ2 h2 => forW src g body m (i + 1) ρ2 h2
            | .ct ρ2 h2 => forW src g body m (i + 1) ρ2 h2
            | .bk ρ2 h2 => .nx ρ2 h2
            | r => r) := p
          cases eb : body ρ1 h1 with
          | nx ρ2 h2 =>
            rw [eb] at p
            exact fun w4 σ4 H4 l4 s4 en4 => ⟨w4, ρ2, h2, le3.trans (l3.trans l4), s4, en4, PostS.mono (l3.trans l4) p⟩
          | ct ρ2 h2 =>
            rw [eb] at p
            exact fun w4 σ4 H4 l4 s4 en4 => ⟨w4, ρ2, h2, le3.trans (l3.trans l4), s4, en4, PostS.mono (l3.trans l4) p⟩
          | bk ρ2 h2 =>
            rw [eb] at p
            exact PostS.mono l3 (show PostS T w2 { D with nx := D.nx, bk := D.nx } E (.nx ρ2 h2) from p)
          | rt x h2 =>
            rw [eb] at p
            exact fun w4 H4 v4 l4 s4 r4 => p w4 H4 v4 (l3.trans l4) s4 r4
          | exc c vs ρ2 h2 =>
            rw [eb] at p
            exact fun w4 σ4 H4 d l4 s4 en4 e4 => p w4 σ4 H4 d (l3.trans l4) s4 en4 e4
          | bad => rw [eb] at p; exact p
        | exc c vs ρ1 h1 =>
          rw [eg] at p
          exact p
        | rt x h1 => rw [eg] at p; exact p.elim
        | bk ρ1 h1 => rw [eg] at p; exact p.elim
        | ct ρ1 h1 => rw [eg] at p; exact p.elim
        | bad => rw [eg] at p; exact p.elim
variable {body : List Stmt} {mi : MI} {g : MG} {mb' : MS}
theorem is_for (G : Gd T X E n) (hi : II T X E tg iter mi) (hg : IG T X E tg g) (hb : ISs T X E body mb') (hs : ∀ x, foldedSetIterable iter X.env x = pure x := by intro _; rfl) : IS T X E (.For tg iter body [] pos) (mFor mi g mb') :=
  PS.imp (ps_for G.po G.calm hi hg hb hs) fun D σ H ⟨w, ρ, h, s, en, p⟩ => ⟨w, ρ, h, s, en, PostS.of en p fun src h1 w1 H1 J le s1 r1 p1 => for_of r1 s1 (en.mono le) p1⟩
/-! ### while -/
def whileW (c : MT) (body : MS) : Nat → EnvW → List Cell → RS
  | 0, _, _ => .bad
  | k + 1, ρ, h => (c ρ h).toS ρ fun b h1 => if b = true then (match body ρ h1 with
    | .nx ρ2 h2 => whileW c body k ρ2 h2
    | .ct ρ2 h2 => whileW c body k ρ2 h2
    | .bk ρ2 h2 => .nx ρ2 h2
    | r => r) else .nx ρ h1
theorem is_while (k : Nat) {c : Expr} {mc : MT} (G : Gd T X E n) (hc : IT T X E c mc) (hb : ISs T X E body mb') : IS T X E (.While c body [] pos) (whileW mc mb' k) :=
  PS.imp (ps_while G.po hc hb) fun D σ H ⟨w, ρ, h, s, en, p⟩ => by
    refine ⟨fun m σ H => ∃ w ρ h, StR T w h H ∧ EnvR T w ρ σ ∧ PostS T w D E (whileW mc mb' m ρ h), ⟨k, w, ρ, h, s, en, p⟩, ?_⟩
    rintro m σ H ⟨w, ρ, h, s, en, p⟩
    cases m with
    | zero => exact p.elim
    | succ m =>
      unfold whileW at p
      refine ⟨w, ρ, h, s, en, PostS.of en p fun b h1 w1 H1 b' le s1 r1 p1 => ?_⟩
      cases r1
      cases b with
      | false => exact p1 w1 σ H1 (Le.refl _) s1 (en.mono le)
      | true =>
        refine ⟨fun σ' H' => ∃ w' ρ' h', StR T w' h' H' ∧ EnvR T w' ρ' σ' ∧ PostS T w' D E (whileW mc mb' m ρ' h'), fun σ' H' q => ⟨m, Nat.lt_succ_self _, q⟩, w1, ρ, h1, s1, en.mono le, ?_⟩
        have p1 : PostS T w1 D E (match mb' ρ h1 with
          | .nx ρ2 h2 => whileW mc mb' m ρ2 h2
          | .ct ρ2 h2 => whileW mc mb' m ρ2 h2
          | .bk ρ2 h2 => .nx ρ2 h2
          | r => r) := p1
        cases eb : mb' ρ h1 with
        | nx ρ2 h2 =>
          rw [eb] at p1
          exact fun w4 σ4 H4 l4 s4 en4 => ⟨w4, ρ2, h2, s4, en4, PostS.mono l4 p1⟩
        | ct ρ2 h2 =>
          rw [eb] at p1
          exact fun w4 σ4 H4 l4 s4 en4 => ⟨w4, ρ2, h2, s4, en4, PostS.mono l4 p1⟩
        | bk ρ2 h2 => rw [eb] at p1; exact p1
        | rt x h2 => rw [eb] at p1; exact p1
        | exc c vs ρ2 h2 => rw [eb] at p1; exact p1
        | bad => rw [eb] at p1; exact p1
end
end Fz

namespace Fz
open PySem PySem.Spec PyProof.Rows L2

/-! ### values that name only cells below k -/
mutual
def cloW (k : Nat) : W → Bool
  | .tup l => cloL k l
  | .lst l => cloL k l
  | .scr l => cloL k l
  | .ins _ vs => cloL k vs
  | .loc n => decide (n < k)
  | .non => true
  | .bl _ => true
  | .int _ => true
  | .str _ => true
  | .cls _ => true
  | .ty _ => true
def cloL (k : Nat) : List W → Bool
  | [] => true
  | x :: r => cloW k x && cloL k r
end
def cloKs {κ : Type} (k : Nat) (l : List (κ × W)) : Bool := cloL k (l.map (·.2))
def cloC (k : Nat) : Cell → Bool
  | .lst l => cloL k l
  | .dk l => cloKs k l
  | .dt l => cloKs k l
  | .ins _ vs => cloL k vs
  | .dead => true
def cloF (k : Nat) : FO → Bool
  | .lst l => cloL k l
  | .tup l => cloL k l
  | .scr l => cloL k l
  | .ins _ vs => cloL k vs
section
variable {T : Tab} {w : Wd} {h : List Cell} {H : Hp}
mutual
theorem KV.clo (k : Nat) : ∀ {x : W} {v : V}, KV T x v → cloW k x = true
  | _, _, .non => rfl
  | _, _, .bl => rfl
  | _, _, .int => rfl
  | _, _, .str => rfl
  | _, _, .cls => rfl
  | _, _, .ty => rfl
  | _, _, .tup a b => KVs.clo k b
  | _, _, .scr a b => KVs.clo k b
theorem KVs.clo (k : Nat) : ∀ {x : List W} {v : List V}, KVs T x v → cloL k x = true
  | _, _, .nil => rfl
  | _, _, .cons a b => by
    show (_ && _) = true
    rw [KV.clo k a, KVs.clo k b]
    rfl
end
mutual
theorem StR.cloW_ok (s : StR T w h H) : ∀ (x : W) {v : V}, VR T w x v → cloW w.cl.length x = true
  | .tup l, v, r => by
    obtain ⟨a, vs, rfl, h1, h2⟩ := tup_at s r
    exact StR.cloL_ok s l h2
  | .lst l, v, r => by
    obtain ⟨a, vs, rfl, h1, h2⟩ := lst_at s r
    exact StR.cloL_ok s l h2
  | .scr l, v, r => by
    obtain ⟨a, vs, rfl, h1, h2⟩ := scr_at s r
    exact StR.cloL_ok s l h2
  | .ins c vs, v, r => by
    obtain ⟨a, rfl, q⟩ := r
    obtain ⟨dx, us, h1, h2, h3⟩ := s.fz a _ q
    exact StR.cloL_ok s vs h2
  | .loc n, v, r => by
    obtain ⟨a, rfl, q⟩ := r
    exact decide_eq_true (List.getElem?_eq_some_iff.mp q).1
  | .non, _, _ => rfl
  | .bl _, _, _ => rfl
  | .int _, _, _ => rfl
  | .str _, _, _ => rfl
  | .cls _, _, _ => rfl
  | .ty _, _, _ => rfl
theorem StR.cloL_ok (s : StR T w h H) : ∀ (l : List W) {vs : List V}, VRs T w l vs → cloL w.cl.length l = true
  | [], _, _ => rfl
  | x :: l, _, .cons a b => by
    show (_ && _) = true
    rw [StR.cloW_ok s x a, StR.cloL_ok s l b]
    rfl
end
theorem StR.cloF_ok (s : StR T w h H) {a : Addr} : ∀ {o : FO}, w.fz a = some o → cloF w.cl.length o = true
  | .lst l, e => let ⟨_, _, r⟩ := s.fz a _ e; s.cloL_ok l r
  | .tup l, e => let ⟨_, _, r⟩ := s.fz a _ e; s.cloL_ok l r
  | .scr l, e => let ⟨_, _, r⟩ := s.fz a _ e; s.cloL_ok l r
  | .ins _ vs, e => let ⟨_, _, _, r, _⟩ := s.fz a _ e; s.cloL_ok vs r
/-- the world with the first k cells alone -/
def Wd.trim (w : Wd) (k : Nat) : Wd := ⟨w.cl.take k, fun a => match w.fz a with
  | some o => if cloF k o then some o else none
  | none => none⟩
theorem trim_fz {k : Nat} {a : Addr} {o : FO} (e : w.fz a = some o) (c : cloF k o = true) : (w.trim k).fz a = some o := by
  show (match w.fz a with | some o => if cloF k o then some o else none | none => none) = some o
  rw [e]
  exact if_pos c
theorem of_trim_fz {k : Nat} {a : Addr} {o : FO} (e : (w.trim k).fz a = some o) : w.fz a = some o ∧ cloF k o = true := by
  have e : (match w.fz a with | some o => if cloF k o then some o else none | none => none) = some o := e
  cases q : w.fz a with
  | none => rw [q] at e; cases e
  | some u =>
    rw [q] at e
    dsimp only at e
    split at e
    · rename_i c
      cases e
      exact ⟨rfl, c⟩
    · cases e
theorem VR.trim {k : Nat} : ∀ {x : W} {v : V}, cloW k x = true → VR T w x v → VR T (w.trim k) x v
  | .tup l, v, c, r => r.imp (fun ⟨a, q, e⟩ => ⟨a, q, trim_fz e c⟩) id
  | .lst l, v, c, ⟨a, q, e⟩ => ⟨a, q, trim_fz e c⟩
  | .scr l, v, c, r => r.imp (fun ⟨a, q, e⟩ => ⟨a, q, trim_fz e c⟩) id
  | .ins _ _, v, c, ⟨a, q, e⟩ => ⟨a, q, trim_fz e c⟩
  | .loc n, v, c, ⟨a, q, e⟩ => ⟨a, q, by
    have c : n < k := of_decide_eq_true c
    show (w.cl.take k)[n]? = some a
    rw [List.getElem?_take_of_lt c]
    exact e⟩
  | .non, _, _, r => r
  | .bl _, _, _, r => r
  | .int _, _, _, r => r
  | .str _, _, _, r => r
  | .cls _, _, _, r => r
  | .ty _, _, _, r => r
theorem VRs.trim {k : Nat} : ∀ {l : List W} {vs : List V}, cloL k l = true → VRs T w l vs → VRs T (w.trim k) l vs
  | [], _, _, .nil => .nil
  | x :: l, _, c, .cons a b => by
    have c : (cloW k x && cloL k l) = true := c
    rw [Bool.and_eq_true] at c
    exact .cons (a.trim c.1) (VRs.trim c.2 b)
theorem DKs.trim {κ : Type} {k : Nat} : ∀ {l : List (κ × W)} {m : List (κ × V)}, cloKs k l = true → DKs T w l m → DKs T (w.trim k) l m
  | [], _, _, .nil => .nil
  | x :: l, _, c, .cons a b => by
    have c : (cloW k x.2 && cloL k (l.map (·.2))) = true := c
    rw [Bool.and_eq_true] at c
    exact .cons ⟨a.1, a.2.trim c.1⟩ (DKs.trim c.2 b)
theorem StR.trim (s : StR T w h H) (k : Nat) (hk : k ≤ h.length) (c : (h.take k).all (cloC k) = true) : StR T (w.trim k) (h.take k) H where
  fz := fun a o e => by
    obtain ⟨e1, c1⟩ := of_trim_fz e
    have q := s.fz a o e1
    cases o with
    | lst l => obtain ⟨vs, h1, h2⟩ := q; exact ⟨vs, h1, h2.trim c1⟩
    | tup l => obtain ⟨vs, h1, h2⟩ := q; exact ⟨vs, h1, h2.trim c1⟩
    | scr l => obtain ⟨vs, h1, h2⟩ := q; exact ⟨vs, h1, h2.trim c1⟩
    | ins cc l => obtain ⟨dx, vs, h1, h2, h3⟩ := q; exact ⟨dx, vs, h1, VRs.trim c1 h2, h3⟩
  len := by
    show (w.cl.take k).length = (h.take k).length
    rw [List.length_take, List.length_take, s.len]
  nd := s.nd.sublist (List.take_sublist k w.cl)
  cel := fun n d a e1 e2 => by
    have hn : n < k := by
      have := (List.getElem?_eq_some_iff.mp e1).1
      rw [List.length_take] at this
      omega
    have e2 : (w.cl.take k)[n]? = some a := e2
    have c1 : cloC k d = true := List.all_eq_true.mp c d (List.mem_of_getElem? e1)
    rw [List.getElem?_take_of_lt hn] at e1 e2
    obtain ⟨q, lv⟩ := s.cel n d a e1 e2
    refine ⟨?_, fun l => ?_⟩
    · cases d with
      | lst l => obtain ⟨vs, h1, h2⟩ := q; exact ⟨vs, h1, VRs.trim c1 h2⟩
      | dk l => obtain ⟨vs, h1, h2⟩ := q; exact ⟨vs, h1, DKs.trim c1 h2⟩
      | dt l => obtain ⟨vs, h1, h2⟩ := q; exact ⟨vs, h1, DKs.trim c1 h2⟩
      | ins cc l => obtain ⟨dx, vs, h1, h2, h3⟩ := q; exact ⟨dx, vs, h1, VRs.trim c1 h2, h3⟩
      | dead => exact q
    · show (match w.fz a with | some o => if cloF k o then some o else none | none => none) = none
      rw [lv l]
/-- from the world w that has k cells -/
theorem Le.trim {w w' : Wd} {h : List Cell} {H : Hp} (s : StR T w h H) (le : Le w w') : Le w (w'.trim h.length) where
  cl := by
    obtain ⟨m, hm⟩ := le.cl
    refine ⟨[], ?_⟩
    show w'.cl.take h.length = w.cl ++ []
    rw [hm, ← s.len, List.take_left, List.append_nil]
  fz := fun a o e => trim_fz (le.fz a o e) (by rw [← s.len]; exact s.cloF_ok e)
end

/-! ### a live thing becomes data -/
def frzL (f : W → List Cell → Option (W × List Cell)) : List W → List Cell → Option (List W × List Cell)
  | [], h => some ([], h)
  | x :: r, h => match f x h with
    | some (y, h1) => (match frzL f r h1 with
      | some (l, h2) => some (y :: l, h2)
      | none => none)
    | none => none
def frzW : Nat → W → List Cell → Option (W × List Cell)
  | 0, _, _ => none
  | k + 1, x, h => match x with
    | .loc n => (match h[n]? with
      | some (.lst l) => (match frzL (frzW k) l (h.set n .dead) with
        | some (l', h') => some (.lst l', h')
        | none => none)
      | some (.ins c vs) => (match frzL (frzW k) vs (h.set n .dead) with
        | some (l', h') => some (.ins c l', h')
        | none => none)
      | _ => none)
    | x => if cloW 0 x then some (x, h) else none
/-- what a freeze leaves -/
structure Frozen (T : Tab) (w w' : Wd) (h h' : List Cell) (H : Hp) : Prop where
  le : Le w w'
  cl : w'.cl = w.cl
  st : StR T w' h' H
  dead : ∀ (m : Nat) (b : Addr), h[m]? = some .dead → w.cl[m]? = some b → w.fz b = none → h'[m]? = some .dead ∧ w'.fz b = none
theorem Frozen.refl {T : Tab} {w : Wd} {h : List Cell} {H : Hp} (s : StR T w h H) : Frozen T w w h h H := ⟨Le.refl w, rfl, s, fun _ _ e _ f => ⟨e, f⟩⟩
theorem Frozen.trans {T : Tab} {w w1 w2 : Wd} {h h1 h2 : List Cell} {H : Hp} (a : Frozen T w w1 h h1 H) (b : Frozen T w1 w2 h1 h2 H) : Frozen T w w2 h h2 H :=
  ⟨a.le.trans b.le, b.cl.trans a.cl, b.st, fun m c e1 e2 e3 => by
    obtain ⟨d1, d2⟩ := a.dead m c e1 e2 e3
    exact b.dead m c d1 (by rw [a.cl]; exact e2) d2⟩
def FrzOk (T : Tab) (f : W → List Cell → Option (W × List Cell)) : Prop := ∀ (x : W) (h : List Cell) (x' : W) (h' : List Cell) (w : Wd) (H : Hp) (v : V), StR T w h H → VR T w x v → f x h = some (x', h') → ∃ w', Frozen T w w' h h' H ∧ VR T w' x' v
theorem frzL_ok {T : Tab} {f : W → List Cell → Option (W × List Cell)} (ok : FrzOk T f) : ∀ (l : List W) (h : List Cell) (l' : List W) (h' : List Cell) (w : Wd) (H : Hp) (vs : List V), StR T w h H → VRs T w l vs → frzL f l h = some (l', h') →
    ∃ w', Frozen T w w' h h' H ∧ VRs T w' l' vs
  | [], h, l', h', w, H, vs, s, r, e => by
    cases e
    cases r
    exact ⟨w, Frozen.refl s, .nil⟩
  | x :: l, h, l', h', w, H, vs, s, r, e => by
    cases r with
    | cons r1 r2 =>
      unfold frzL at e
      cases q : f x h with
      | none => rw [q] at e; cases e
      | some p =>
        obtain ⟨y, h1⟩ := p
        rw [q] at e
        dsimp only at e
        cases q2 : frzL f l h1 with
        | none => rw [q2] at e; cases e
        | some p2 =>
          obtain ⟨l2, h2⟩ := p2
          rw [q2] at e
          cases e
          obtain ⟨w1, f1, v1⟩ := ok x h y h1 w H _ s r1 q
          obtain ⟨w2, f2, v2⟩ := frzL_ok ok l h1 l2 _ w1 H _ f1.st (VRs.mono f1.le r2) q2
          exact ⟨w2, f1.trans f2, .cons (v1.mono f2.le) v2⟩
/-- the cell is given up -/
theorem StR.kill {T : Tab} {w : Wd} {h : List Cell} {H : Hp} (s : StR T w h H) {n : Nat} {c : Cell} {a : Addr} (e1 : h[n]? = some c) (e2 : w.cl[n]? = some a) : StR T w (h.set n .dead) H where
  fz := s.fz
  len := by rw [List.length_set]; exact s.len
  nd := s.nd
  cel := fun m d b q1 q2 => by
    by_cases hm : m = n
    · subst hm
      rw [List.getElem?_set_self (List.getElem?_eq_some_iff.mp e1).1] at q1
      cases q1
      rw [e2] at q2
      cases q2
      exact ⟨(s.cel m c a e1 e2).1.some, fun l => l.elim⟩
    · rw [List.getElem?_set_ne (Ne.symm hm)] at q1
      exact s.cel m d b q1 q2
/-- a dead cell's object is known as data -/
theorem StR.known {T : Tab} {w : Wd} {h : List Cell} {H : Hp} (s : StR T w h H) {n : Nat} {a : Addr} {o : FO} (e1 : h[n]? = some .dead) (e2 : w.cl[n]? = some a) (hf : w.fz a = none) (ok : FOk T w H a o) : StR T (w.addF a o) h H ∧ Le w (w.addF a o) := by
  have le : Le w (w.addF a o) := Le.addF hf
  refine ⟨⟨fun b x e => ?_, s.len, s.nd, fun m d b q1 q2 => ?_⟩, le⟩
  · have e' : (if b = a then some o else w.fz b) = some x := e
    by_cases hb : b = a
    · subst hb
      rw [if_pos rfl] at e'
      cases e'
      exact ok.mono le
    · rw [if_neg hb] at e'
      exact (s.fz b x e').mono le
  · refine ⟨(s.cel m d b q1 q2).1.mono le, fun lv => ?_⟩
    have hb : b ≠ a := fun z => by
      subst z
      have h1 := List.getElem?_eq_some_iff.mp q2
      have h2 := List.getElem?_eq_some_iff.mp e2
      have : m = n := (List.getElem_inj s.nd).mp (h1.2.trans h2.2.symm)
      subst this
      rw [e1] at q1
      cases q1
      exact lv
    show (if b = a then some o else w.fz b) = none
    rw [if_neg hb]
    exact (s.cel m d b q1 q2).2 lv
theorem frzW_ok {T : Tab} : ∀ k : Nat, FrzOk T (frzW k)
  | 0, x, h, x', h', w, H, v, s, r, e => by cases e
  | k + 1, x, h, x', h', w, H, v, s, r, e => by
    have plain : ∀ x : W, VR T w x v → (if cloW 0 x then some (x, h) else none) = some (x', h') → ∃ w', Frozen T w w' h h' H ∧ VR T w' x' v := fun x r e => by
      split at e
      · cases e
        exact ⟨w, Frozen.refl s, r⟩
      · cases e
    cases x with
    | loc n =>
      unfold frzW at e
      dsimp only at e
      cases q : h[n]? with
      | none => rw [q] at e; cases e
      | some c =>
        rw [q] at e
        obtain ⟨a, rfl, ea, co⟩ := loc_at s r q
        have s1 := s.kill q ea
        have en : (h.set n .dead)[n]? = some .dead := List.getElem?_set_self (List.getElem?_eq_some_iff.mp q).1
        cases c with
        | lst l =>
          have nf := (s.cel n _ a q ea).2 trivial
          obtain ⟨vs, h1, h2⟩ := co
          dsimp only at e
          cases q2 : frzL (frzW k) l (h.set n .dead) with
          | none => rw [q2] at e; cases e
          | some p2 =>
            obtain ⟨l2, h2'⟩ := p2
            rw [q2] at e
            cases e
            obtain ⟨w1, f1, v1⟩ := frzL_ok (frzW_ok k) l _ l2 _ w H vs s1 h2 q2
            obtain ⟨d1, d2⟩ := f1.dead n a en ea nf
            obtain ⟨s2, le2⟩ := f1.st.known (o := .lst l2) d1 (by rw [f1.cl]; exact ea) d2 ⟨vs, h1, v1⟩
            refine ⟨_, ⟨f1.le.trans le2, f1.cl, s2, fun m b g1 g2 g3 => ?_⟩, ⟨a, rfl, if_pos rfl⟩⟩
            have hm : m ≠ n := fun z => by rw [z, q] at g1; cases g1
            obtain ⟨t1, t2⟩ := f1.dead m b (by rw [List.getElem?_set_ne (Ne.symm hm)]; exact g1) g2 g3
            refine ⟨t1, ?_⟩
            have hb : b ≠ a := fun z => hm (by
              subst z
              have h1 := List.getElem?_eq_some_iff.mp g2
              have h2 := List.getElem?_eq_some_iff.mp ea
              exact (List.getElem_inj s.nd).mp (h1.2.trans h2.2.symm))
            show (if b = a then some (FO.lst l2) else w1.fz b) = none
            rw [if_neg hb]
            exact t2
        | ins cc l =>
          have nf := (s.cel n _ a q ea).2 trivial
          obtain ⟨dx, vs, h1, h2, h3⟩ := co
          dsimp only at e
          cases q2 : frzL (frzW k) l (h.set n .dead) with
          | none => rw [q2] at e; cases e
          | some p2 =>
            obtain ⟨l2, h2'⟩ := p2
            rw [q2] at e
            cases e
            obtain ⟨w1, f1, v1⟩ := frzL_ok (frzW_ok k) l _ l2 _ w H vs s1 h2 q2
            obtain ⟨d1, d2⟩ := f1.dead n a en ea nf
            have hl : l2.length ≤ (T.fl cc).length := by rw [All2.length v1, ← All2.length h2]; exact h3
            obtain ⟨s2, le2⟩ := f1.st.known (o := .ins cc l2) d1 (by rw [f1.cl]; exact ea) d2 ⟨dx, vs, h1, v1, hl⟩
            refine ⟨_, ⟨f1.le.trans le2, f1.cl, s2, fun m b g1 g2 g3 => ?_⟩, ⟨a, rfl, if_pos rfl⟩⟩
            have hm : m ≠ n := fun z => by rw [z, q] at g1; cases g1
            obtain ⟨t1, t2⟩ := f1.dead m b (by rw [List.getElem?_set_ne (Ne.symm hm)]; exact g1) g2 g3
            refine ⟨t1, ?_⟩
            have hb : b ≠ a := fun z => hm (by
              subst z
              have h1 := List.getElem?_eq_some_iff.mp g2
              have h2 := List.getElem?_eq_some_iff.mp ea
              exact (List.getElem_inj s.nd).mp (h1.2.trans h2.2.symm))
            show (if b = a then some (FO.ins cc l2) else w1.fz b) = none
            rw [if_neg hb]
            exact t2
        | _ => cases e
    | _ => exact plain _ r e
/-- an expression's value, frozen -/
def frzR (m : R W) : R W := m.bind fun x h1 => match frzW 8 x h1 with
  | some (y, h2) => .ok y h2
  | none => .bad
def mFrz (m : ME) : ME := fun ρ h => frzR (m ρ h)
theorem post_frz {T : Tab} {w : Wd} {Q : VK} {E : XK} {m : R W} (p : Post T (VR T) w Q E (frzR m)) : Post T (VR T) w Q E m :=
  Post.bind p fun x h1 w1 H1 v le s1 r1 p1 => by
    cases q : frzW 8 x h1 with
    | none => rw [q] at p1; exact p1.elim
    | some t =>
      obtain ⟨y, h2⟩ := t
      rw [q] at p1
      obtain ⟨w2, f, r2⟩ := frzW_ok 8 x h1 y h2 w1 H1 v s1 r1 q
      exact p1 w2 H1 v f.le f.st r2
theorem i_frz {T : Tab} {X : Cx} {E : WX} {e : Expr} {m : ME} (h : IE T X E e m) : IE T X E e (mFrz m) := PE.imp h fun σ H Q ⟨w, ρ, h, s, en, p⟩ => ⟨w, ρ, h, s, en, post_frz p⟩

/-! ### defs -/
abbrev Fn := List W → List Cell → R W
def spI (T : Tab) (k : Nat) (g : Fn) : Sp := fun vs H Q E => ∃ w h xs, StR T w h H ∧ VRs T w xs vs ∧ vs.length = k ∧ Post T (VR T) w Q E (g xs h)
/-- how a body's end is a call's -/
def RS.toR : RS → R W
  | .nx _ h => .ok .non h
  | .rt x h => .ok x h
  | .exc c vs _ h => .exc c vs h
  | _ => .bad
/-- the cells that a call made are given up -/
def trimR (k : Nat) (m : R W) : R W := m.bind fun x h1 => if h1.length ≤ k then .ok x h1 else if cloW k x && (h1.take k).all (cloC k) then .ok x (h1.take k) else .bad
theorem post_trim {T : Tab} {w : Wd} {h : List Cell} {H : Hp} {Q : VK} {E : XK} {m : R W} (s : StR T w h H) (p : Post T (VR T) w Q E (trimR h.length m)) : Post T (VR T) w Q E m := by
  cases m with
  | bad => exact p
  | exc c vs h1 => exact p
  | ok x h1 =>
    intro w1 H1 v le s1 r1
    have p : Post T (VR T) w Q E (if h1.length ≤ h.length then R.ok x h1 else if cloW h.length x && (h1.take h.length).all (cloC h.length) then .ok x (h1.take h.length) else .bad) := p
    split at p
    · exact p w1 H1 v le s1 r1
    · rename_i hl
      split at p
      · rename_i hc
        rw [Bool.and_eq_true] at hc
        exact p _ H1 v (Le.trim s le) (s1.trim h.length (by omega) hc.2) (r1.trim hc.1)
      · exact p.elim
/-- a def with nv names, k of them parameters; fz: what it hands back becomes data -/
def fnB (nv k : Nat) (m : MS) (xs : List W) (h : List Cell) : R W := if xs.length = k then (m (xs.map some ++ List.replicate (nv - k) none) h).toR else .bad
def fnM (fz : Bool) (nv k : Nat) (m : MS) : Fn := fun xs h => trimR h.length (if fz then frzR (fnB nv k m xs h) else fnB nv k m xs h)
theorem start_env {T : Tab} {w : Wd} {xs : List W} {vs : List V} {N : List Str} {nv : Nat} (r : VRs T w xs vs) (hn : N.length = nv) : EnvR T w (xs.map some ++ List.replicate (nv - vs.length) none) (L2.start N vs) := by
  unfold L2.start
  rw [hn]
  refine All2.append ?_ ?_
  · induction r with
    | nil => exact .nil
    | cons a b ih => exact .cons (fun x e => by cases e; exact ⟨_, rfl, a⟩) ih
  · generalize nv - vs.length = j
    induction j with
    | zero => exact .nil
    | succ j ih =>
      rw [List.replicate_succ, List.replicate_succ]
      exact .cons (fun x e => by cases e) ih
abbrev cxE (E : XK) : WX := fun c d _ H => E c d H
theorem post_body {T : Tab} {w : Wd} {h : List Cell} {Q : VK} {E : XK} {m : RS} (p : Post T (VR T) w Q E m.toR) : PostS T w { nx := fun _ H' => Q .non H', rt := Q } (cxE E) m := by
  cases m with
  | nx ρ h1 => exact fun w' σ' H' le s en => p w' H' .non le s rfl
  | rt x h1 => exact p
  | exc c vs ρ h1 => exact fun w' σ' H' d le s en e => p w' H' d le s e
  | _ => exact p.elim
theorem fn_ok {T : Tab} {P : Program} {w : World} {mg : Str → Option Value} {base : Heap} {x qual : Str} {params : Arguments} {body : List Stmt} {scope : Scope} {dvs : List V} {kws : List (Str × V)} {f : Addr} {fd : FuncData} {N ps : List Str} {n : Nat} {m : MS} {fz : Bool} {nv k : Nat}
    (F : FunD T.K x qual params body scope dvs kws f fd) (S : FnScope N ps scope) (hn : N.length = nv := by rfl) (hk : ps.length = k := by rfl)
    (hb : ∀ (cdv : Value) (A : Around) (outer : List Env) (s : Shared) (H : Hp) (E : XK), Gd T (cxOf (L2.CX P w) P w T.K mg base N qual scope f cdv A outer s H E) (cxE E) n →
      ISs T (cxOf (L2.CX P w) P w T.K mg base N qual scope f cdv A outer s H E) (cxE E) body m) : FnOk P w T.K mg base (L2.CX P w) (n + 1) f fd ps (spI T k (fnM fz nv k m)) := by
  refine F.ok S (fun vs H Q E ⟨w, h, xs, s, r, l, _⟩ => by rw [l, hk]) fun cdv A outer s H vs Q E hr ⟨w, h, xs, st, r, l, p⟩ => ?_
  refine ⟨_, hb cdv A outer s H E ⟨rfl, rfl, S.nd, hr, takes_of rfl rfl rfl rfl, passes_of rfl⟩, w, _, h, st, start_env r hn, ?_⟩
  have p1 : Post T (VR T) w Q E (fnB nv k m xs h) := by
    have p0 := post_trim st p
    cases fz with
    | true => exact post_frz p0
    | false => exact p0
  unfold fnB at p1
  rw [if_pos (by rw [All2.length r, l])] at p1
  rw [l]
  exact post_body (h := h) p1

/-! ### calls -/
section
variable {T : Tab} {X : Cx} {E : WX} {n k : Nat} {a e o : Expr} {es : List Expr} {ma mo : ME} {mr mk : MA} {pos p apos : Pos} {f C : Addr} {fd : FuncData} {ps : List Str} {g : Fn} {x m : Str} {dws : List W} {dvs : List V} {ds : List Value} {kk : Nat}
theorem run_fnX {pins : List (Addr × Obj)} {σ : L2.St} {H : Hp} {s : Shared} {Q : VK} {us : List Value} {vs : List V} {sp : Sp} (F : FnOk X.prog X.w X.K X.mg X.base (L2.CX X.prog X.w) k f fd ps sp) (hr : Room k X.A) (hb : Binds X.K fd ps ds) (hd : Vals dvs ds) (tk : Takes X E)
    (I : Inv X pins σ H s) (r : Vals vs us) (h : sp (vs ++ dvs) H Q (fun c d H' => E c d σ H')) : wpAny (model X.prog X.w) X.A (call (.ref f) us) (EP X pins σ Q) X.xe s := by
  have r2 : Vals (vs ++ dvs) (us ++ ds) := r.append hd
  have hl : (us ++ ds).length = ps.length := by rw [← r2.length]; exact F.len _ _ _ _ h
  refine wpAny_call (codeAny_mono (F.run X.A X.stack s H ⟨us, []⟩ (us ++ ds) (vs ++ dvs) Q _ hr I.env0 (hb s us I.kIn hl) r2 h) fun r s' hq => ?_)
  cases r with
  | error e => exact passAt tk σ pins H s e s' I hq
  | ok fl =>
    cases fl with
    | ret u => exact I.after hq
    | next => exact False.elim hq
    | brk => exact False.elim hq
    | cont => exact False.elim hq
def mCall (g : Fn) (dws : List W) (mr : MA) : ME := fun ρ h => (mr ρ h).bind fun xs h1 => g (xs ++ dws) h1
theorem sp_of {w : Wd} {h : List Cell} {H : Hp} {xs : List W} {vs : List V} {Q : VK} {E : XK} {j : Nat} (s : StR T w h H) (r : VRs T w xs vs) (l : xs.length = j) (p : Post T (VR T) w Q E (g xs h)) : spI T j g vs H Q E := ⟨w, h, xs, s, r, by rw [← r.length]; exact l, p⟩
/-- only so many arguments are served -/
def Arity (g : Fn) (k : Nat) : Prop := ∀ xs h, xs.length ≠ k → g xs h = .bad
theorem fnM_arity {fz : Bool} {nv k : Nat} {m : MS} : Arity (fnM fz nv k m) k := fun xs h ne => by
  unfold fnM fnB
  rw [if_neg ne]
  cases fz <;> rfl
theorem sp_of' {w : Wd} {h : List Cell} {H : Hp} {xs : List W} {vs : List V} {Q : VK} {E : XK} {j : Nat} (ar : Arity g j) (s : StR T w h H) (r : VRs T w xs vs) (p : Post T (VR T) w Q E (g xs h)) : spI T j g vs H Q E := by
  by_cases l : xs.length = j
  · exact sp_of s r l p
  · rw [ar xs h l] at p
    exact p.elim
/-- what a caller knows of a def -/
structure Kn (T : Tab) (P : Program) (w : World) (K : PySem.W.Frag) (mg : Str → Option Value) (base : Heap) (k : Nat) (f : Addr) (fd : FuncData) (ps : List Str) (g : Fn) : Prop where
  ok : FnOk P w K mg base (L2.CX P w) k f fd ps (spI T ps.length g)
  ar : Arity g ps.length
  kp : PySem.W.keepIn K (.ref f) = true
theorem kn_zero {P : Program} {w : World} {K : PySem.W.Frag} {mg : Str → Option Value} {base : Heap} (kp : PySem.W.keepIn K (.ref f) = true) : Kn T P w K mg base k f fd ps (fun _ _ => .bad) :=
  ⟨⟨fun vs H Q E ⟨_, _, _, _, _, l, _⟩ => l, fun A outer s H args us vs Q E _ _ _ _ ⟨_, _, _, _, _, _, p⟩ => (p : False).elim⟩, fun _ _ _ => rfl, kp⟩
theorem call_of (Fk : Kn T X.prog X.w X.K X.mg X.base k f fd ps g) (hk : k ≤ n) (G : Gd T X E n) (hb : Binds X.K fd ps ds) (hd : Vals dvs ds) (kd : KVs T dws dvs) {pins : List (Addr × Obj)} {σ : L2.St} {H : Hp} {s : Shared} {Q : VK} {us : List Value} {vs : List V} {w : Wd} {h : List Cell} {xs : List W}
    (I : Inv X pins σ H s) (r : Vals vs us) (st : StR T w h H) (rx : VRs T w xs vs) (q : Post T (VR T) w Q (fun c d H' => E c d σ H') (g (xs ++ dws) h)) : wpAny (model X.prog X.w) X.A (call (.ref f) us) (EP X pins σ Q) X.xe s :=
  run_fnX Fk.ok (G.room.mono hk) hb hd G.tk I r (sp_of' Fk.ar st (rx.append kd.vrs) q)
theorem i_call (Fk : Kn T X.prog X.w X.K X.mg X.base k f fd ps g) (hk : k ≤ n) (G : Gd T X E n) (hm : X.mg x = some (.ref f)) (hb : Binds X.K fd ps ds) (hd : Vals dvs ds) (kd : KVs T dws dvs) (ha : IA T X E (e :: es) mr) (hg : Gl X x := by rfl)
    (hdb : (x == ("__debug__" : Str)) = false := by decide +kernel) (he : starEach (e :: es) X.env = (false, eval e X.env) :: starEach es X.env := by rfl) (hpl : (backTo pos (starEach es X.env)).any (·.1) = false := by rfl) :
    IE T X E (.Call (.Name x p) (e :: es) [] pos) (mCall g dws mr) := by
  refine ⟨fun pins s σ H Q I ⟨w, ρ, h, st, en, q⟩ => ?_⟩
  refine wpAny_Call_Name_kw (ld_glob I hg hm ?_ hdb)
  refine PySem.W.callWith_K (h₀ := X.base) I.ok.mod.kin Fk.kp (thn (ha.run pos pins s σ H (fun vs H' => ∃ w1 h1 xs, StR T w1 h1 H' ∧ VRs T w1 xs vs ∧ Post T (VR T) w1 Q (fun c d H' => E c d σ H') (g (xs ++ dws) h1)) I
    ⟨w, ρ, h, st, en, Post.bind q fun xs h1 w1 H1 vs le s1 r1 p1 => ⟨w1, h1, xs, s1, r1, p1⟩⟩) fun us s1 ⟨vs, H1, I1, r, w1, h1, xs, q1, q2, q3⟩ => ⟨I1.kIn, ?_⟩) he hpl
  exact call_of Fk hk G hb hd kd I1 r q1 q2 q3
theorem i_call0 (Fk : Kn T X.prog X.w X.K X.mg X.base k f fd ps g) (hk : k ≤ n) (G : Gd T X E n) (hm : X.mg x = some (.ref f)) (hb : Binds X.K fd ps ds) (hd : Vals dvs ds) (kd : KVs T dws dvs) (hg : Gl X x := by rfl)
    (hdb : (x == ("__debug__" : Str)) = false := by decide +kernel) : IE T X E (.Call (.Name x p) [] [] pos) (mCall g dws mNil) := by
  refine ⟨fun pins s σ H Q I ⟨w, ρ, h, st, en, q⟩ => ?_⟩
  refine wpAny_Call_Name_kw (ld_glob I hg hm ?_ hdb)
  exact PySem.W.callWith_K0 I.kIn Fk.kp (call_of (us := []) (xs := []) Fk hk G hb hd kd I .nil st .nil q)
/-- keywords' values -/
abbrev IK (T : Tab) (X : Cx) (E : WX) (kws : List Keyword) (m : MA) : Prop := PK X kws (taI T E m)
theorem PK.imp {kws : List Keyword} {t t' : TA} (h : PK X kws t) (k : ∀ σ H Q, t' σ H Q → t σ H Q) : PK X kws t' := ⟨fun w pins s σ H Q I q => h.run w pins s σ H Q I (k σ H Q q)⟩
theorem ik_nil : IK T X E [] mNil := PK.imp pk_nil fun σ H Q ⟨w, ρ, h, s, en, p⟩ => p w H [] (Le.refl w) s .nil
theorem ik_cons {nm : Option Str} {kpos : Pos} {kws : List Keyword} (ha : IE T X E a ma) (hr : IK T X E kws mr) : IK T X E (⟨nm, a, kpos⟩ :: kws) (mCons ma mr) :=
  PK.imp (pk_cons ha hr) fun σ H Q ⟨w, ρ, h, s, en, p⟩ => ⟨w, ρ, h, s, en, Post.bind p fun x h1 w1 H1 v le s1 r1 p1 => ⟨w1, ρ, h1, s1, en.mono le, Post.bind p1 fun l h2 w2 H2 vs le2 s2 r2 p2 =>
    p2 w2 H2 _ (Le.refl _) s2 (.cons (r1.mono le2) r2)⟩⟩
/-- how keywords fall into places, over data -/
def GW (T : Tab) (gV : List V → List V → List V) (gW : List W → List W → List W) : Prop := ∀ (w : Wd) (xs ys : List W) (vs us : List V), VRs T w xs vs → VRs T w ys us → VRs T w (gW xs ys) (gV vs us)
def mMakeB (c : Nat) (g : Fn) (xs : List W) (h : List Cell) : R W := (g (.loc h.length :: xs) (h ++ [.ins c []])).bind fun v h2 => match v with
  | .non => .ok (.loc h.length) h2
  | _ => .bad
def mMake (c : Nat) (g : Fn) (dws : List W) (mr : MA) : ME := fun ρ h => (mr ρ h).bind fun xs h1 => mMakeB c g (xs ++ dws) h1
/-- n values, j keywords -/
def mMakeK (c : Nat) (g : Fn) (gW : List W → List W → List W) (n j : Nat) (mr mk : MA) : ME := fun ρ h => (mr ρ h).bind fun xs h1 => (mk ρ h1).bind fun ys h2 => if xs.length = n ∧ ys.length = j then mMakeB c g (gW xs ys) h2 else .bad
theorem make_of {c : Nat} {w : Wd} {h : List Cell} {H : Hp} {Q : VK} {E : XK} {xs : List W} {vs : List V} (ar : Arity g ps.length) (s : StR T w h H) (r : VRs T w xs vs) (p : Post T (VR T) w Q E (mMakeB c g xs h)) :
    ∀ x dx, H x = none → H dx = none → dx ≠ x → spI T ps.length g (.ref x :: vs) (upd (upd H dx (.own x)) x (.ins (T.ca c) dx [])) (fun v H2 => v = .non ∧ Q (.ref x) H2) E := fun x dx hx hdx ne => by
  have s1 : StR T w h (upd H dx (.own x)) := s.other hdx
  have hx1 : upd H dx (.own x) x = none := by rw [upd_ne (Ne.symm ne)]; exact hx
  have s2 := s1.cell (c := .ins c []) (u := .ins (T.ca c) dx []) hx1 ⟨dx, [], by rw [List.zip_nil_right]; exact upd_same, .nil, Nat.zero_le _⟩
  have le : Le w (w.addC x) := Le.addC
  refine sp_of' ar s2 (.cons (new_loc s1) (VRs.mono le r)) ?_
  refine Post.bind (Post.mono le p) fun v h1 w1 H1 v' le1 s3 r1 p1 => ?_
  cases v with
  | non =>
    cases r1
    exact ⟨rfl, p1 w1 H1 (.ref x) (Le.refl _) s3 ((new_loc s1).mono le1)⟩
  | _ => exact p1.elim
/-- a new instance; M, K about the class at C = T.ca c -/
theorem run_makeX {pins : List (Addr × Obj)} {σ : L2.St} {H : Hp} {s : Shared} {Q : VK} {us : List Value} {kw : List (Str × Value)} {vs : List V} {bs : List Value} {sp : Sp} (M : Mk X.K C f) (F : FnOk X.prog X.w X.K X.mg X.base (L2.CX X.prog X.w) k f fd ps sp) (hr : Room (k + 1) X.A) (tk : Takes X E)
    (hb : ∀ (s1 : Shared) (self : Value), X.K.In s1.heap → (self :: bs).length = ps.length → BindsTo s1 fd ⟨self :: us, kw⟩ (ps.zip (self :: bs))) (I : Inv X pins σ H s) (r : Vals vs bs)
    (h : ∀ x dx, H x = none → H dx = none → dx ≠ x → sp (.ref x :: vs) (upd (upd H dx (.own x)) x (.ins C dx [])) (fun v H2 => v = .non ∧ Q (.ref x) H2) (fun c d H' => E c d σ H')) :
    wpAny (model X.prog X.w) X.A (call (.ref C) us kw) (EP X pins σ Q) X.xe s := by
  have hq := h (s.heap.objs.size + 1) s.heap.objs.size (I.hok.fresh (Nat.le_succ _)) (I.hok.fresh (Nat.le_refl _)) (Nat.ne_of_lt (Nat.lt_succ_self _))
  have I2 := Inv.made (C := C) I
  have r2 : Vals (V.ref (s.heap.objs.size + 1) :: vs) (Value.ref (s.heap.objs.size + 1) :: bs) := .cons rfl r
  have hl : (Value.ref (s.heap.objs.size + 1) :: bs).length = ps.length := by
    rw [← r2.length]
    exact F.len _ _ _ _ hq
  refine wpAny_call (make_map (f := f) I.kIn M.makes M.init (beq_iff_eq.mp M.fn) (codeAny_mono (F.run _ X.stack _ _ ⟨Value.ref (s.heap.objs.size + 1) :: us, kw⟩ (Value.ref (s.heap.objs.size + 1) :: bs) _ _ _ (hr.make C us kw)
    (I2.env0.make C us kw) (hb _ _ I2.kIn hl) r2 hq) fun r s' hq' => ?_))
  cases r with
  | error e => exact passAt tk σ pins _ _ e s' I2 hq'
  | ok fl =>
    cases fl with
    | ret u =>
      obtain ⟨v, H', I3, rv, ev, q3⟩ := I2.after hq'
      subst ev
      exact ⟨rv, ⟨V.ref (s.heap.objs.size + 1), H', I3, rfl, q3⟩⟩
    | next => exact False.elim hq'
    | brk => exact False.elim hq'
    | cont => exact False.elim hq'
theorem i_make (c : Nat) (M : Mk X.K (T.ca c) f) (Fk : Kn T X.prog X.w X.K X.mg X.base k f fd ps g) (hk : k + 1 ≤ n) (G : Gd T X E n) (hm : X.mg x = some (.ref (T.ca c))) (hb : Binds X.K fd ps ds) (hd : Vals dvs ds) (kd : KVs T dws dvs) (ha : IA T X E (e :: es) mr) (hg : Gl X x := by rfl)
    (hdb : (x == ("__debug__" : Str)) = false := by decide +kernel) (he : starEach (e :: es) X.env = (false, eval e X.env) :: starEach es X.env := by rfl) (hpl : (backTo pos (starEach es X.env)).any (·.1) = false := by rfl) :
    IE T X E (.Call (.Name x p) (e :: es) [] pos) (mMake c g dws mr) := by
  refine ⟨fun pins s σ H Q I ⟨w, ρ, h, st, en, q⟩ => ?_⟩
  refine wpAny_Call_Name_kw (ld_glob I hg hm ?_ hdb)
  refine PySem.W.callWith_K (h₀ := X.base) I.ok.mod.kin M.kp (thn (ha.run pos pins s σ H (fun vs H' => ∃ w1 h1 xs, StR T w1 h1 H' ∧ VRs T w1 xs vs ∧ Post T (VR T) w1 Q (fun c d H' => E c d σ H') (mMakeB c g (xs ++ dws) h1)) I
    ⟨w, ρ, h, st, en, Post.bind q fun xs h1 w1 H1 vs le s1 r1 p1 => ⟨w1, h1, xs, s1, r1, p1⟩⟩) fun us s1 ⟨vs, H1, I1, r, w1, h1, xs, q1, q2, q3⟩ => ⟨I1.kIn, ?_⟩) he hpl
  exact run_makeX (bs := us ++ ds) M Fk.ok (G.room.mono hk) G.tk (fun s1 self X1 hl => hb s1 (self :: us) X1 hl) I1 (r.append hd) (make_of Fk.ar q1 (q2.append kd.vrs) q3)
theorem i_make0 (c : Nat) (M : Mk X.K (T.ca c) f) (Fk : Kn T X.prog X.w X.K X.mg X.base k f fd ps g) (hk : k + 1 ≤ n) (G : Gd T X E n) (hm : X.mg x = some (.ref (T.ca c))) (hb : Binds X.K fd ps ds) (hd : Vals dvs ds) (kd : KVs T dws dvs) (hg : Gl X x := by rfl)
    (hdb : (x == ("__debug__" : Str)) = false := by decide +kernel) : IE T X E (.Call (.Name x p) [] [] pos) (mMake c g dws mNil) := by
  refine ⟨fun pins s σ H Q I ⟨w, ρ, h, st, en, q⟩ => ?_⟩
  refine wpAny_Call_Name_kw (ld_glob I hg hm ?_ hdb)
  exact PySem.W.callWith_K0 I.kIn M.kp (run_makeX (us := []) (bs := ds) M Fk.ok (G.room.mono hk) G.tk (fun s1 self X1 hl => hb s1 [self] X1 hl) I hd (make_of (xs := [] ++ dws) Fk.ar st kd.vrs q))
theorem i_makeK (c : Nat) {ks : List Str} {kws : List Keyword} {gg : List Value → List Value → List Value} {gV : List V → List V → List V} {gW : List W → List W → List W} {j : Nat} (M : Mk X.K (T.ca c) f) (Fk : Kn T X.prog X.w X.K X.mg X.base k f fd ps g) (hk : k + 1 ≤ n) (G : Gd T X E n) (hm : X.mg x = some (.ref (T.ca c)))
    (hb : KBn X.K fd ps (j + 1) ks gg gV) (hself : ∀ x us ws, gg (x :: us) ws = x :: (gg (x :: us) ws).tail) (hself' : ∀ x y us ws, (gg (x :: us) ws).tail = (gg (y :: us) ws).tail) (hgv : ∀ x vs zs, gV (x :: vs) zs = x :: (gV (V.non :: vs) zs).tail) (hgw : GW T (fun vs zs => (gV (V.non :: vs) zs).tail) gW)
    (ha : IA T X E (e :: es) mr) (hkw : IK T X E kws mk) (hall : (backToKw pos (keywordEach kws X.env)).all (·.1.isSome) = true := by rfl) (hks : (backToKw pos (keywordEach kws X.env)).filterMap (·.1) = ks := by rfl) (hg : Gl X x := by rfl)
    (hdb : (x == ("__debug__" : Str)) = false := by decide +kernel) (he : starEach (e :: es) X.env = (false, eval e X.env) :: starEach es X.env := by rfl)
    (hpl : ((backTo pos (starEach (e :: es) X.env)).any (·.1) || (backToKw pos (keywordEach kws X.env)).any (·.1.isNone)) = false := by rfl) :
    IE T X E (.Call (.Name x p) (e :: es) kws pos) (mMakeK c g gW j ks.length mr mk) := by
  refine ⟨fun pins s σ H Q I ⟨w, ρ, h, st, en, q⟩ => ?_⟩
  refine wpAny_Call_Name_kw (ld_glob I hg hm ?_ hdb)
  refine PySem.W.callWith_KW (h₀ := X.base) I.ok.mod.kin M.kp hall (thn (ha.run pos pins s σ H (fun vs H' => ∃ w1 h1 xs, StR T w1 h1 H' ∧ EnvR T w1 ρ σ ∧ VRs T w1 xs vs ∧ Post T (VR T) w1 Q (fun c d H' => E c d σ H') ((mk ρ h1).bind fun ys h2 => if xs.length = j ∧ ys.length = ks.length then mMakeB c g (gW xs ys) h2 else .bad)) I
    ⟨w, ρ, h, st, en, Post.bind q fun xs h1 w1 H1 vs le s1 r1 p1 => ⟨w1, h1, xs, s1, en.mono le, r1, p1⟩⟩) fun us s1 ⟨vs, H1, I1, r, w1, h1, xs, q1, q0, q2, q3⟩ => ?_) hpl he
  refine thn (hkw.run pos pins s1 σ H1 (fun zs H' => ∃ w1 h1 ys xs, StR T w1 h1 H' ∧ VRs T w1 xs vs ∧ VRs T w1 ys zs ∧ xs.length = j ∧ ys.length = ks.length ∧ Post T (VR T) w1 Q (fun c d H' => E c d σ H') (mMakeB c g (gW xs ys) h1)) I1
    ⟨w1, ρ, h1, q1, q0, Post.bind q3 fun ys h2 w2 H2 zs le2 s2 r2 p2 => by
      split at p2
      · rename_i hc
        exact ⟨w2, h2, ys, xs, s2, VRs.mono le2 q2, r2, hc.1, hc.2, p2⟩
      · exact p2.elim⟩) fun ws s2 ⟨zs, H2, I2, rz, w2, h2, ys, xs, g1, g2, g3, l1, l2, g4⟩ => ⟨I2.kIn, ?_⟩
  rw [hks]
  have rr : Vals ((gV (V.non :: vs) zs).tail) ((gg (Value.none :: us) ws).tail) := by
    have := hb.rel (vs := V.non :: vs) (us := Value.none :: us) (.cons rfl r) rz
    rw [hgv, hself] at this
    cases this with
    | cons _ t => exact t
  refine run_makeX (bs := (gg (Value.none :: us) ws).tail) M Fk.ok (G.room.mono hk) G.tk (fun s1 self X1 hl => ?_) I2 rr (make_of Fk.ar g1 (hgw w2 xs ys vs zs g2 g3) g4)
  have b := hb.to s1 (self :: us) ws X1 (by rw [List.length_cons, ← r.length, ← g2.length, l1]) (by rw [← rz.length, ← g3.length, l2])
  rw [hself, hself' self Value.none] at b
  exact b
end
end Fz

namespace Fz
open PySem PySem.Spec PyProof.Rows L2

/-! ### instances -/
section
variable {T : Tab} {w : Wd} {h : List Cell} {H : Hp}
def insW (h : List Cell) : W → Option (Nat × List W)
  | .ins c vs => some (c, vs)
  | .loc n => match h[n]? with
    | some (.ins c vs) => some (c, vs)
    | _ => none
  | _ => none
theorem insW_at {x : W} {v : V} {c : Nat} {vs : List W} (s : StR T w h H) (r : VR T w x v) (e : insW h x = some (c, vs)) :
    ∃ a dx us, v = .ref a ∧ H a = some (.ins (T.ca c) dx ((T.fl c).zip us)) ∧ VRs T w vs us ∧ vs.length ≤ (T.fl c).length := by
  cases x with
  | ins c' vs' =>
    cases e
    obtain ⟨a, rfl, q⟩ := r
    obtain ⟨dx, us, h1, h2, h3⟩ := s.fz a _ q
    exact ⟨a, dx, us, rfl, h1, h2, h3⟩
  | loc n =>
    unfold insW at e
    dsimp only at e
    cases q : h[n]? with
    | none => rw [q] at e; cases e
    | some d =>
      rw [q] at e
      cases d with
      | ins c' vs' =>
        cases e
        obtain ⟨a, rfl, _, dx, us, h1, h2, h3⟩ := loc_at s r q
        exact ⟨a, dx, us, rfl, h1, h2, h3⟩
      | _ => cases e
  | _ => cases e
theorem zip_lookup : ∀ {fl : List Str} {us : List V} {j : Nat} {f : Str}, fl.Nodup → fl[j]? = some f → us.length ≤ fl.length → (fl.zip us).lookup f = us[j]?
  | k :: fl, u :: us, 0, f, nd, e, hl => by
    simp at e
    subst e
    rw [List.zip_cons_cons, List.lookup_cons]
    simp
  | k :: fl, u :: us, j + 1, f, nd, e, hl => by
    have e : fl[j]? = some f := by simpa using e
    have hne : (f == k) = false := by
      rw [beq_eq_false_iff_ne]
      intro z
      subst z
      exact (List.nodup_cons.mp nd).1 (List.mem_of_getElem? e)
    rw [List.zip_cons_cons, List.lookup_cons, hne]
    have hl : us.length ≤ fl.length := by simpa using hl
    rw [zip_lookup (List.nodup_cons.mp nd).2 e hl]
    simp
  | [], _, _, _, _, e, _ => by simp at e
  | k :: fl, [], j, f, nd, e, hl => by simp
theorem zip_lookup_none : ∀ {fl : List Str} {us : List V} {f : Str}, f ∉ fl → (fl.zip us).lookup f = none
  | [], _, _, _ => by simp
  | _ :: _, [], _, _ => by simp
  | k :: fl, u :: us, f, n => by
    rw [List.zip_cons_cons, List.lookup_cons]
    have h1 : (f == k) = false := by
      rw [beq_eq_false_iff_ne]
      exact fun z => n (by rw [z]; exact List.mem_cons_self)
    rw [h1]
    exact zip_lookup_none fun z => n (List.mem_cons_of_mem _ z)
theorem putF_zip : ∀ {fl : List Str} {us : List V} {j : Nat} {f : Str} {y : V}, fl.Nodup → fl[j]? = some f → j < us.length → us.length ≤ fl.length → putF f y (fl.zip us) = fl.zip (us.set j y)
  | k :: fl, u :: us, 0, f, y, nd, e, hj, hl => by
    simp at e
    subst e
    rw [List.zip_cons_cons]
    unfold putF
    rw [if_pos rfl]
    rfl
  | k :: fl, u :: us, j + 1, f, y, nd, e, hj, hl => by
    have e : fl[j]? = some f := by simpa using e
    have hne : ¬ k = f := fun z => by
      subst z
      exact (List.nodup_cons.mp nd).1 (List.mem_of_getElem? e)
    rw [List.zip_cons_cons]
    unfold putF
    rw [if_neg hne, putF_zip (List.nodup_cons.mp nd).2 e (by simpa using hj) (by simpa using hl)]
    rfl
  | [], _, _, _, _, _, e, _, _ => by simp at e
  | _ :: _, [], _, _, _, _, _, hj, _ => by simp at hj
theorem putF_app : ∀ {fl : List Str} {us : List V} {f : Str} {y : V}, fl.Nodup → fl[us.length]? = some f → putF f y (fl.zip us) = fl.zip (us ++ [y])
  | k :: fl, [], f, y, nd, e => by
    simp at e
    subst e
    rw [List.zip_nil_right, List.nil_append, List.zip_cons_cons, List.zip_nil_right]
    rfl
  | k :: fl, u :: us, f, y, nd, e => by
    have e : fl[us.length]? = some f := by simpa using e
    have hne : ¬ k = f := fun z => by
      subst z
      exact (List.nodup_cons.mp nd).1 (List.mem_of_getElem? e)
    rw [List.zip_cons_cons]
    unfold putF
    rw [if_neg hne, putF_app (List.nodup_cons.mp nd).2 e]
    rfl
  | [], _, _, _, _, e => by simp at e
end
section
variable {T : Tab} {X : Cx} {E : WX} {n k : Nat} {a b e o : Expr} {es : List Expr} {ma mb mo m' : ME} {mr mk : MA} {pos p apos : Pos} {f C : Addr} {fd : FuncData} {ps : List Str} {g : Fn} {x m fn : Str} {dws : List W} {dvs : List V} {ds : List Value} {kk : Nat}
/-- e.f, the j-th field of the class c -/
def fldW (h : List Cell) (c j : Nat) (x : W) : Option W := match insW h x with
  | some (c', vs) => if c' = c then vs[j]? else none
  | none => none
def mFld (c j : Nat) (m : ME) : ME := fun ρ h => (m ρ h).bind fun x h1 => R.ofO (fldW h1 c j x) h1
theorem i_fld (c j : Nat) (CL : Cls X.K (T.ca c)) (NA : NoAttr X.K (T.ca c) fn) (hf : (T.fl c)[j]? = some fn) (nd : (T.fl c).Nodup) (he : IE T X E e m') (hb : attributeBase e fn X.env (eval e X.env) = eval e X.env := by rfl) : IE T X E (.Attribute e fn pos) (mFld c j m') :=
  PE.imp (pe_fld he hb) fun σ H Q ⟨w, ρ, h, s, en, p⟩ => ⟨w, ρ, h, s, en, Post.bind p fun x h1 w1 H1 v le s1 r1 p1 => by
    unfold fldW at p1
    cases q : insW h1 x with
    | none => rw [q] at p1; exact p1.elim
    | some t =>
      obtain ⟨c', vs⟩ := t
      rw [q] at p1
      dsimp only at p1
      split at p1
      · rename_i hc
        subst hc
        obtain ⟨a, dx, us, rfl, g1, g2, g3⟩ := insW_at s1 r1 q
        cases q2 : vs[j]? with
        | none => rw [q2] at p1; exact p1.elim
        | some z =>
          rw [q2] at p1
          obtain ⟨u, hu, ru⟩ := g2.get q2
          exact ⟨a, _, dx, _, u, rfl, g1, CL, NA, by rw [zip_lookup nd hf (by rw [← g2.length]; exact g3)]; exact hu, p1 w1 H1 u (Le.refl _) s1 ru⟩
      · exact p1.elim⟩
/-- o.f = e -/
def mSFld (c j : Nat) (mo m : ME) : MS := fun ρ h => (m ρ h).toS ρ fun x h1 => (mo ρ h1).toS ρ fun o h2 => match o with
  | .loc i => (match h2[i]? with
    | some (.ins c' vs) => if c' = c then (if j < vs.length then .nx ρ (h2.set i (.ins c (vs.set j x))) else if j = vs.length then .nx ρ (h2.set i (.ins c (vs ++ [x]))) else .bad) else .bad
    | _ => .bad)
  | _ => .bad
theorem is_fld (c j : Nat) {pos' : Pos} (CL : Cls X.K (T.ca c)) (NA : NoAttr X.K (T.ca c) fn) (hf : (T.fl c)[j]? = some fn) (nd : (T.fl c).Nodup) (few : (T.fl c).length < 1000) (ho : IE T X E o mo) (he : IE T X E e m') (G : Gd T X E n)
    (hs : swapsWith e (some (.Attribute o fn pos')) pos.line X.env = pure false := by rfl) : IS T X E (.Assign [.Attribute o fn pos'] e pos) (mSFld c j mo m') :=
  PS.imp (ps_fld ho he hs) fun D σ H ⟨w, ρ, h, s, en, p⟩ => ⟨w, ρ, h, s, en, PostS.of en p fun x h1 w1 H1 v le s1 r1 p1 => ⟨w1, ρ, h1, s1, en.mono le, PostS.of (en.mono le) p1 fun o h2 w2 H2 ov le2 s2 r2 p2 => by
    cases o with
    | loc i =>
      dsimp only at p2
      cases q : h2[i]? with
      | none => rw [q] at p2; exact p2.elim
      | some d =>
        rw [q] at p2
        cases d with
        | ins c' vs =>
          dsimp only at p2
          split at p2
          · rename_i hc
            subst hc
            obtain ⟨a, rfl, e2, dx, us, g1, g2, g3⟩ := loc_at s2 r2 q
            have hj : j < (T.fl c').length := (List.getElem?_eq_some_iff.mp hf).1
            have rv := (r1.mono le2)
            have hlen : ((T.fl c').zip us).length < 1000 := by rw [List.length_zip]; omega
            refine ⟨a, _, dx, _, rfl, g1, CL, NA, hlen, ?_⟩
            split at p2
            · rename_i hjl
              rw [putF_zip nd hf (by rw [← g2.length]; exact hjl) (by rw [← g2.length]; exact g3)]
              have s3 := s2.write (c := .ins c' vs) (d := .ins c' (vs.set j x)) (u := .ins (T.ca c') dx ((T.fl c').zip (us.set j v))) q e2 trivial ⟨dx, us.set j v, upd_same, All2.set rv j g2, by rw [List.length_set]; exact g3⟩
              exact p2 w2 σ _ (Le.refl _) s3 (en.mono (le.trans le2))
            · split at p2
              · rename_i hjl
                subst hjl
                have hul : vs.length = us.length := g2.length
                rw [hul] at hf
                rw [putF_app nd hf]
                have s3 := s2.write (c := .ins c' vs) (d := .ins c' (vs ++ [x])) (u := .ins (T.ca c') dx ((T.fl c').zip (us ++ [v]))) q e2 trivial ⟨dx, us ++ [v], upd_same, All2.append g2 (.cons rv .nil), by rw [List.length_append]; exact hj⟩
                exact p2 w2 σ _ (Le.refl _) s3 (en.mono (le.trans le2))
              · exact p2.elim
          · exact p2.elim
        | _ => exact p2.elim
    | _ => exact p2.elim⟩⟩
/-- o.m(e, ..) of an instance of the class c -/
def mMeth (c : Nat) (g : Fn) (dws : List W) (mo : ME) (mr : MA) : ME := fun ρ h => (mo ρ h).bind fun x h1 => match insW h1 x with
  | some (c', _) => if c' = c then (mr ρ h1).bind fun xs h2 => g (x :: (xs ++ dws)) h2 else .bad
  | none => .bad
theorem i_meth (c : Nat) {pl : Sem Bool} (Fk : Kn T X.prog X.w X.K X.mg X.base k f fd ps g) (hk : k ≤ n) (G : Gd T X E n) (CL : Cls X.K (T.ca c)) (hm : Meth X.K (T.ca c) m f) (hnm : m ∉ T.fl c) (hb : Binds X.K fd ps ds) (hd : Vals dvs ds) (kd : KVs T dws dvs) (ho : IE T X E o mo) (ha : IA T X E (e :: es) mr)
    (hst : starEach (e :: es) X.env = (false, eval e X.env) :: starEach es X.env := by rfl) (hpl : (backTo pos (starEach es X.env)).any (·.1) = false := by rfl)
    (ht : eval (.Call (.Attribute o m apos) (e :: es) [] pos) X.env = (do
      let ov ← eval o X.env
      standAt apos.atName
      let (f, first) ← holding [ov] (getMethod ov m pl)
      callWith pos f first (backTo pos (starEach (e :: es) X.env)) (backToKw pos (keywordEach [] X.env))) := by rfl) :
    IE T X E (.Call (.Attribute o m apos) (e :: es) [] pos) (mMeth c g dws mo mr) := by
  refine ⟨fun pins s σ H Q I ⟨w, ρ, h, st, en, q⟩ => ?_⟩
  refine PySem.W.methodCall_KW (pl := pl) (thn (ho.run pins s σ H (fun v H1 => ∃ a dx fs w1 h1 z, v = .ref a ∧ H1 a = some (.ins (T.ca c) dx fs) ∧ fs.lookup m = none ∧ StR T w1 h1 H1 ∧ EnvR T w1 ρ σ ∧ VR T w1 z v ∧ Post T (VR T) w1 Q (fun c d H' => E c d σ H') ((mr ρ h1).bind fun xs h2 => g (z :: (xs ++ dws)) h2)) I
    ⟨w, ρ, h, st, en, Post.bind q fun z h1 w1 H1 v le s1 r1 p1 => by
      cases qi : insW h1 z with
      | none => rw [qi] at p1; exact p1.elim
      | some t =>
        obtain ⟨c', vs⟩ := t
        rw [qi] at p1
        dsimp only at p1
        split at p1
        · rename_i hc
          subst hc
          obtain ⟨a, dx, us, rfl, g1, g2, g3⟩ := insW_at s1 r1 qi
          exact ⟨a, dx, _, w1, h1, z, rfl, g1, zip_lookup_none hnm, s1, en.mono le, r1, p1⟩
        · exact p1.elim⟩) fun u s1 ⟨v, H1, I1, rx, a, dx, fs, w1, h1, z, ev, ea, l, st1, en1, rz, q1⟩ => ?_) ht
  subst ev
  obtain rfl : u = Value.ref a := rx
  refine getmeth_ok I1 ea CL hm l ?_
  refine PySem.W.callWith_K (first := [.ref a]) (h₀ := X.base) I.ok.mod.kin hm.kp (thn (ha.run pos pins s1 σ H1 (fun vs H' => ∃ w1 h1 xs, StR T w1 h1 H' ∧ VR T w1 z (.ref a) ∧ VRs T w1 xs vs ∧ Post T (VR T) w1 Q (fun c d H' => E c d σ H') (g (z :: (xs ++ dws)) h1)) I1
    ⟨w1, ρ, h1, st1, en1, Post.bind q1 fun xs h2 w2 H2 vs le2 s2 r2 p2 => ⟨w2, h2, xs, s2, rz.mono le2, r2, p2⟩⟩) fun us s2 ⟨vs, H2, I2, r, w2, h2, xs, st2, rz2, rx2, q2⟩ => ⟨I2.kIn, ?_⟩) hst hpl
  exact call_of (us := .ref a :: us) (vs := .ref a :: vs) (xs := z :: xs) Fk hk G hb hd kd I2 (.cons rfl r) st2 (.cons rz2 rx2) q2
theorem i_meth0 (c : Nat) {pl : Sem Bool} (Fk : Kn T X.prog X.w X.K X.mg X.base k f fd ps g) (hk : k ≤ n) (G : Gd T X E n) (CL : Cls X.K (T.ca c)) (hm : Meth X.K (T.ca c) m f) (hnm : m ∉ T.fl c) (hb : Binds X.K fd ps ds) (hd : Vals dvs ds) (kd : KVs T dws dvs) (ho : IE T X E o mo)
    (ht : eval (.Call (.Attribute o m apos) [] [] pos) X.env = (do
      let ov ← eval o X.env
      standAt apos.atName
      let (f, first) ← holding [ov] (getMethod ov m pl)
      callWith pos f first (backTo pos (starEach [] X.env)) (backToKw pos (keywordEach [] X.env))) := by rfl) :
    IE T X E (.Call (.Attribute o m apos) [] [] pos) (mMeth c g dws mo mNil) := by
  refine ⟨fun pins s σ H Q I ⟨w, ρ, h, st, en, q⟩ => ?_⟩
  refine PySem.W.methodCall_KW (pl := pl) (thn (ho.run pins s σ H (fun v H1 => ∃ a dx fs w1 h1 z, v = .ref a ∧ H1 a = some (.ins (T.ca c) dx fs) ∧ fs.lookup m = none ∧ StR T w1 h1 H1 ∧ VR T w1 z v ∧ Post T (VR T) w1 Q (fun c d H' => E c d σ H') (g (z :: dws) h1)) I
    ⟨w, ρ, h, st, en, Post.bind q fun z h1 w1 H1 v le s1 r1 p1 => by
      cases qi : insW h1 z with
      | none => rw [qi] at p1; exact p1.elim
      | some t =>
        obtain ⟨c', vs⟩ := t
        rw [qi] at p1
        dsimp only at p1
        split at p1
        · rename_i hc
          subst hc
          obtain ⟨a, dx, us, rfl, g1, g2, g3⟩ := insW_at s1 r1 qi
          exact ⟨a, dx, _, w1, h1, z, rfl, g1, zip_lookup_none hnm, s1, r1, p1⟩
        · exact p1.elim⟩) fun u s1 ⟨v, H1, I1, rx, a, dx, fs, w1, h1, z, ev, ea, l, st1, rz, q1⟩ => ?_) ht
  subst ev
  obtain rfl : u = Value.ref a := rx
  refine getmeth_ok I1 ea CL hm l ?_
  exact PySem.W.callWith_K0 (first := [.ref a]) I1.kIn hm.kp (call_of (us := [.ref a]) (vs := [.ref a]) (xs := [z]) Fk hk G hb hd kd I1 (.cons rfl .nil) st1 (.cons rz .nil) q1)
/-- what raises nothing -/
def noX {α : Type} (m : R α) : R α := match m with
  | .exc _ _ _ => .bad
  | m => m
theorem noX_of {α β : Type} {rel : Wd → α → β → Prop} {w : Wd} {Q : β → Hp → Prop} {E E' : XK} {m : R α} (p : Post T rel w Q E (noX m)) : Post T rel w Q E' m := by
  cases m with
  | ok x h => exact p
  | _ => exact p.elim
theorem passes_no : Passes (L2.CX X.prog X.w) X (fun _ _ _ => False) := fun pins σ H s e s' _ ⟨_, _, _, _, _, _, _, _, _, _, _, _, z⟩ => z.elim
/-- e.f, a property -/
def mProp (c : Nat) (g : Fn) (m : ME) : ME := fun ρ h => (m ρ h).bind fun x h1 => match insW h1 x with
  | some (c', _) => if c' = c then noX (g [x] h1) else .bad
  | none => .bad
theorem i_prop (c : Nat) {pp : Addr} (Fk : Kn T X.prog X.w X.K X.mg X.base k f fd ps g) (hk : k + 1 ≤ n) (G : Gd T X E n) (CL : Cls X.K (T.ca c)) (hp : PropOf X.K (T.ca c) fn pp f) (hb : Binds X.K fd ps []) (he : IE T X E e m') (hab : attributeBase e fn X.env (eval e X.env) = eval e X.env := by rfl) :
    IE T X E (.Attribute e fn pos) (mProp c g m') :=
  PE.imp (pe_prop he CL hp Fk.ok (G.room.mono hk) hb .nil (fun pins σ H s e s' _ ⟨_, _, _, _, _, _, _, _, _, _, _, _, z⟩ => (z : False).elim) hab) fun σ H Q ⟨w, ρ, h, s, en, p⟩ => ⟨w, ρ, h, s, en, Post.bind p fun x h1 w1 H1 v le s1 r1 p1 => by
    cases qi : insW h1 x with
    | none => rw [qi] at p1; exact p1.elim
    | some t =>
      obtain ⟨c', vs⟩ := t
      rw [qi] at p1
      dsimp only at p1
      split at p1
      · rename_i hc
        subst hc
        obtain ⟨a, dx, us, rfl, g1, g2, g3⟩ := insW_at s1 r1 qi
        exact ⟨a, dx, _, rfl, g1, sp_of' Fk.ar s1 (.cons r1 .nil) (noX_of p1)⟩
      · exact p1.elim⟩

/-! ### operators of a class's own -/
def mOpH (f : W → W → List Cell → R W) (ma mb : ME) : ME := fun ρ h => (ma ρ h).bind fun x h1 => (mb ρ h1).bind fun y h2 => f x y h2
def OpHI (T : Tab) (f : W → W → List Cell → R W) (r : R2) : Prop := ∀ (w : Wd) (h : List Cell) (H : Hp) (x y : W) (v u : V) (Q : VK) (E : XK), StR T w h H → VR T w x v → VR T w y u → Post T (VR T) w Q E (f x y h) → r v u H Q
theorem tOpH_of {f : W → W → List Cell → R W} {r : R2} (o : OpHI T f r) {σ : L2.St} {H : Hp} {Q : VK} (q : teI T E (mOpH f ma mb) σ H Q) : tOp r (teI T E ma) (teI T E mb) σ H Q := by
  obtain ⟨w, ρ, h, s, en, p⟩ := q
  exact ⟨w, ρ, h, s, en, Post.bind p fun x h1 w1 H1 v le s1 r1 p1 => ⟨w1, ρ, h1, s1, en.mono le, Post.bind p1 fun y h2 w2 H2 u le2 s2 r2 p2 => o w2 h2 H2 x y v u Q _ s2 (r1.mono le2) r2 p2⟩⟩
/-- both are instances of the class c -/
def fOwn (c : Nat) (g : Fn) : W → W → List Cell → R W := fun x y h => match insW h x, insW h y with
  | some (c1, _), some (c2, _) => if c1 = c ∧ c2 = c then noX (g [x, y] h) else .bad
  | _, _ => .bad
def rOwn (T : Tab) (c : Nat) (g : Fn) : R2 := fun x y H Q => ∃ a b dx dy fs gs, x = .ref a ∧ y = .ref b ∧ H a = some (.ins (T.ca c) dx fs) ∧ H b = some (.ins (T.ca c) dy gs) ∧ spI T 2 g [x, y] H Q (fun _ _ _ => False)
theorem o_own (c : Nat) (ar : Arity g 2) : OpHI T (fOwn c g) (rOwn T c g) := fun w h H x y v u Q E s r1 r2 p => by
  unfold fOwn at p
  cases q1 : insW h x with
  | none => rw [q1] at p; exact p.elim
  | some t =>
    obtain ⟨c1, vs⟩ := t
    cases q2 : insW h y with
    | none => rw [q1, q2] at p; exact p.elim
    | some t2 =>
      obtain ⟨c2, vs2⟩ := t2
      rw [q1, q2] at p
      dsimp only at p
      split at p
      · rename_i hc
        obtain ⟨rfl, rfl⟩ := hc
        obtain ⟨a, dx, us, rfl, g1, _⟩ := insW_at s r1 q1
        obtain ⟨b, dy, us2, rfl, g2, _⟩ := insW_at s r2 q2
        exact ⟨a, b, dx, dy, _, _, rfl, rfl, g1, g2, sp_of' ar s (.cons r1 (.cons r2 .nil)) (noX_of p)⟩
      · exact p.elim
theorem run_own {pins : List (Addr × Obj)} {σ : L2.St} {H : Hp} {s : Shared} {Q : VK} {a b : Addr} (Fk : Kn T X.prog X.w X.K X.mg X.base k f fd ps g) (hk : k ≤ n) (hr : Room n X.A) (h2 : ps.length = 2) (hb : Binds X.K fd ps []) (I : Inv X pins σ H s) (h : spI T 2 g [.ref a, .ref b] H Q (fun _ _ _ => False)) :
    wpAny (model X.prog X.w) X.A (call (.ref f) [.ref a, .ref b]) (PySem.W.CmpBack (EP X pins σ Q)) X.xe s := by
  refine wpAny_mono (run_fn (us := [.ref a, .ref b]) (vs := [.ref a, .ref b]) Fk.ok (hr.mono hk) hb .nil passes_no I (.cons rfl (.cons rfl .nil)) (by rw [h2]; exact h)) (fun v s' hv => ?_) fun _ _ z => z
  obtain ⟨z, H', I', rz, q⟩ := hv
  cases v with
  | notImplemented =>
    cases z with
    | non => cases rz
    | bl _ => cases rz
    | int _ => obtain ⟨_, e⟩ := rz; cases e
    | str _ => obtain ⟨_, e⟩ := rz; cases e
    | byt _ => obtain ⟨_, e⟩ := rz; cases e
    | flt _ => obtain ⟨_, e⟩ := rz; cases e
    | ref _ => cases rz
    | ty _ => cases rz
  | _ => exact ⟨z, H', I', rz, q⟩
theorem op_ownC (c : Nat) {op : CmpOp} (hop : ∀ u v, compareOp op u v = richCompare op u v) (Fk : Kn T X.prog X.w X.K X.mg X.base k f fd ps g) (hk : k ≤ n) (hr : Room n X.A) (h2 : ps.length = 2) (hb : Binds X.K fd ps []) (hs : PySem.W.findIn X.K (.ref (T.ca c)) (cmpInfo op).2.1 = some (some (.ref f))) (hf : PySem.W.isFn X.K (.ref f) = true) :
    OpR X (compareOp op) (rOwn T c g) := by
  intro pins s σ H x y u v Q I rx ry d
  obtain ⟨a, b, dx, dy, fs, gs, rfl, rfl, ha, hb', hsp⟩ := d
  cases rx
  cases ry
  obtain ⟨mA, J, _⟩ := ins_get I.hok ha
  obtain ⟨mB, J', _⟩ := ins_get I.hok hb'
  obtain ⟨od, J, _⟩ := J.look
  obtain ⟨od', J', _⟩ := J'.look
  obtain ⟨m, hF⟩ := I.fr
  rw [hop]
  exact PySem.W.cmp_K (op := op) (tb := .ref (T.ca c)) hr.units0 hF I.ok.mod.kin J J'.type (by simp [PySem.W.notFirst]) hs hf (run_own Fk hk hr h2 hb I hsp)
theorem op_ownB (c : Nat) {op : Operator} (Fk : Kn T X.prog X.w X.K X.mg X.base k f fd ps g) (hk : k ≤ n) (hr : Room n X.A) (h2 : ps.length = 2) (hb : Binds X.K fd ps []) (hc : PySem.W.selfFirst X.K (T.ca c) = true) (hs : PySem.W.findIn X.K (.ref (T.ca c)) (PySem.dunder op.info.2) = some (some (.ref f))) (hf : PySem.W.isFn X.K (.ref f) = true) :
    OpR X (binaryOp op) (rOwn T c g) := by
  intro pins s σ H x y u v Q I rx ry d
  obtain ⟨a, b, dx, dy, fs, gs, rfl, rfl, ha, hb', hsp⟩ := d
  cases rx
  cases ry
  obtain ⟨mA, J, _⟩ := ins_get I.hok ha
  obtain ⟨mB, J', _⟩ := ins_get I.hok hb'
  obtain ⟨od, J, _⟩ := J.look
  obtain ⟨od', J', _⟩ := J'.look
  obtain ⟨m, hF⟩ := I.fr
  exact PySem.W.binop_K (op := op) hF I.ok.mod.kin J J'.type hc hs hf (run_own Fk hk hr h2 hb I hsp)
theorem i_cmpO (c : Nat) {op : CmpOp} (Fk : Kn T X.prog X.w X.K X.mg X.base k f fd ps g) (hk : k ≤ n) (G : Gd T X E n) (h2 : ps.length = 2) (hb : Binds X.K fd ps []) (hs : PySem.W.findIn X.K (.ref (T.ca c)) (cmpInfo op).2.1 = some (some (.ref f))) (hf : PySem.W.isFn X.K (.ref f) = true) (hop : ∀ u v, compareOp op u v = richCompare op u v)
    (hm : behindInMarks op b = false) (ha : IE T X E a ma) (hb' : IE T X E b mb) : IE T X E (.Compare a [op] [b] pos) (mOpH (fOwn c g) ma mb) := PE.imp (pe_cmpR (op_ownC c hop Fk hk G.room h2 hb hs hf) ha hb' hm) fun _ _ _ q => tOpH_of (o_own c (h2 ▸ Fk.ar)) q
theorem it_cmpO (c : Nat) {op : CmpOp} (Fk : Kn T X.prog X.w X.K X.mg X.base k f fd ps g) (hk : k ≤ n) (G : Gd T X E n) (h2 : ps.length = 2) (hb : Binds X.K fd ps []) (hs : PySem.W.findIn X.K (.ref (T.ca c)) (cmpInfo op).2.1 = some (some (.ref f))) (hf : PySem.W.isFn X.K (.ref f) = true) (hop : ∀ u v, compareOp op u v = richCompare op u v)
    (hm : behindInMarks op b = false) (ha : IE T X E a ma) (hb' : IE T X E b mb) : IT T X E (.Compare a [op] [b] pos) (mTst (mOpH (fOwn c g) ma mb)) := PT.imp (pt_cmpR (op_ownC c hop Fk hk G.room h2 hb hs hf) ha hb' hm) fun _ _ _ q => tTest_of (fun _ _ _ q => tOpH_of (o_own c (h2 ▸ Fk.ar)) q) q
theorem i_opO (c : Nat) {op : Operator} (Fk : Kn T X.prog X.w X.K X.mg X.base k f fd ps g) (hk : k ≤ n) (G : Gd T X E n) (h2 : ps.length = 2) (hb : Binds X.K fd ps []) (hc : PySem.W.selfFirst X.K (T.ca c) = true) (hs : PySem.W.findIn X.K (.ref (T.ca c)) (PySem.dunder op.info.2) = some (some (.ref f))) (hf : PySem.W.isFn X.K (.ref f) = true)
    (ha : IE T X E a ma) (hb' : IE T X E b mb) : IE T X E (.BinOp a op b pos) (mOpH (fOwn c g) ma mb) := PE.imp (pe_op (op_ownB c Fk hk G.room h2 hb hc hs hf) ha hb') fun _ _ _ q => tOpH_of (o_own c (h2 ▸ Fk.ar)) q

/-! ### isinstance -/
inductive Tg where
  | bt (b : BT) | own (c : Nat)
  deriving DecidableEq
def Tg.val (T : Tab) : Tg → Value
  | .bt b => .type b.name
  | .own c => .ref (T.ca c)
/-- what an instance's class must say -/
structure InsF (T : Tab) (c : Nat) : Prop where
  cl : Cls T.K (T.ca c)
  ha : PySem.W.findIn T.K (.ref (T.ca c)) "__class__" = some (some (.builtin "object.__class__"))
  hn : PySem.W.specialIn T.K (.builtin "object.__class__") "__get__" = some (some (.builtin "getset_descriptor.__get__"))
  ht : PySem.W.takesIn T.K (.builtin "object.__class__") = some true
  hm : PySem.W.mroIn T.K (T.ca c) (.type "object") = some true
structure IsiOk (T : Tab) (isi : Tg → Tg → Option Bool) : Prop where
  kit : ∀ t u b, isi t u = some b → PySem.W.kitOne T.K (t.val T) (u.val T) = some b
  ins : ∀ c u b, isi (.own c) u = some b → InsF T c
def tagW (h : List Cell) : W → Option Tg
  | .non => some (.bt .none)
  | .bl _ => some (.bt .bool)
  | .int _ => some (.bt .int)
  | .str _ => some (.bt .str)
  | .tup _ => some (.bt .tuple)
  | .lst _ => some (.bt .list)
  | .scr _ => some (.bt .list)
  | .ins c _ => some (.own c)
  | .loc n => match h[n]? with
    | some (.lst _) => some (.bt .list)
    | some (.dk _) => some (.bt .dict)
    | some (.dt _) => some (.bt .dict)
    | some (.ins c _) => some (.own c)
    | _ => none
  | _ => none
theorem tagW_ok {w : Wd} {h : List Cell} {H : Hp} (s : StR T w h H) {x : W} {v : V} {t : Tg} (r : VR T w x v) (e : tagW h x = some t) (hi : ∀ c, t = .own c → InsF T c) : TyX T.K H v (t.val T) := by
  cases x with
  | non => cases r; cases e; exact .base .non
  | bl b => cases r; cases e; exact .base (.bl b)
  | int b => cases r; cases e; exact .base (.int b)
  | str b => cases r; cases e; exact .base (.str b)
  | tup l =>
    cases e
    rcases r with ⟨a, rfl, q⟩ | q
    · obtain ⟨vs, h1, h2⟩ := s.fz a _ q
      exact .base (.tup h1)
    · cases q with
      | tup k1 k2 =>
        obtain ⟨o, its, nn, k1, k3, _⟩ := k1
        exact .kTuple k1 k3
  | lst l =>
    cases e
    obtain ⟨a, vs, rfl, h1, h2⟩ := lst_at s r
    exact .base (.lst h1)
  | scr l =>
    cases e
    rcases r with ⟨a, rfl, q⟩ | q
    · obtain ⟨vs, h1, h2⟩ := s.fz a _ q
      rcases h1 with h1 | ⟨o, h1⟩
      · exact .base (.lst h1)
      · exact .base (.frz h1)
    · cases q with
      | scr k1 k2 =>
        obtain ⟨o, its, nn, k1, k3, _⟩ := k1
        exact .kList k1 k3
  | ins c vs =>
    cases e
    obtain ⟨a, dx, us, rfl, g1, _⟩ := insW_at s r (rfl : insW h (.ins c vs) = some (c, vs))
    have F := hi c rfl
    exact .base (.ins g1 F.cl F.ha F.hn F.ht F.hm)
  | loc n =>
    unfold tagW at e
    dsimp only at e
    cases q : h[n]? with
    | none => rw [q] at e; cases e
    | some d =>
      rw [q] at e
      obtain ⟨a, rfl, _, co⟩ := loc_at s r q
      cases d with
      | lst l => cases e; obtain ⟨vs, h1, _⟩ := co; exact .base (.lst h1)
      | dk l => cases e; obtain ⟨vs, h1, _⟩ := co; exact .base (.dK h1)
      | dt l => cases e; obtain ⟨vs, h1, _⟩ := co; exact .base (.dT h1)
      | ins c vs =>
        cases e
        obtain ⟨dx, us, h1, _⟩ := co
        have F := hi c rfl
        exact .base (.ins h1 F.cl F.ha F.hn F.ht F.hm)
      | dead => cases e
  | _ => cases e
def clsW : W → Option Tg
  | .ty b => some (.bt b)
  | .cls c => some (.own c)
  | _ => none
def clsWs : List W → Option (List Tg)
  | [] => some []
  | c :: cs => match clsW c, clsWs cs with
    | some u, some us => some (u :: us)
    | _, _ => none
def isiAny (isi : Tg → Tg → Option Bool) (t : Tg) : List Tg → Option Bool
  | [] => some false
  | u :: us => match isi t u with
    | some true => some true
    | some false => isiAny isi t us
    | none => none
def isiTup (isi : Tg → Tg → Option Bool) (t : Tg) : List W → Option Bool
  | [] => none
  | c :: cs => match clsWs (c :: cs) with
    | some us => isiAny isi t us
    | none => none
def isiW (isi : Tg → Tg → Option Bool) (h : List Cell) (x c : W) : Option Bool := match tagW h x with
  | some t => (match c with
    | .tup cs => isiTup isi t cs
    | _ => (match clsW c with
      | some u => isi t u
      | none => none))
  | none => none
def fIsi (isi : Tg → Tg → Option Bool) : FA := fun xs h => match xs with
  | [x, c] => (match isiW isi h x c with
    | some b => some (.bl b)
    | none => none)
  | _ => none
theorem clsW_ok {w : Wd} {c : W} {v : V} {u : Tg} (r : VR T w c v) (e : clsW c = some u) : ClsV v (u.val T) := by
  cases c with
  | ty b => cases r; cases e; exact .ty _
  | cls c => cases r; cases e; exact .own _
  | _ => cases e
theorem clsWs_ok {w : Wd} : ∀ {cs : List W} {vs : List V} {us : List Tg}, VRs T w cs vs → clsWs cs = some us → Paired ClsV vs (us.map (Tg.val T))
  | [], _, _, .nil, e => by cases e; exact .nil
  | c :: cs, _, us, .cons r1 r2, e => by
    unfold clsWs at e
    cases q : clsW c with
    | none => rw [q] at e; cases e
    | some u =>
      cases q2 : clsWs cs with
      | none => rw [q, q2] at e; cases e
      | some us' =>
        rw [q, q2] at e
        cases e
        exact .cons (clsW_ok r1 q) (clsWs_ok r2 q2)
theorem isiAny_ok {isi : Tg → Tg → Option Bool} (ok : IsiOk T isi) {t : Tg} : ∀ {us : List Tg} {b : Bool}, isiAny isi t us = some b → PySem.W.kitAny T.K (t.val T) (us.map (Tg.val T)) = some b
  | [], b, e => by cases e; exact kitAny_nil
  | u :: us, b, e => by
    unfold isiAny at e
    cases q : isi t u with
    | none => rw [q] at e; cases e
    | some k =>
      rw [q] at e
      have q' := ok.kit t u k q
      cases k with
      | true => cases e; exact kitAny_cons q' (fun z => by cases z) (fun _ => rfl)
      | false => exact kitAny_cons q' (fun _ => isiAny_ok ok e) (fun z => by cases z)
theorem isiTup_ne {isi : Tg → Tg → Option Bool} {t : Tg} {cs : List W} {b : Bool} (e : isiTup isi t cs = some b) : ∃ u us, clsWs cs = some (u :: us) ∧ isiAny isi t (u :: us) = some b := by
  cases cs with
  | nil => cases e
  | cons c cs =>
    have e : (match clsWs (c :: cs) with | some us => isiAny isi t us | none => none) = some b := e
    cases q : clsWs (c :: cs) with
    | none => rw [q] at e; cases e
    | some us =>
      rw [q] at e
      cases us with
      | nil =>
        unfold clsWs at q
        cases q1 : clsW c with
        | none => rw [q1] at q; cases q
        | some u => cases q2 : clsWs cs with
          | none => rw [q1, q2] at q; cases q
          | some us => rw [q1, q2] at q; cases q
      | cons u us => exact ⟨u, us, rfl, e⟩
theorem isiAny_first {isi : Tg → Tg → Option Bool} (ok : IsiOk T isi) {t u : Tg} {us : List Tg} {b : Bool} (e : isiAny isi t (u :: us) = some b) : ∀ d, t = .own d → InsF T d := by
  intro d ed
  subst ed
  unfold isiAny at e
  cases q : isi (.own d) u with
  | none => rw [q] at e; cases e
  | some k => exact ok.ins d u k q
def rIsiA (K : PySem.W.Frag) : List V → Hp → VK → Prop := fun xs H Q => rIsi K xs H Q ∨ rIsiT K xs H Q ∨ rIsiK K xs H Q
theorem call_isiA : CallR X (.builtin "isinstance") (rIsiA X.K) := fun pins s σ H xs us Q I r q => q.elim (call_isi pins s σ H xs us Q I r) fun q => q.elim (call_isiT pins s σ H xs us Q I r) (call_isiK pins s σ H xs us Q I r)
theorem c_isi {isi : Tg → Tg → Option Bool} (ok : IsiOk T isi) : CallI T (fIsi isi) (rIsiA T.K) := fun w h H xs vs z Q s r e q => by
  unfold fIsi at e
  split at e
  · rename_i x c
    cases q1 : isiW isi h x c with
    | none => rw [q1] at e; cases e
    | some b =>
      rw [q1] at e
      cases e
      obtain ⟨v, u, rfl, r1, r2⟩ := all2 r
      have fin : Q (.bl b) H := q w H _ (Le.refl w) s rfl
      cases et : tagW h x with
      | none => unfold isiW at q1; rw [et] at q1; cases q1
      | some t =>
        unfold isiW at q1
        rw [et] at q1
        cases c with
        | tup cs =>
          obtain ⟨t1, ts, qc, qa⟩ := isiTup_ne (show isiTup isi t cs = some b from q1)
          have ty := tagW_ok s r1 et (isiAny_first ok qa)
          have ka := isiAny_ok ok qa
          rcases r2 with ⟨a, rfl, qf⟩ | qk
          · obtain ⟨us, g1, g2⟩ := s.fz a _ qf
            exact .inr (.inl ⟨v, a, us, _, _, b, rfl, g1, clsWs_ok g2 qc, ty, ka, fin⟩)
          · cases qk with
            | tup k1 k2 =>
              obtain ⟨o, its, nn, l1, l2, l3, l4, l5⟩ := k1
              have pv := clsWs_ok (w := w) k2.vrs qc
              have e1 := ClsV.all pv l5
              obtain ⟨oc, od, dt, sl⟩ := o
              dsimp only at l2 l3
              subst l2 l3
              refine .inr (.inr ⟨v, _, od, (t1 :: ts).map (Tg.val T), nn, sl, _, b, rfl, ?_, ty, ka, fin⟩)
              rw [l1, ← e1]
        | _ =>
          dsimp only at q1
          cases qc : clsW _ with
          | none => rw [qc] at q1; cases q1
          | some ts =>
            rw [qc] at q1
            have ty := tagW_ok s r1 et fun d ed => by subst ed; exact ok.ins d ts b q1
            exact .inl ⟨v, u, _, _, b, rfl, clsW_ok r2 qc, ty, ok.kit t ts b q1, fin⟩
  · cases e
theorem i_isi {isi : Tg → Tg → Option Bool} {p : Pos} (ok : IsiOk T isi) (G : Gd T X E n) (ha : IE T X E a ma) (hb : IE T X E b mb) (hm : X.mg "isinstance" = none) (hg : Gl X "isinstance" := by rfl) (hs : starEach [a, b] X.env = (false, eval a X.env) :: starEach [b] X.env := by rfl)
    (hs2 : starEach [b] X.env = (false, eval b X.env) :: starEach [] X.env := by rfl) (hpl : (backTo pos (starEach [b] X.env)).any (·.1) = false := by rfl) : IE T X E (.Call (.Name "isinstance" p) [a, b] [] pos) (mCB (fIsi isi) (mCons ma (mCons mb mNil))) :=
  i_cb (c_isi ok) (G.K ▸ call_isiA) hg hm (by decide +kernel) (ia_cons ha (ia_cons hb ia_nil hs2) hs) (by decide +kernel) (by decide +kernel) hs hpl
def isiB : BT → BT → Option Bool
  | _, .none => none
  | .bool, .int => some true
  | a, b => some (decide (a = b))
theorem isiB_ok : ∀ {a b : BT} {r : Bool}, isiB a b = some r → kitB a.name b.name = some r := by
  intro a b r e
  cases a <;> cases b <;> cases e <;> decide +kernel
end
end Fz

namespace Fz
open PySem PySem.Spec PyProof.Rows L2

/-! ### what the head's facts give -/
def fdOf (K : PySem.W.Frag) (f : Addr) : FuncData := match K.lookup f with
  | some ⟨_, _, .func fd, _⟩ => fd
  | _ => PySem.W.fnOf Str.empty Str.empty { posonlyargs := [], args := [], vararg := none, kwonlyargs := [], kw_defaults := [], kwarg := none, defaults := [] } [] { kind := .function, names := [], isGenerator := false, isCoroutine := false } .none .none .none .none none .none .none
theorem fdOf_ok {K : PySem.W.Frag} {x qual : Str} {params : Arguments} {body : List Stmt} {scope : Scope} {dvs : List V} {kws : List (Str × V)} {f : Addr} (h : ∃ fd, FunD K x qual params body scope dvs kws f fd) : FunD K x qual params body scope dvs kws f (fdOf K f) := by
  obtain ⟨fd, F⟩ := h
  obtain ⟨oc, od, dV, kV, doc, pm, an, cdv, ct, osl, e1, e2, r⟩ := F.ex
  have : fdOf K f = fd := by
    unfold fdOf
    rw [e2]
  rw [this]
  exact F
theorem ktp_of {K : PySem.W.Frag} {a : Addr} {vs : List V} (h : SqT K (fun _ => none) a vs) : KTp K a vs := by
  rcases h with (h | ⟨o, h⟩) | h
  · cases h
  · cases h
  · exact h
def insB (K : PySem.W.Frag) (C : Addr) : Bool := He.eqO (PySem.W.findIn K (.ref C) "__class__") (some (some (.builtin "object.__class__"))) && (He.eqO (PySem.W.specialIn K (.builtin "object.__class__") "__get__") (some (some (.builtin "getset_descriptor.__get__")))
  && (decide (PySem.W.takesIn K (.builtin "object.__class__") = some true) && decide (PySem.W.mroIn K C (.type "object") = some true)))
theorem insB_ok {T : Tab} {c : Nat} (cl : Cls T.K (T.ca c)) (h : insB T.K (T.ca c) = true) : InsF T c := by
  obtain ⟨h1, h⟩ := He.ba h
  obtain ⟨h2, h⟩ := He.ba h
  obtain ⟨h3, h4⟩ := He.ba h
  exact ⟨cl, He.eqO_ok h1, He.eqO_ok h2, of_decide_eq_true h3, of_decide_eq_true h4⟩
/-- isinstance by a table -/
def isiT (l : List (Tg × Tg × Bool)) (t u : Tg) : Option Bool := match t, u with
  | .bt a, .bt b => isiB a b
  | t, u => match l.find? fun q => decide (q.1 = t) && decide (q.2.1 = u) with
    | some q => some q.2.2
    | none => none
theorem isiT_find {l : List (Tg × Tg × Bool)} {t u : Tg} {b : Bool} (e : (match l.find? fun q => decide (q.1 = t) && decide (q.2.1 = u) with | some q => some q.2.2 | none => none) = some b) : (t, u, b) ∈ l := by
  cases q : l.find? fun q => decide (q.1 = t) && decide (q.2.1 = u) with
  | none => rw [q] at e; cases e
  | some r =>
    rw [q] at e
    cases e
    have h1 := List.find?_some q
    have h2 := List.mem_of_find?_eq_some q
    rw [Bool.and_eq_true] at h1
    obtain ⟨a, b, c⟩ := r
    have e1 : a = t := of_decide_eq_true h1.1
    have e2 : b = u := of_decide_eq_true h1.2
    subst e1 e2
    exact h2
theorem isiT_ok {T : Tab} {l : List (Tg × Tg × Bool)} {n : Nat} (kit : ∀ q ∈ l, PySem.W.kitOne T.K (q.1.val T) (q.2.1.val T) = some q.2.2) (hl : (l.all fun q => match q.1 with | .own c => decide (c < n) | _ => true) = true) (ins : ∀ c, c < n → InsF T c) : IsiOk T (isiT l) where
  kit := fun t u b e => by
    cases t with
    | bt a =>
      cases u with
      | bt a' => exact kit_ty (isiB_ok e)
      | own c => exact kit _ (isiT_find e)
    | own c => exact kit _ (isiT_find e)
  ins := fun c u b e => by
    have h := List.all_eq_true.mp hl _ (isiT_find (t := .own c) (u := u) (b := b) (by cases u <;> exact e))
    exact ins c (of_decide_eq_true h)
/-! ### the hook -/
def obsX (facts : PySem.W.Frag → List Bool) (fn : List He.DefD) (K : PySem.W.Frag) : He.AlD := (((facts K).all fun b => b) && fn.all fun d => d.ok K, fn.map fun d => He.fnW K d.at_)
def FxSays (facts : PySem.W.Frag → List Bool) (fn : List He.DefD) (K : PySem.W.Frag) : Prop := obsX facts fn K = He.valD fn
def obsXG (n : Nat) (facts : PySem.W.Frag → List Bool) (fn : List He.DefD) (g : Addr → Option Obj) : He.AlD := obsX facts fn (He.frG g (He.asD g n))
def hookX (n : Nat) (facts : PySem.W.Frag → List Bool) (fn : List He.DefD) : PySem.W.Hook where
  α := He.AlD
  obs := fun s => obsXG n facts fn s.heap.get?
  val := fun _ => He.valD fn
  says := fun _ h => ∃ K : PySem.W.Frag, K.In h ∧ FxSays facts fn K
  of := fun _ _ e => ⟨_, He.frG_in, e⟩
  keeps := fun _ _ _ ⟨K, hK, c⟩ k => ⟨K, PySem.W.Frag.In.keeps hK k, c⟩
theorem obsXG_eq {n : Nat} {facts : PySem.W.Frag → List Bool} {fn : List He.DefD} {g : Addr → Option Obj} {s : Shared} (h : ∀ a, g a = s.heap.get? a) : obsXG n facts fn g = (hookX n facts fn).obs s := by
  have e : g = s.heap.get? := funext h
  rw [e] <;> rfl
section
variable {facts : PySem.W.Frag → List Bool} {fn : List He.DefD} {K : PySem.W.Frag}
theorem FxSays.fact (c : FxSays facts fn K) (i : Nat) {b : Bool} (h : (facts K)[i]? = some b) : b = true := by
  have c1 := (He.ba (show (((facts K).all fun b => b) && fn.all fun d => d.ok K) = true from congrArg (fun z : He.AlD => z.1) c)).1
  exact List.all_eq_true.mp c1 b (List.mem_of_getElem? h)
theorem FxSays.def_ (c : FxSays facts fn K) (i : Nat) {d : He.DefD} (h : fn[i]? = some d) : ∃ fd, FunD K d.name d.qual d.params d.body d.scope (d.dvs K) (d.kws K) (He.fAd K d.at_) fd := by
  have c2 := (He.ba (show (((facts K).all fun b => b) && fn.all fun d => d.ok K) = true from congrArg (fun z : He.AlD => z.1) c)).2
  have e : fn.map (fun d => He.fnW K d.at_) = fn.map He.DefD.val := congrArg (fun z : He.AlD => z.2) c
  have e2 : (fn.map fun d => He.fnW K d.at_)[i]? = (fn.map He.DefD.val)[i]? := by rw [e]
  rw [List.getElem?_map, List.getElem?_map, h] at e2
  exact He.DefD.funD (Option.some.inj e2) (List.all_eq_true.mp c2 d (List.mem_of_getElem? h))
end
/-! ### the law's end -/
/-- the law holds if its meaning gives True for every script -/
theorem law_sp {T : Tab} {g : Fn} {ns : List Int} {a : Addr} {H : Hp} (hg : ∀ ns : List Int, ns.length ≤ 63 → ∃ h, g [.scr (ns.map .int)] [] = .ok (.bl true) h) (hl : ns.length ≤ 63) (hS : SqL T.K H a (ns.map V.int)) : spI T 1 g [.ref a] H (fun v _ => v = .bl true) fun _ _ _ => False := by
  have vints : ∀ (w : Wd) (ns : List Int), VRs T w (ns.map .int) (ns.map V.int) := fun w ns => by
    induction ns with
    | nil => exact .nil
    | cons i ns ih => exact .cons rfl ih
  have kvints : ∀ (ns : List Int), KVs T (ns.map .int) (ns.map V.int) := fun ns => by
    induction ns with
    | nil => exact .nil
    | cons i ns ih => exact .cons .int ih
  obtain ⟨h, e⟩ := hg ns hl
  have nilw : StR T ⟨[], fun _ => none⟩ [] H := ⟨(fun a o e => by cases e), rfl, List.nodup_nil, (fun n c a e => by simp at e)⟩
  rcases hS with hS | hS
  · let w : Wd := ⟨[], fun b => if b = a then some (.scr (ns.map .int)) else none⟩
    refine ⟨w, [], [.scr (ns.map .int)], ⟨fun b o eb => ?_, rfl, List.nodup_nil, (fun n c a e => by simp at e)⟩, .cons (.inl ⟨a, rfl, if_pos rfl⟩) .nil, rfl, ?_⟩
    · have eb : (if b = a then some (FO.scr (ns.map .int)) else none) = some o := eb
      split at eb
      · rename_i hb
        cases eb
        subst hb
        exact ⟨_, hS, vints _ _⟩
      · cases eb
    · rw [e]
      exact fun w' H' v _ _ r => r
  · refine ⟨_, [], [.scr (ns.map .int)], nilw, .cons (.inr (.scr hS (kvints ns))) .nil, rfl, ?_⟩
    rw [e]
    exact fun w' H' v _ _ r => r
theorem fn_cx {P : Program} {w : World} {K : PySem.W.Frag} {mg : Str → Option Value} {base : Heap} {CX CX' : CXT} {k : Nat} {f : Addr} {fd : FuncData} {ps : List Str} {sp : Sp} (F : FnOk P w K mg base CX k f fd ps sp) (h : ∀ l H s E e s', CX l H s E e s' → CX' l H s E e s') : FnOk P w K mg base CX' k f fd ps sp :=
  ⟨F.len, fun A outer s H args us vs Q E hr e0 hb r hsp => codeAny_mono (F.run A outer s H args us vs Q E hr e0 hb r hsp) fun r s' hq => by
    cases r with
    | error e => exact h _ _ _ _ _ _ hq
    | ok fl => cases fl <;> exact hq⟩
/-- an exception leaves the law's def, in some world -/
def CXe (P : Program) : CXT := fun l H s E e s' => ∃ w, L2.CX P w l H s E e s'
theorem cxe_no {P : Program} {H : Hp} {s s' : Shared} {e : Value} (h : CXe P [] H s (fun _ _ _ => False) e s') : False := by
  obtain ⟨w, _, _, _, _, _, _, _, _, _, _, _, _, z⟩ := h
  exact z
end Fz

namespace Fz
open PySem PySem.Spec PyProof.Rows L2
section
variable {T : Tab} {X : Cx} {E : WX} {n k : Nat} {a b e o : Expr} {es : List Expr} {ma mb mo m' : ME} {mr mk : MA} {pos p apos : Pos} {f C : Addr} {fd : FuncData} {ps : List Str} {g : Fn} {x m fn : Str} {dws : List W} {dvs : List V} {ds : List Value} {kk : Nat}
/-- the greater and the less of two ints -/
def fMax : FA := fun xs _ => match xs with
  | [.int i, .int j] => some (.int (if j > i then j else i))
  | _ => none
theorem c_max : CallI T fMax (fun xs H Q => ∃ i j, xs = [.int i, .int j] ∧ Q (.int (if j > i then j else i)) H) := fun w h H xs vs z Q s r e q => by
  unfold fMax at e
  split at e
  · cases e
    cases r with
    | cons r1 r2 =>
      cases r2 with
      | cons r3 r4 =>
        cases r4
        cases r1
        cases r3
        exact ⟨_, _, rfl, q w H _ (Le.refl w) s rfl⟩
  · cases e
theorem i_max2 {p : Pos} (G : Gd T X E n) (ha : IE T X E a ma) (hb : IE T X E b mb) (hm : X.mg "max" = none) (hg : Gl X "max" := by rfl) (hs : starEach [a, b] X.env = (false, eval a X.env) :: starEach [b] X.env := by rfl)
    (hs2 : starEach [b] X.env = (false, eval b X.env) :: starEach [] X.env := by rfl) (hpl : (backTo pos (starEach [b] X.env)).any (·.1) = false := by rfl) : IE T X E (.Call (.Name "max" p) [a, b] [] pos) (mCB fMax (mCons ma (mCons mb mNil))) :=
  i_cb (c_max (T := T)) (call_max2 G.calm) hg hm (by decide +kernel) (ia_cons ha (ia_cons hb ia_nil hs2) hs) (by decide +kernel) (by decide +kernel) hs hpl
/-! ### keywords in the last places -/
theorem run_fnK {ks : List Str} {j : Nat} {pins : List (Addr × Obj)} {σ : L2.St} {H : Hp} {s : Shared} {Q : VK} {us ws : List Value} {vs zs : List V} {sp : Sp} (F : FnOk X.prog X.w X.K X.mg X.base (L2.CX X.prog X.w) k f fd ps sp) (hr : Room k X.A)
    (hb : KBn X.K fd ps j ks (fun us ws => us ++ ws) (fun vs zs => vs ++ zs)) (tk : Takes X E) (I : Inv X pins σ H s) (r : Vals vs us) (rz : Vals zs ws) (l1 : vs.length = j) (l2 : zs.length = ks.length)
    (h : sp (vs ++ zs) H Q (fun c d H' => E c d σ H')) : wpAny (model X.prog X.w) X.A (call (.ref f) us (ks.zip ws)) (EP X pins σ Q) X.xe s := by
  refine wpAny_call (codeAny_mono (F.run X.A X.stack s H ⟨us, ks.zip ws⟩ (us ++ ws) (vs ++ zs) Q _ hr I.env0 (hb.to s us ws I.kIn (r.length.symm.trans l1) (rz.length.symm.trans l2)) (hb.rel r rz) h) fun r s' hq => ?_)
  cases r with
  | error e => exact passAt tk σ pins H s e s' I hq
  | ok fl =>
    cases fl with
    | ret u => exact I.after hq
    | next => exact False.elim hq
    | brk => exact False.elim hq
    | cont => exact False.elim hq
def mCallK (g : Fn) (n j : Nat) (mr mk : MA) : ME := fun ρ h => (mr ρ h).bind fun xs h1 => (mk ρ h1).bind fun ys h2 => if xs.length = n ∧ ys.length = j then g (xs ++ ys) h2 else .bad
theorem i_callK {ks : List Str} {kws : List Keyword} {j : Nat} (Fk : Kn T X.prog X.w X.K X.mg X.base k f fd ps g) (hk : k ≤ n) (G : Gd T X E n) (hm : X.mg x = some (.ref f)) (hb : KBn X.K fd ps j ks (fun us ws => us ++ ws) (fun vs zs => vs ++ zs))
    (ha : IA T X E (e :: es) mr) (hkw : IK T X E kws mk) (hall : (backToKw pos (keywordEach kws X.env)).all (·.1.isSome) = true := by rfl) (hks : (backToKw pos (keywordEach kws X.env)).filterMap (·.1) = ks := by rfl) (hg : Gl X x := by rfl)
    (hdb : (x == ("__debug__" : Str)) = false := by decide +kernel) (he : starEach (e :: es) X.env = (false, eval e X.env) :: starEach es X.env := by rfl)
    (hpl : ((backTo pos (starEach (e :: es) X.env)).any (·.1) || (backToKw pos (keywordEach kws X.env)).any (·.1.isNone)) = false := by rfl) :
    IE T X E (.Call (.Name x p) (e :: es) kws pos) (mCallK g j ks.length mr mk) := by
  refine ⟨fun pins s σ H Q I ⟨w, ρ, h, st, en, q⟩ => ?_⟩
  refine wpAny_Call_Name_kw (ld_glob I hg hm ?_ hdb)
  refine PySem.W.callWith_KW (h₀ := X.base) I.ok.mod.kin Fk.kp hall (thn (ha.run pos pins s σ H (fun vs H' => ∃ w1 h1 xs, StR T w1 h1 H' ∧ EnvR T w1 ρ σ ∧ VRs T w1 xs vs ∧ Post T (VR T) w1 Q (fun c d H' => E c d σ H') ((mk ρ h1).bind fun ys h2 => if xs.length = j ∧ ys.length = ks.length then g (xs ++ ys) h2 else .bad)) I
    ⟨w, ρ, h, st, en, Post.bind q fun xs h1 w1 H1 vs le s1 r1 p1 => ⟨w1, h1, xs, s1, en.mono le, r1, p1⟩⟩) fun us s1 ⟨vs, H1, I1, r, w1, h1, xs, q1, q0, q2, q3⟩ => ?_) hpl he
  refine thn (hkw.run pos pins s1 σ H1 (fun zs H' => ∃ w1 h1 ys xs, StR T w1 h1 H' ∧ VRs T w1 xs vs ∧ VRs T w1 ys zs ∧ xs.length = j ∧ ys.length = ks.length ∧ Post T (VR T) w1 Q (fun c d H' => E c d σ H') (g (xs ++ ys) h1)) I1
    ⟨w1, ρ, h1, q1, q0, Post.bind q3 fun ys h2 w2 H2 zs le2 s2 r2 p2 => by
      split at p2
      · rename_i hc
        exact ⟨w2, h2, ys, xs, s2, VRs.mono le2 q2, r2, hc.1, hc.2, p2⟩
      · exact p2.elim⟩) fun ws s2 ⟨zs, H2, I2, rz, w2, h2, ys, xs, g1, g2, g3, l1, l2, g4⟩ => ⟨I2.kIn, ?_⟩
  rw [hks]
  exact run_fnK Fk.ok (G.room.mono hk) hb G.tk I2 r rz (g2.length.symm.trans l1) (g3.length.symm.trans l2) (sp_of' Fk.ar g1 (g2.append g3) g4)
def mMethK (c : Nat) (g : Fn) (n j : Nat) (mo : ME) (mr mk : MA) : ME := fun ρ h => (mo ρ h).bind fun x h1 => match insW h1 x with
  | some (c', _) => if c' = c then (mr ρ h1).bind fun xs h2 => (mk ρ h2).bind fun ys h3 => if xs.length = n ∧ ys.length = j then g (x :: (xs ++ ys)) h3 else .bad else .bad
  | none => .bad
theorem i_methK (c : Nat) {ks : List Str} {kws : List Keyword} {j : Nat} {pl : Sem Bool} (Fk : Kn T X.prog X.w X.K X.mg X.base k f fd ps g) (hk : k ≤ n) (G : Gd T X E n) (CL : Cls X.K (T.ca c)) (hm : Meth X.K (T.ca c) m f) (hnm : m ∉ T.fl c)
    (hb : KBn X.K fd ps (j + 1) ks (fun us ws => us ++ ws) (fun vs zs => vs ++ zs)) (ho : IE T X E o mo) (ha : IA T X E (e :: es) mr) (hkw : IK T X E kws mk)
    (hall : (backToKw pos (keywordEach kws X.env)).all (·.1.isSome) = true := by rfl) (hks : (backToKw pos (keywordEach kws X.env)).filterMap (·.1) = ks := by rfl) (hst : starEach (e :: es) X.env = (false, eval e X.env) :: starEach es X.env := by rfl)
    (hpl : ((backTo pos (starEach (e :: es) X.env)).any (·.1) || (backToKw pos (keywordEach kws X.env)).any (·.1.isNone)) = false := by rfl)
    (ht : eval (.Call (.Attribute o m apos) (e :: es) kws pos) X.env = (do
      let ov ← eval o X.env
      standAt apos.atName
      let (f, first) ← holding [ov] (getMethod ov m pl)
      callWith pos f first (backTo pos (starEach (e :: es) X.env)) (backToKw pos (keywordEach kws X.env))) := by rfl) :
    IE T X E (.Call (.Attribute o m apos) (e :: es) kws pos) (mMethK c g j ks.length mo mr mk) := by
  refine ⟨fun pins s σ H Q I ⟨w, ρ, h, st, en, q⟩ => ?_⟩
  refine PySem.W.methodCall_KW (pl := pl) (thn (ho.run pins s σ H (fun v H1 => ∃ a dx fs w1 h1 z, v = .ref a ∧ H1 a = some (.ins (T.ca c) dx fs) ∧ fs.lookup m = none ∧ StR T w1 h1 H1 ∧ EnvR T w1 ρ σ ∧ VR T w1 z v ∧ Post T (VR T) w1 Q (fun c d H' => E c d σ H') ((mr ρ h1).bind fun xs h2 => (mk ρ h2).bind fun ys h3 => if xs.length = j ∧ ys.length = ks.length then g (z :: (xs ++ ys)) h3 else .bad)) I
    ⟨w, ρ, h, st, en, Post.bind q fun z h1 w1 H1 v le s1 r1 p1 => by
      cases qi : insW h1 z with
      | none => rw [qi] at p1; exact p1.elim
      | some t =>
        obtain ⟨c', vs⟩ := t
        rw [qi] at p1
        dsimp only at p1
        split at p1
        · rename_i hc
          subst hc
          obtain ⟨a, dx, us, rfl, g1, g2, g3⟩ := insW_at s1 r1 qi
          exact ⟨a, dx, _, w1, h1, z, rfl, g1, zip_lookup_none hnm, s1, en.mono le, r1, p1⟩
        · exact p1.elim⟩) fun u s1 ⟨v, H1, I1, rx, a, dx, fs, w1, h1, z, ev, ea, l, st1, en1, rz, q1⟩ => ?_) ht
  subst ev
  obtain rfl : u = Value.ref a := rx
  refine getmeth_ok I1 ea CL hm l ?_
  refine PySem.W.callWith_KW (first := [.ref a]) (h₀ := X.base) I.ok.mod.kin hm.kp hall (thn (ha.run pos pins s1 σ H1 (fun vs H' => ∃ w1 h1 xs, StR T w1 h1 H' ∧ EnvR T w1 ρ σ ∧ VR T w1 z (.ref a) ∧ VRs T w1 xs vs ∧ Post T (VR T) w1 Q (fun c d H' => E c d σ H') ((mk ρ h1).bind fun ys h3 => if xs.length = j ∧ ys.length = ks.length then g (z :: (xs ++ ys)) h3 else .bad)) I1
    ⟨w1, ρ, h1, st1, en1, Post.bind q1 fun xs h2 w2 H2 vs le2 s2 r2 p2 => ⟨w2, h2, xs, s2, en1.mono le2, rz.mono le2, r2, p2⟩⟩) fun us s2 ⟨vs, H2, I2, r, w2, h2, xs, st2, en2, rz2, rx2, q2⟩ => ?_) hpl hst
  refine thn (hkw.run pos pins s2 σ H2 (fun zs H' => ∃ w1 h1 ys xs, StR T w1 h1 H' ∧ VR T w1 z (.ref a) ∧ VRs T w1 xs vs ∧ VRs T w1 ys zs ∧ xs.length = j ∧ ys.length = ks.length ∧ Post T (VR T) w1 Q (fun c d H' => E c d σ H') (g (z :: (xs ++ ys)) h1)) I2
    ⟨w2, ρ, h2, st2, en2, Post.bind q2 fun ys h3 w3 H3 zs le3 s3 r3 p3 => by
      split at p3
      · rename_i hc
        exact ⟨w3, h3, ys, xs, s3, rz2.mono le3, VRs.mono le3 rx2, r3, hc.1, hc.2, p3⟩
      · exact p3.elim⟩) fun ws s3 ⟨zs, H3, I3, rw3, w3, h3, ys, xs, g1, g0, g2, g3, l1, l2, g4⟩ => ⟨I3.kIn, ?_⟩
  rw [hks]
  exact run_fnK (us := .ref a :: us) (vs := .ref a :: vs) Fk.ok (G.room.mono hk) hb G.tk I3 (.cons rfl r) rw3 (by rw [List.length_cons, ← g2.length, l1]) (g3.length.symm.trans l2) (sp_of' (xs := z :: (xs ++ ys)) Fk.ar g1 (.cons g0 (g2.append g3)) g4)
end
end Fz

namespace Fz
open PySem PySem.Spec PyProof.Rows L2
/-! ### meanings at a place, for simp -/
section
variable {ρ ρ' : EnvW} {h h' : List Cell} {a b : MS} {m ma mb mc mo : ME} {c ta tb : MT} {mr mk : MA} {i j k : Nat} {x y : W} {f : F2} {g : Fn} {dws l : List W} {α β : Type}
@[simp] theorem bind_ok {x : α} {f : α → List Cell → R β} : (R.ok x h).bind f = f x h := rfl
@[simp] theorem bind_exc {c : Nat} {vs : List W} {f : α → List Cell → R β} : (R.exc c vs h : R α).bind f = .exc c vs h := rfl
@[simp] theorem bind_bad {f : α → List Cell → R β} : (R.bad : R α).bind f = .bad := rfl
@[simp] theorem toS_ok {x : α} {f : α → List Cell → RS} : (R.ok x h).toS ρ f = f x h := rfl
@[simp] theorem toS_exc {c : Nat} {vs : List W} {f : α → List Cell → RS} : (R.exc c vs h : R α).toS ρ f = .exc c vs ρ h := rfl
@[simp] theorem ofO_some {x : α} : R.ofO (some x) h = .ok x h := rfl
@[simp] theorem toR_rt : (RS.rt x h).toR = .ok x h := rfl
@[simp] theorem toR_nx : (RS.nx ρ h).toR = .ok .non h := rfl
@[simp] theorem toR_exc {c : Nat} {vs : List W} : (RS.exc c vs ρ h).toR = .exc c vs h := rfl
def thn (r : RS) (b : MS) : RS := match r with
  | .nx ρ h => b ρ h
  | r => r
@[simp] theorem ap_seq : mSeq a b ρ h = thn (a ρ h) b := rfl
@[simp] theorem thn_nx : thn (.nx ρ h) b = b ρ h := rfl
@[simp] theorem thn_rt : thn (.rt x h) b = .rt x h := rfl
@[simp] theorem thn_bk : thn (.bk ρ h) b = .bk ρ h := rfl
@[simp] theorem thn_ct : thn (.ct ρ h) b = .ct ρ h := rfl
@[simp] theorem thn_exc {c : Nat} {vs : List W} : thn (.exc c vs ρ h) b = .exc c vs ρ h := rfl
@[simp] theorem thn_bad : thn .bad b = .bad := rfl
@[simp] theorem thn_ite {p : Prop} [Decidable p] {r s : RS} : thn (if p then r else s) b = if p then thn r b else thn s b := by split <;> rfl
@[simp] theorem bind_ite {p : Prop} [Decidable p] {r s : R α} {f : α → List Cell → R β} : (if p then r else s).bind f = if p then r.bind f else s.bind f := by split <;> rfl
@[simp] theorem toS_ite {p : Prop} [Decidable p] {r s : R α} {f : α → List Cell → RS} : (if p then r else s).toS ρ f = if p then r.toS ρ f else s.toS ρ f := by split <;> rfl
@[simp] theorem ap_skip : mSkip ρ h = .nx ρ h := rfl
@[simp] theorem ap_set : mSet i m ρ h = (m ρ h).toS ρ fun x h1 => .nx (ρ.set i (some x)) h1 := rfl
@[simp] theorem ap_ifS : mIfS c a b ρ h = (c ρ h).toS ρ fun x h1 => if x = true then a ρ h1 else b ρ h1 := rfl
@[simp] theorem ap_ret : mRet m ρ h = (m ρ h).toS ρ fun x h1 => .rt x h1 := rfl
@[simp] theorem ap_exp : mExp m ρ h = (m ρ h).toS ρ fun _ h1 => .nx ρ h1 := rfl
@[simp] theorem ap_c : mC x ρ h = .ok x h := rfl
theorem ap_var : mVar i ρ h = (match ρ[i]? with | some (some x) => .ok x h | _ => .bad) := rfl
@[simp] theorem var_0 {o : EnvW} : mVar 0 (some x :: o) h = .ok x h := rfl
@[simp] theorem var_s {o : EnvW} {z : Option W} : mVar (i + 1) (z :: o) h = mVar i o h := rfl
@[simp] theorem ap_op : mOp f ma mb ρ h = (ma ρ h).bind fun x h1 => (mb ρ h1).bind fun y h2 => R.ofO (f x y h2) h2 := rfl
@[simp] theorem ap_tst : mTst m ρ h = (m ρ h).bind fun x h1 => match x with | .bl b => .ok b h1 | _ => .bad := rfl
@[simp] theorem ap_tru : mTru m ρ h = (m ρ h).bind fun x h1 => R.ofO (truW h1 x) h1 := rfl
@[simp] theorem ap_not : mNot ta ρ h = (ta ρ h).bind fun x h1 => .ok (!x) h1 := rfl
@[simp] theorem ap_and : mAnd ta tb ρ h = (ta ρ h).bind fun x h1 => if x = true then tb ρ h1 else .ok false h1 := rfl
@[simp] theorem ap_or : mOr ta tb ρ h = (ta ρ h).bind fun x h1 => if x = true then .ok true h1 else tb ρ h1 := rfl
@[simp] theorem ap_nil : mNil ρ h = .ok [] h := rfl
@[simp] theorem ap_cons : mCons m mr ρ h = (m ρ h).bind fun x h1 => (mr ρ h1).bind fun l h2 => .ok (x :: l) h2 := rfl
@[simp] theorem ap_call : mCall g dws mr ρ h = (mr ρ h).bind fun xs h1 => g (xs ++ dws) h1 := rfl
@[simp] theorem ap_cb {f : FA} : mCB f mr ρ h = (mr ρ h).bind fun l h1 => R.ofO (f l h1) h1 := rfl
@[simp] theorem ap_asgG {g : MG} : mAsgG m g ρ h = (m ρ h).toS ρ fun x h1 => gOnly (g x ρ h1) := rfl
@[simp] theorem gOnly_nx : gOnly (.nx ρ h) = .nx ρ h := rfl
@[simp] theorem ap_gname : mGName i x ρ h = .nx (ρ.set i (some x)) h := rfl
@[simp] theorem fI_int {g : Int → Int → Option W} {i j : Int} : fI g (.int i) (.int j) h = g i j := rfl
@[simp] theorem fAdd_int {i j : Int} : fAdd (.int i) (.int j) h = some (.int (i + j)) := rfl
@[simp] theorem fMul_int {i j : Int} : fMul (.int i) (.int j) h = if smallI i || smallI j then some (.int (i * j)) else none := rfl
@[simp] theorem truW_bl {b : Bool} : truW h (.bl b) = some b := rfl
@[simp] theorem fInt_int {i : Int} : fInt [.int i] h = some (.int i) := rfl
@[simp] theorem fLen_lst : fLen [.lst l] h = some (.int l.length) := rfl
@[simp] theorem fLen_tup : fLen [.tup l] h = some (.int l.length) := rfl
@[simp] theorem fEq_int {i j : Int} : fEq (.int i) (.int j) h = some (.bl (decide (i = j))) := rfl
@[simp] theorem fNe_int {i j : Int} : fNe (.int i) (.int j) h = some (.bl (!decide (i = j))) := rfl
@[simp] theorem fEq_str {i j : Str} : fEq (.str i) (.str j) h = some (.bl (decide (i = j))) := rfl
@[simp] theorem fEq_bl {i j : Bool} : fEq (.bl i) (.bl j) h = some (.bl (decide (i = j))) := rfl
@[simp] theorem fIx_lst {i : Int} : fIx (.lst l) (.int i) h = atI l i := rfl
@[simp] theorem fIx_tup {i : Int} : fIx (.tup l) (.int i) h = atI l i := rfl
theorem fIx_loc {i : Int} (e : h[k]? = some (.lst l)) : fIx (.loc k) (.int i) h = atI l i := by
  show (match rdL h (.loc k) with | some l => atI l i | none => none) = _
  unfold rdL
  dsimp only
  rw [e]
theorem atI_natC {α : Type} {l : List α} {j : Nat} {x : α} (e : l[j]? = some x) : atI l (j : Int) = some x := by
  have hj := (List.getElem?_eq_some_iff.mp e).1
  unfold atI ixN
  rw [if_pos (by omega), if_pos (by omega)]
  simpa using e
theorem mGSub_loc {mo mi : ME} {k : Int} {t : Nat} (ho : mo ρ h = .ok (.loc j) h) (hi : mi ρ h = .ok (.int k) h) (e : h[j]? = some (.lst l)) (hx : ixN l.length k = some t) : mGSub mo mi x ρ h = .nx ρ (h.set j (.lst (l.set t x))) := by
  unfold mGSub
  rw [ho]
  show R.toS (mi ρ h) ρ _ = _
  rw [hi]
  show (match h[j]? with | some (.lst l) => _ | _ => _) = _
  rw [e]
  show (match ixN l.length k with | some t => _ | none => _) = _
  rw [hx]
/-- a def whose body leaves the heap at its length -/
theorem fnM_same {fz : Bool} {nv k : Nat} {m : MS} {xs : List W} (hl : xs.length = k) (e : m (xs.map some ++ List.replicate (nv - k) none) h = .rt x h') (hh : h'.length = h.length) (hx : fz = true → frzW 8 x h' = some (x, h')) : fnM fz nv k m xs h = .ok x h' := by
  have e1 : fnB nv k m xs h = .ok x h' := by
    unfold fnB
    rw [if_pos hl, e]
    rfl
  unfold fnM
  cases fz with
  | false =>
    rw [if_neg (by simp), e1]
    show (if h'.length ≤ h.length then _ else _) = _
    rw [if_pos (Nat.le_of_eq hh)]
  | true =>
    rw [if_pos rfl, e1]
    unfold frzR
    rw [bind_ok, hx rfl]
    show (if h'.length ≤ h.length then _ else _) = _
    rw [if_pos (Nat.le_of_eq hh)]
theorem frz_int {i : Int} : frzW 8 (.int i) h = some (.int i, h) := rfl
theorem frz_bl {i : Bool} : frzW 8 (.bl i) h = some (.bl i, h) := rfl
theorem frz_non : frzW 8 .non h = some (.non, h) := rfl
theorem frz_lst (e : cloL 0 l = true) : frzW 8 (.lst l) h = some (.lst l, h) := by
  show (if cloW 0 (.lst l) then _ else _) = _
  exact if_pos e
/-! ### loops by invariants -/
variable {src : Src} {gg : MG} {body : MS}
/-- P before each turn; Q of what leaves the loop in its midst (a break is what follows it) -/
theorem for_gen {xs : List W} (P : Nat → EnvW → List Cell → Prop) (Q : RS → Prop) (hsrc : ∀ i ρ h, i ≤ xs.length → P i ρ h → src i h = some xs[i]?)
    (hstep : ∀ i x ρ h, xs[i]? = some x → P i ρ h → ∃ ρ1 h1, gOnly (gg x ρ h) = .nx ρ1 h1 ∧ ((∃ ρ2 h2, (body ρ1 h1 = .nx ρ2 h2 ∨ body ρ1 h1 = .ct ρ2 h2) ∧ P (i + 1) ρ2 h2) ∨
      (∃ x h2, body ρ1 h1 = .rt x h2 ∧ Q (.rt x h2)) ∨ (∃ ρ2 h2, body ρ1 h1 = .bk ρ2 h2 ∧ Q (.nx ρ2 h2)))) :
    ∀ (m i : Nat) (ρ : EnvW) (h : List Cell), i ≤ xs.length → xs.length < i + m → P i ρ h → (∃ ρ' h', forW src gg body m i ρ h = .nx ρ' h' ∧ P xs.length ρ' h') ∨ Q (forW src gg body m i ρ h)
  | 0, i, ρ, h, hi, hm, p => absurd hm (by omega)
  | m + 1, i, ρ, h, hi, hm, p => by
    have e := hsrc i ρ h hi p
    unfold forW
    rw [e]
    cases q : xs[i]? with
    | none =>
      have : i = xs.length := Nat.le_antisymm hi (List.getElem?_eq_none_iff.mp q)
      subst this
      exact .inl ⟨ρ, h, rfl, p⟩
    | some x =>
      have hlt := (List.getElem?_eq_some_iff.mp q).1
      obtain ⟨ρ1, h1, e1, r⟩ := hstep i x ρ h q p
      dsimp only
      rw [e1]
      dsimp only
      rcases r with ⟨ρ2, h2, e2 | e2, p2⟩ | ⟨z, h2, e2, q2⟩ | ⟨ρ2, h2, e2, q2⟩
      · rw [e2]
        exact for_gen P Q hsrc hstep m (i + 1) ρ2 h2 hlt (by omega) p2
      · rw [e2]
        exact for_gen P Q hsrc hstep m (i + 1) ρ2 h2 hlt (by omega) p2
      · rw [e2]
        exact .inr q2
      · rw [e2]
        exact .inr q2
/-- no way out in the midst -/
theorem for_inv {xs : List W} (P : Nat → EnvW → List Cell → Prop) (hsrc : ∀ i ρ h, i ≤ xs.length → P i ρ h → src i h = some xs[i]?)
    (hstep : ∀ i x ρ h, xs[i]? = some x → P i ρ h → ∃ ρ1 h1 ρ2 h2, gOnly (gg x ρ h) = .nx ρ1 h1 ∧ body ρ1 h1 = .nx ρ2 h2 ∧ P (i + 1) ρ2 h2) {m : Nat} (hm : xs.length < m) (p : P 0 ρ h) :
    ∃ ρ' h', forW src gg body m 0 ρ h = .nx ρ' h' ∧ P xs.length ρ' h' := by
  rcases for_gen (src := src) (gg := gg) (body := body) P (fun _ => False) hsrc (fun i x ρ h e p => by
    obtain ⟨ρ1, h1, ρ2, h2, e1, e2, p2⟩ := hstep i x ρ h e p
    exact ⟨ρ1, h1, e1, .inl ⟨ρ2, h2, .inl e2, p2⟩⟩) m 0 ρ h (Nat.zero_le _) (by omega) p with h | h
  · exact h
  · exact h.elim
/-- the items of a range -/
def rngW (lo c : Int) (k : Nat) : List W := (List.range k).map fun i => .int (lo + (i : Nat) * c)
theorem src_rng_at {lo c : Int} {k i : Nat} (hi : i ≤ k) : srcRng lo c k i h = some (rngW lo c k)[i]? := by
  unfold srcRng rngW
  rw [List.getElem?_map]
  by_cases q : i < k
  · rw [if_pos q, List.getElem?_range q]
    rfl
  · rw [if_neg q, List.getElem?_eq_none (by simp; omega)]
    rfl
@[simp] theorem rngW_len {lo c : Int} {k : Nat} : (rngW lo c k).length = k := by simp [rngW]
theorem rngW_at {lo c : Int} {k i : Nat} {x : W} (e : (rngW lo c k)[i]? = some x) : i < k ∧ x = .int (lo + (i : Nat) * c) := by
  have hi := (List.getElem?_eq_some_iff.mp e).1
  rw [rngW_len] at hi
  unfold rngW at e
  rw [List.getElem?_map, List.getElem?_range hi] at e
  exact ⟨hi, (Option.some.inj e).symm⟩
@[simp] theorem ap_for {mi : MI} : mFor mi gg body ρ h = (mi ρ h).toS ρ fun s h1 => forW s.1 gg body s.2 0 ρ h1 := rfl
@[simp] theorem ap_rng1 : mIRng1 mr ρ h = (mr ρ h).bind fun xs h1 => match xs with | [.int j] => if inR j then .ok (srcRng 0 1 j.toNat, j.toNat + 1) h1 else .bad | _ => .bad := rfl
@[simp] theorem ap_rng2 : mIRng2 mr ρ h = (mr ρ h).bind fun xs h1 => match xs with | [.int i, .int j] => if inR i && inR j then .ok (srcRng i 1 (j - i).toNat, (j - i).toNat + 1) h1 else .bad | _ => .bad := rfl
@[simp] theorem ap_iseq : mISeq m ρ h = (m ρ h).bind fun x h1 => match seqLen h1 x with | some k => .ok (srcSeq x, k + 1) h1 | none => .bad := rfl
@[simp] theorem seqLen_scr : seqLen h (.scr l) = some l.length := rfl
@[simp] theorem seqLen_lst : seqLen h (.lst l) = some l.length := rfl
@[simp] theorem seqLen_tup : seqLen h (.tup l) = some l.length := rfl
theorem src_scr_at : srcSeq (.scr l) i h = some l[i]? := rfl
theorem src_lst_at : srcSeq (.lst l) i h = some l[i]? := rfl
theorem src_tup_at : srcSeq (.tup l) i h = some l[i]? := rfl
@[simp] theorem ap_lstC : mLstC mr ρ h = (mr ρ h).bind fun l h1 => if l.length ≤ sizeLine then .ok (.loc h1.length) (h1 ++ [.lst l]) else .bad := rfl
@[simp] theorem ap_lst : mLst mr ρ h = (mr ρ h).bind fun l h1 => if l.length ≤ sizeLine then .ok (.lst l) h1 else .bad := rfl
@[simp] theorem ap_tup : mTup mr ρ h = (mr ρ h).bind fun l h1 => if l.length ≤ sizeLine then .ok (.tup l) h1 else .bad := rfl
theorem app_loc {x : W} (ho : mo ρ h = .ok (.loc j) h) (e : h[j]? = some (.lst l)) (hx : m ρ h = .ok x h) (hl : l.length < sizeLine) : mApp mo m ρ h = .nx ρ (h.set j (.lst (l ++ [x]))) := by
  unfold mApp
  rw [ho]
  show (match h[j]? with | some (.lst _) => _ | _ => _) = _
  rw [e]
  show (m ρ h).toS ρ _ = _
  rw [hx]
  show (match h[j]? with | some (.lst l) => _ | _ => _) = _
  rw [e]
  exact if_pos hl
theorem cloL_ints {k : Nat} : ∀ ns : List Int, cloL k (ns.map .int) = true
  | [] => rfl
  | i :: ns => by
    show (_ && cloL k (ns.map .int)) = true
    rw [cloL_ints ns]
    rfl
end
end Fz

/-! what all laws do first: the draws -/
namespace Fz
open PySem PySem.Spec PyProof.Rows L2
def takeM : MS :=
    (mSeq (mAsgG (mOp fAdd (mOp fIx (mVar 1) (mC (.int 0))) (mC (.int 1))) (mGSub (mVar 1) (mC (.int 0))))
    (mSeq (mIfS (mTst (mOp fGt (mOp fIx (mVar 1) (mC (.int 0))) (mCB fLen (mCons (mVar 0) mNil)))) (mRet (mC (.int 0))) mSkip)
    (mRet (mOp fModI (mCB fInt (mCons (mOp fIx (mVar 0) (mOp fSubI (mOp fIx (mVar 1) (mC (.int 0))) (mC (.int 1)))) mNil)) (mVar 2)))))
/-- the k-th draw below size -/
def drw (ds : List Int) (k : Nat) (size : Int) : Int := match ds[k]? with
  | some d => d % size
  | none => 0
theorem drw_nn {ds : List Int} {k : Nat} {size : Int} (hs : 0 < size) : 0 ≤ drw ds k size := by
  unfold drw
  split
  · exact Int.emod_nonneg _ (by omega)
  · exact Int.le_refl 0
theorem drw_lt {ds : List Int} {k : Nat} {size : Int} (hs : 0 < size) : drw ds k size < size := by
  unfold drw
  split
  · exact Int.emod_lt_of_pos _ hs
  · exact hs
theorem take_ok {fz : Bool} {ds : List Int} {k j : Nat} {size : Int} {h : List Cell} (hj : h[j]? = some (.lst [.int (k : Int)])) (hs : 0 < size) :
    fnM fz 3 3 takeM [.lst (ds.map .int), .loc j, .int size] h = .ok (.int (drw ds k size)) (h.set j (.lst [.int ((k : Int) + 1)])) := by
  have hjl : j < h.length := (List.getElem?_eq_some_iff.mp hj).1
  have h2 : (h.set j (.lst [.int ((k : Int) + 1)]))[j]? = some (.lst [.int ((k : Int) + 1)]) := List.getElem?_set_self hjl
  have e1 : fIx (.loc j) (.int 0) h = some (.int k) := fIx_loc hj
  have e2 : fIx (.loc j) (.int 0) (h.set j (.lst [.int ((k : Int) + 1)])) = some (.int ((k : Int) + 1)) := fIx_loc h2
  have e3 : ∀ ρ, mGSub (mVar 1) (mC (.int 0)) (.int ((k : Int) + 1)) (some (.lst (ds.map .int)) :: some (.loc j) :: ρ) h = .nx (some (.lst (ds.map .int)) :: some (.loc j) :: ρ) (h.set j (.lst [.int ((k : Int) + 1)])) := fun ρ => mGSub_loc (t := 0) rfl rfl hj rfl
  refine fnM_same rfl ?_ (by simp) (fun _ => frz_int)
  show takeM [some (.lst (ds.map .int)), some (.loc j), some (.int size)] h = _
  unfold takeM drw
  cases hd : ds[k]? with
  | some d =>
    have hk : k < ds.length := (List.getElem?_eq_some_iff.mp hd).1
    have e4 : atI (ds.map W.int) (k : Int) = some (.int d) := atI_natC (by rw [List.getElem?_map, hd]; rfl)
    have hk2 : ¬ ((ds.length : Int) < (k : Int) + 1) := by omega
    simp [e1, e2, e3, e4, hs, hk2]
  | none =>
    have hk : ds.length ≤ k := List.getElem?_eq_none_iff.mp hd
    have hk2 : ((ds.length : Int) < (k : Int) + 1) := by omega
    simp [e1, e2, e3, hk2]
def drawsIn : MS := (mIfS (mTst (mOp fGt (mVar 3) (mC (.int 0)))) (mSeq (mApp (mVar 1) (mOp fModI (mCB fInt (mCons (mVar 3) mNil)) (mC (.int 1000))))
    (mSet 3 (mOp fDivI (mVar 3) (mC (.int 1000))))) mSkip)
def drawsBody : MS := (mIfS (mTst (mOp fGe (mVar 2) (mOp fPowI (mC (.int 10)) (mC (.int 18))))) (mSeq (mSet 3 (mCB fInt (mCons (mVar 2) mNil)))
    (mFor (mIRng1 (mCons (mC (.int 60)) mNil)) (mGName 4) drawsIn)) (mSeq (mSet 5 (mOp fModI (mCB fInt (mCons (mOp fAdd (mOp fMul (mVar 2) (mC (.int 48271))) (mC (.int 12345))) mNil)) (mC (.int 9973))))
    (mSeq (mApp (mVar 1) (mVar 5))
    (mApp (mVar 1) (mOp fModI (mCB fInt (mCons (mOp fAdd (mOp fAdd (mOp fMul (mVar 5) (mVar 5)) (mOp fMul (mC (.int 31)) (mVar 5))) (mOp fMul (mC (.int 17)) (mCB fLen (mCons (mVar 1) mNil)))) mNil)) (mC (.int 9949)))))))
def drawsM : MS :=
    (mSeq (mSet 1 (mLstC mNil))
    (mSeq (mFor (mISeq (mVar 0)) (mGName 2) drawsBody)
    (mRet (mVar 1))))
theorem app0 {m : ME} {ρ : EnvW} {ds : List Int} {i : Int} {a b : Option W} (hx : m (a :: some (.loc 0) :: ρ) [.lst (ds.map .int)] = .ok (.int i) [.lst (ds.map .int)]) (hl : ds.length < 100000) :
    mApp (mVar 1) m (a :: some (.loc 0) :: ρ) [.lst (ds.map .int)] = .nx (a :: some (.loc 0) :: ρ) [.lst ((ds ++ [i]).map .int)] := by
  rw [app_loc (j := 0) (l := ds.map .int) (x := .int i) rfl rfl hx (by rw [List.length_map]; exact Nat.lt_of_lt_of_le hl (by decide))]
  rw [List.map_append]
  rfl
theorem drawsIn_ok {s c o4 o5 : Option W} {r : Int} {ds : List Int} (hl : ds.length < 100000) :
    ∃ (r' : Int) (ds' : List Int), drawsIn [s, some (.loc 0), c, some (.int r), o4, o5] [.lst (ds.map .int)] = .nx [s, some (.loc 0), c, some (.int r'), o4, o5] [.lst (ds'.map .int)] ∧ ds'.length ≤ ds.length + 1 := by
  unfold drawsIn
  by_cases h : 0 < r
  · refine ⟨r / 1000, ds ++ [r % 1000], ?_, by simp⟩
    have e := app0 (m := mOp fModI (mCB fInt (mCons (mVar 3) mNil)) (mC (.int 1000))) (a := s) (b := none) (ρ := [c, some (.int r), o4, o5]) (ds := ds) (i := r % 1000) (by simp) hl
    simp [h, e]
  · exact ⟨r, ds, by simp [h], by omega⟩
theorem p64 : (2 : Int) ^ 64 = 18446744073709551616 := by decide
theorem smallI_of {i : Int} (h1 : -18446744073709551616 < i) (h2 : i < 18446744073709551616) : smallI i = true := by
  unfold smallI
  rw [p64]
  exact decide_eq_true ⟨h1, h2⟩
theorem ten18 : mOp fPowI (mC (.int 10)) (mC (.int 18)) = mC (.int 1000000000000000000) := by
  funext ρ h
  have : fPowI (.int 10) (.int 18) h = some (.int 1000000000000000000) := by
    show (if (0 : Int) ≤ 18 ∧ (18 : Int) ≤ 1000000 ∧ (10 : Int).natAbs < 2 ^ 64 then some (W.int ((10 : Int) ^ (18 : Int).toNat)) else none) = _
    rw [if_pos (by decide)]
    have : (10 : Int) ^ (Int.toNat 18) = 1000000000000000000 := by decide
    rw [this]
  show R.ofO (fPowI (.int 10) (.int 18) h) h = _
  rw [this]
  rfl
theorem drawsBody_ok {s o2 o3 o4 o5 : Option W} {c : Int} {ds : List Int} (hl : ds.length ≤ 5000) :
    ∃ (o3' o4' o5' : Option W) (ds' : List Int), drawsBody [s, some (.loc 0), some (.int c), o3, o4, o5] [.lst (ds.map .int)] = .nx [s, some (.loc 0), some (.int c), o3', o4', o5'] [.lst (ds'.map .int)] ∧ ds'.length ≤ ds.length + 60 := by
  unfold drawsBody
  rw [ten18]
  by_cases h : (1000000000000000000 : Int) ≤ c
  · obtain ⟨ρ', h', e, r', ds', o4', o5', rfl, rfl, hd⟩ := for_inv (src := srcRng 0 1 60) (gg := mGName 4) (body := drawsIn) (xs := rngW 0 1 60) (ρ := [s, some (.loc 0), some (.int c), some (.int c), o4, o5]) (h := [.lst (ds.map .int)]) (m := 61)
      (fun i ρ h => ∃ (r : Int) (ds' : List Int) (o4 o5 : Option W), ρ = [s, some (.loc 0), some (.int c), some (.int r), o4, o5] ∧ h = [.lst (ds'.map W.int)] ∧ ds'.length ≤ ds.length + i)
      (fun i ρ h hi _ => src_rng_at (by simpa using hi))
      (fun i x ρ h e ⟨r, ds', o4, o5, e1, e2, e3⟩ => by
        subst e1 e2
        obtain ⟨hi, rfl⟩ := rngW_at e
        obtain ⟨r', ds'', e4, e5⟩ := drawsIn_ok (s := s) (c := some (.int c)) (o4 := some (.int (0 + (i : Nat) * 1))) (o5 := o5) (r := r) (ds := ds') (by omega)
        exact ⟨_, _, _, _, rfl, e4, r', ds'', _, _, rfl, rfl, by omega⟩)
      (by simp) ⟨c, ds, o4, o5, rfl, rfl, Nat.le_refl _⟩
    rw [rngW_len] at hd
    refine ⟨some (.int r'), o4', o5', ds', ?_, hd⟩
    have i60 : inR 60 = true := by decide
    simp [h, i60]
    exact e
  · have e1 := app0 (m := mVar 5) (a := s) (b := none) (ρ := [some (.int c), o3, o4, some (.int ((c * 48271 + 12345) % 9973))]) (ds := ds) (i := (c * 48271 + 12345) % 9973) rfl (by omega)
    have e2 : ∃ z : Int, mOp fModI (mCB fInt (mCons (mOp fAdd (mOp fAdd (mOp fMul (mVar 5) (mVar 5)) (mOp fMul (mC (.int 31)) (mVar 5))) (mOp fMul (mC (.int 17)) (mCB fLen (mCons (mVar 1) mNil)))) mNil)) (mC (.int 9949))
        (s :: some (.loc 0) :: [some (.int c), o3, o4, some (.int ((c * 48271 + 12345) % 9973))]) [.lst ((ds ++ [(c * 48271 + 12345) % 9973]).map .int)] = .ok (.int z) [.lst ((ds ++ [(c * 48271 + 12345) % 9973]).map .int)] := by
      have h1 := Int.emod_nonneg (c * 48271 + 12345) (show (9973 : Int) ≠ 0 by decide)
      have h2 := Int.emod_lt_of_pos (c * 48271 + 12345) (show (0 : Int) < 9973 by decide)
      generalize (c * 48271 + 12345) % 9973 = q at h1 h2
      have s1 : smallI q = true := smallI_of (by omega) (by omega)
      have s2 : smallI 31 = true := by decide
      have s3 : smallI 17 = true := by decide
      have fl : ∀ l : List W, fLen [.loc 0] [.lst l] = some (.int l.length) := fun l => rfl
      simp only [ap_op, ap_cb, ap_cons, ap_nil, var_s, var_0, ap_c, bind_ok, fMul_int, s1, s2, s3, Bool.true_or, if_true, ofO_some, fAdd_int, fl, fInt_int]
      exact ⟨_, rfl⟩
    obtain ⟨z, e2⟩ := e2
    have e3 := app0 (i := z) (b := none) e2 (by simp; try omega)
    refine ⟨o3, o4, some (.int ((c * 48271 + 12345) % 9973)), ds ++ [(c * 48271 + 12345) % 9973] ++ [z], ?_, by simp⟩
    have s1 : smallI 48271 = true := by decide
    have hd : (fGe (.int c) (.int 1000000000000000000) [.lst (ds.map .int)]) = some (.bl false) := by
      show some (W.bl (decide ((1000000000000000000 : Int) ≤ c))) = _
      rw [decide_eq_false h]
    simp only [ap_ifS, ap_tst, ap_op, var_s, var_0, ap_c, bind_ok, hd, ofO_some, toS_ok, if_false, Bool.false_eq_true, ap_seq, ap_set, ap_cb, ap_cons, ap_nil, fMul_int, s1, Bool.or_true, if_true, fAdd_int, fInt_int]
    have hm : fModI (.int (c * 48271 + 12345)) (.int 9973) [.lst (ds.map .int)] = some (.int ((c * 48271 + 12345) % 9973)) := rfl
    rw [hm, ofO_some, toS_ok, thn_nx, ap_seq]
    show thn (mApp (mVar 1) (mVar 5) [s, some (W.loc 0), some (W.int c), o3, o4, some (W.int ((c * 48271 + 12345) % 9973))] [Cell.lst (List.map W.int ds)]) _ = _
    rw [e1, thn_nx]
    exact e3
theorem draws_ok {ns : List Int} (hn : ns.length ≤ 63) : ∃ ds : List Int, fnM true 6 1 drawsM [.scr (ns.map .int)] [] = .ok (.lst (ds.map .int)) [] := by
  obtain ⟨ρ', h', e, o2, o3, o4, o5, ds, rfl, rfl, hd⟩ := for_inv (src := srcSeq (.scr (ns.map .int))) (gg := mGName 2) (body := drawsBody) (xs := ns.map W.int) (ρ := [some (.scr (ns.map .int)), some (.loc 0), none, none, none, none]) (h := [.lst []]) (m := ns.length + 1)
    (fun i ρ h => ∃ (o2 o3 o4 o5 : Option W) (ds : List Int), ρ = [some (.scr (ns.map .int)), some (.loc 0), o2, o3, o4, o5] ∧ h = [.lst (ds.map W.int)] ∧ ds.length ≤ 60 * i)
    (fun i ρ h _ _ => src_scr_at)
    (fun i x ρ h e ⟨o2, o3, o4, o5, ds, e1, e2, e3⟩ => by
      subst e1 e2
      have hi := (List.getElem?_eq_some_iff.mp e).1
      rw [List.length_map] at hi
      obtain ⟨c, rfl⟩ : ∃ c, x = W.int c := by
        rw [List.getElem?_map] at e
        cases q : ns[i]? with
        | none => rw [q] at e; cases e
        | some c => rw [q] at e; exact ⟨c, (Option.some.inj e).symm⟩
      obtain ⟨o3', o4', o5', ds', e4, e5⟩ := drawsBody_ok (s := some (.scr (ns.map .int))) (o2 := none) (o3 := o3) (o4 := o4) (o5 := o5) (c := c) (ds := ds) (by omega)
      exact ⟨_, _, _, _, rfl, e4, _, _, _, _, ds', rfl, rfl, by omega⟩)
    (by simp) ⟨none, none, none, none, [], rfl, rfl, Nat.le_refl _⟩
  refine ⟨ds, ?_⟩
  have eb : fnB 6 1 drawsM [.scr (ns.map .int)] [] = .ok (.loc 0) [.lst (ds.map .int)] := by
    show (drawsM [some (.scr (ns.map .int)), none, none, none, none, none] []).toR = _
    unfold drawsM
    simp
    rw [e]
    simp
  have ef : frzW 8 (.loc 0) [.lst (ds.map .int)] = some (.lst (ds.map .int), [.dead]) := by
    show (match frzL (frzW 7) (ds.map .int) [.dead] with | some (l', h') => some (W.lst l', h') | none => none) = _
    have : ∀ l : List Int, frzL (frzW 7) (l.map .int) [.dead] = some (l.map .int, [.dead]) := fun l => by
      induction l with
      | nil => rfl
      | cons i l ih =>
        show (match frzW 7 (.int i) [.dead] with | some (y, h1) => (match frzL (frzW 7) (l.map .int) h1 with | some (l, h2) => some (y :: l, h2) | none => none) | none => none) = _
        show (match frzL (frzW 7) (l.map .int) [.dead] with | some (l, h2) => some (W.int i :: l, h2) | none => none) = _
        rw [ih]
        rfl
    rw [this]
  unfold fnM
  rw [if_pos rfl, eb]
  unfold frzR
  rw [bind_ok, ef]
  show (if (cloW 0 (W.lst (ds.map .int)) && true) = true then R.ok (W.lst (ds.map .int)) ([] : List Cell) else .bad) = _
  have : cloW 0 (W.lst (ds.map .int)) = true := cloL_ints ds
  rw [this]
  rfl
/-- a loop that looks for the first item that t finds, and returns r there -/
theorem for_test {σ : Type} {src : Src} {gg : MG} {body : MS} {h : List Cell} {xs : List W} {r : W} (t : W → Bool) (P : σ → EnvW) (hs : ∀ i, i ≤ xs.length → src i h = some xs[i]?)
    (hb : ∀ x o, x ∈ xs → ∃ ρ1, gOnly (gg x (P o) h) = .nx ρ1 h ∧ ((t x = false ∧ ∃ o', body ρ1 h = .nx (P o') h) ∨ (t x = true ∧ body ρ1 h = .rt r h))) {m : Nat} (hm : xs.length < m) (o : σ) :
    (∃ o', forW src gg body m 0 (P o) h = .nx (P o') h ∧ xs.all (fun x => !t x) = true) ∨ (forW src gg body m 0 (P o) h = .rt r h ∧ xs.all (fun x => !t x) = false) := by
  rcases for_gen (src := src) (gg := gg) (body := body) (xs := xs) (fun i ρ h' => h' = h ∧ (∃ o, ρ = P o) ∧ ∀ j, j < i → ∀ x, xs[j]? = some x → t x = false)
    (fun q => q = .rt r h ∧ ∃ x, x ∈ xs ∧ t x = true) (fun i ρ h' hi p => by rw [p.1]; exact hs i hi)
    (fun i x ρ h' e p => by
      obtain ⟨rfl, ⟨o, rfl⟩, p3⟩ := p
      have hx : x ∈ xs := List.mem_of_getElem? e
      obtain ⟨ρ1, e1, ⟨e2, o', e3⟩ | ⟨e2, e3⟩⟩ := hb x o hx
      · refine ⟨ρ1, h', e1, .inl ⟨_, _, .inl e3, rfl, ⟨o', rfl⟩, fun j hj y ey => ?_⟩⟩
        by_cases q : j = i
        · subst q
          rw [e] at ey
          cases ey
          exact e2
        · exact p3 j (by omega) y ey
      · exact ⟨ρ1, h', e1, .inr (.inl ⟨_, _, e3, rfl, x, hx, e2⟩)⟩)
    m 0 (P o) h (Nat.zero_le _) (by omega) ⟨rfl, ⟨o, rfl⟩, fun j hj => absurd hj (Nat.not_lt_zero j)⟩ with ⟨ρ', h', e, rfl, ⟨o', rfl⟩, p⟩ | ⟨e, x, hx, q⟩
  · refine .inl ⟨o', e, List.all_eq_true.mpr fun x hx => ?_⟩
    obtain ⟨j, hj, rfl⟩ := List.getElem_of_mem hx
    rw [p j hj _ (List.getElem?_eq_getElem hj)]
    rfl
  · refine .inr ⟨e, ?_⟩
    cases z : xs.all (fun x => !t x) with
    | false => rfl
    | true =>
      have := List.all_eq_true.mp z x hx
      rw [q] at this
      cases this
end Fz

namespace K05
open PySem PySem.Spec PyProof.Rows L2 Fz
def top (i : Nat) : Stmt := PySem.Challenge.pw_finerlocks_k05_whole_way_meet.main.body.getD i (.Pass ⟨0, 0, 0, 0⟩)
abbrev S0 : Stmt := (top 7)
abbrev S1 : Stmt := (top 8)
abbrev S2 : Stmt := (top 10)
abbrev S3 : Stmt := (inClass (top 12) 1)
abbrev S4 : Stmt := (inClass (top 12) 2)
abbrev S5 : Stmt := (inClass (top 12) 3)
abbrev S6 : Stmt := (inClass (top 12) 5)
abbrev S7 : Stmt := (inClass (top 12) 6)
abbrev S8 : Stmt := (inClass (top 12) 7)
abbrev S9 : Stmt := (inClass (top 12) 8)
abbrev S10 : Stmt := (top 15)
abbrev S11 : Stmt := (top 16)
abbrev S12 : Stmt := (top 17)
abbrev S13 : Stmt := (top 18)
abbrev S14 : Stmt := (top 19)
abbrev S15 : Stmt := (top 20)
abbrev S16 : Stmt := (top 21)
abbrev S17 : Stmt := (top 22)
abbrev S18 : Stmt := (top 23)
abbrev S19 : Stmt := (top 24)
abbrev S20 : Stmt := (top 25)
abbrev S21 : Stmt := (top 26)
abbrev S22 : Stmt := (top 27)
abbrev S23 : Stmt := (top 28)
abbrev S24 : Stmt := (top 29)
abbrev S25 : Stmt := (top 30)
abbrev N0 : List Str := ["level", "place", "word"]
abbrev N1 : List Str := ["level", "parents", "place"]
abbrev N2 : List Str := ["level", "other"]
abbrev N3 : List Str := ["self", "held", "owned", "seen", "early", "by_held", "by_owned", "by_seen"]
abbrev N4 : List Str := ["self", "parents"]
abbrev N5 : List Str := ["self", "held", "owned", "seen", "parents", "loose", "by_held", "by_owned", "by_seen"]
abbrev N6 : List Str := ["self", "other"]
abbrev N7 : List Str := ["self", "other"]
abbrev N8 : List Str := ["self", "other"]
abbrev N9 : List Str := ["self", "other", "early"]
abbrev N10 : List Str := ["script", "draws", "cell", "rest", "k", "mixed"]
abbrev N11 : List Str := ["draws", "at", "size"]
abbrev N12 : List Str := ["actual", "expected", "k"]
abbrev N13 : List Str := ["draws", "at", "menu", "choice", "owned", "held", "seen"]
abbrev N14 : List Str := ["way", "words"]
abbrev N15 : List Str := ["rank_v", "parents"]
abbrev N16 : List Str := ["way", "counts", "parents", "loose", "k"]
abbrev N17 : List Str := ["ranks", "held", "seen"]
abbrev N18 : List Str := ["draws", "at", "first", "change", "ranks"]
abbrev N19 : List Str := ["one", "two", "ranks", "k"]
abbrev N20 : List Str := ["draws", "at", "both", "ranks", "k"]
abbrev N21 : List Str := ["one", "two"]
abbrev N22 : List Str := ["way"]
abbrev N23 : List Str := ["ranks", "words"]
abbrev N24 : List Str := ["meet", "one", "two", "parents", "seen", "held", "owned", "loose", "counts", "due"]
abbrev N25 : List Str := ["script", "draws", "at", "one", "two", "both", "three", "way", "other", "third", "meet", "parents"]
abbrev P0 : List Str := ["level"]
abbrev P1 : List Str := ["level", "parents"]
abbrev P2 : List Str := ["level", "other"]
abbrev P3 : List Str := ["self", "held", "owned", "seen", "early"]
abbrev P4 : List Str := ["self", "parents"]
abbrev P5 : List Str := ["self", "held", "owned", "seen", "parents", "loose"]
abbrev P6 : List Str := ["self", "other"]
abbrev P7 : List Str := ["self", "other"]
abbrev P8 : List Str := ["self", "other"]
abbrev P9 : List Str := ["self", "other"]
abbrev P10 : List Str := ["script"]
abbrev P11 : List Str := ["draws", "at", "size"]
abbrev P12 : List Str := ["actual", "expected"]
abbrev P13 : List Str := ["draws", "at"]
abbrev P14 : List Str := ["way"]
abbrev P15 : List Str := ["rank_v", "parents"]
abbrev P16 : List Str := ["way", "counts", "parents", "loose"]
abbrev P17 : List Str := ["ranks"]
abbrev P18 : List Str := ["draws", "at", "first"]
abbrev P19 : List Str := ["one", "two"]
abbrev P20 : List Str := ["draws", "at", "both"]
abbrev P21 : List Str := ["one", "two"]
abbrev P22 : List Str := ["way"]
abbrev P23 : List Str := ["ranks"]
abbrev P24 : List Str := ["meet", "one", "two", "parents"]
abbrev P25 : List Str := ["script"]
def D0 : He.DefD := ⟨("rank", none), "rank", "rank", defArgs S0, defBody S0, defScope S0, [], []⟩
def D1 : He.DefD := ⟨("needed", none), "needed", "needed", defArgs S1, defBody S1, defScope S1, [], []⟩
def D2 : He.DefD := ⟨("higher", none), "higher", "higher", defArgs S2, defBody S2, defScope S2, [], []⟩
def D3 : He.DefD := ⟨("Way", some "__init__"), "__init__", "Way.__init__", defArgs S3, defBody S3, defScope S3, [.str "none", .str "none", .str "none"], [("early", .bl false)]⟩
def D4 : He.DefD := ⟨("Way", some "needs"), "needs", "Way.needs", defArgs S4, defBody S4, defScope S4, [], []⟩
def D5 : He.DefD := ⟨("Way", some "permits"), "permits", "Way.permits", defArgs S5, defBody S5, defScope S5, [], [("loose", .bl false)]⟩
def D6 : He.DefD := ⟨("Way", some "__eq__"), "__eq__", "Way.__eq__", defArgs S6, defBody S6, defScope S6, [], []⟩
def D7 : He.DefD := ⟨("Way", some "__le__"), "__le__", "Way.__le__", defArgs S7, defBody S7, defScope S7, [], []⟩
def D8 : He.DefD := ⟨("Way", some "__lt__"), "__lt__", "Way.__lt__", defArgs S8, defBody S8, defScope S8, [], []⟩
def D9 : He.DefD := ⟨("Way", some "__and__"), "__and__", "Way.__and__", defArgs S9, defBody S9, defScope S9, [], []⟩
def D10 : He.DefD := ⟨("_law_draws", none), "_law_draws", "_law_draws", defArgs S10, defBody S10, defScope S10, [], []⟩
def D11 : He.DefD := ⟨("_law_take", none), "_law_take", "_law_take", defArgs S11, defBody S11, defScope S11, [], []⟩
def D12 : He.DefD := ⟨("_law_same", none), "_law_same", "_law_same", defArgs S12, defBody S12, defScope S12, [], []⟩
def D13 : He.DefD := ⟨("_law_way", none), "_law_way", "_law_way", defArgs S13, defBody S13, defScope S13, [], []⟩
def D14 : He.DefD := ⟨("_law_way_made", none), "_law_way_made", "_law_way_made", defArgs S14, defBody S14, defScope S14, [], []⟩
def D15 : He.DefD := ⟨("_law_number", none), "_law_number", "_law_number", defArgs S15, defBody S15, defScope S15, [], []⟩
def D16 : He.DefD := ⟨("_law_meets", none), "_law_meets", "_law_meets", defArgs S16, defBody S16, defScope S16, [], []⟩
def D17 : He.DefD := ⟨("_law_adjusted", none), "_law_adjusted", "_law_adjusted", defArgs S17, defBody S17, defScope S17, [], []⟩
def D18 : He.DefD := ⟨("_law_second", none), "_law_second", "_law_second", defArgs S18, defBody S18, defScope S18, [], []⟩
def D19 : He.DefD := ⟨("_law_higher", none), "_law_higher", "_law_higher", defArgs S19, defBody S19, defScope S19, [], []⟩
def D20 : He.DefD := ⟨("_law_third", none), "_law_third", "_law_third", defArgs S20, defBody S20, defScope S20, [], []⟩
def D21 : He.DefD := ⟨("_law_below", none), "_law_below", "_law_below", defArgs S21, defBody S21, defScope S21, [], []⟩
def D22 : He.DefD := ⟨("_law_fields", none), "_law_fields", "_law_fields", defArgs S22, defBody S22, defScope S22, [], []⟩
def D23 : He.DefD := ⟨("_law_words", none), "_law_words", "_law_words", defArgs S23, defBody S23, defScope S23, [], []⟩
def D24 : He.DefD := ⟨("_law_permits_both", none), "_law_permits_both", "_law_permits_both", defArgs S24, defBody S24, defScope S24, [], []⟩
def D25 : He.DefD := ⟨("law", none), "law", "law", defArgs S25, defBody S25, defScope S25, [], []⟩
def kitL : List (Tg × Tg × Bool) := [(.bt .int, .own 0, false), (.bt .str, .own 0, false), (.bt .bool, .own 0, false), (.bt .list, .own 0, false), (.bt .tuple, .own 0, false), (.bt .dict, .own 0, false), (.bt .none, .own 0, false), (.own 0, .bt .int, false), (.own 0, .bt .str, false), (.own 0, .bt .bool, false), (.own 0, .bt .list, false), (.own 0, .bt .tuple, false), (.own 0, .bt .dict, false), (.own 0, .own 0, true)]
abbrev isi : Tg → Tg → Option Bool := isiT kitL
/-! ### meanings -/
/-- rank -/
def M0 (C : Nat → Fn) : MS :=
    (mSeq (mFor (mIEnum (mCons (mC (.tup [(.str "none"), (.str "one"), (.str "most"), (.str "all")])) mNil)) (mGTup 2 (mGCons (mGName 1) (mGCons (mGName 2) mGNil))) (mIfS (mTst (mOp fEq (mVar 2) (mVar 0))) (mRet (mVar 1)) mSkip))
    mNever)
/-- needed -/
def M1 (C : Nat → Fn) : MS :=
    (mSeq (mSet 2 (mCall (C 0) [] (mCons (mVar 0) mNil)))
    (mSeq (mIfS (mTst (mOp fEq (mVar 2) (mC (.int 0)))) (mRet (mC (.int 0))) mSkip)
    (mSeq (mIfS (mTst (mOp fEq (mVar 2) (mC (.int 1)))) (mRet (mC (.int 1))) mSkip)
    (mSeq (mIfS (mTst (mOp fEq (mVar 2) (mC (.int 2)))) (mRet (mOp fAdd (mOp fDivI (mVar 1) (mC (.int 2))) (mC (.int 1)))) mSkip)
    (mRet (mCB fMax (mCons (mC (.int 1)) (mCons (mVar 1) mNil))))))))
/-- higher -/
def M2 (C : Nat → Fn) : MS :=
    (mSeq (mIfS (mTst (mOp fLt (mCall (C 0) [] (mCons (mVar 0) mNil)) (mCall (C 0) [] (mCons (mVar 1) mNil)))) (mRet (mVar 1)) mSkip)
    (mRet (mVar 0)))
/-- Way.__init__ -/
def M3 (C : Nat → Fn) : MS :=
    (mSeq (mSet 5 (mCall (C 0) [] (mCons (mVar 1) mNil)))
    (mSeq (mSet 6 (mCall (C 0) [] (mCons (mVar 2) mNil)))
    (mSeq (mSet 7 (mCall (C 0) [] (mCons (mVar 3) mNil)))
    (mSeq (mIfS (mTst (mOp fLt (mVar 5) (mVar 6))) (mSet 5 (mVar 6)) mSkip)
    (mSeq (mIfS (mTst (mOp fLt (mVar 7) (mVar 5))) (mSet 7 (mVar 5)) mSkip)
    (mSeq (mSFld 0 0 (mVar 0) (mOp fIx (mC (.tup [(.str "none"), (.str "one"), (.str "most"), (.str "all")])) (mVar 5)))
    (mSeq (mSFld 0 1 (mVar 0) (mOp fIx (mC (.tup [(.str "none"), (.str "one"), (.str "most"), (.str "all")])) (mVar 6)))
    (mSeq (mSFld 0 2 (mVar 0) (mOp fIx (mC (.tup [(.str "none"), (.str "one"), (.str "most"), (.str "all")])) (mVar 7)))
    (mSFld 0 3 (mVar 0) (mVar 4))))))))))
/-- Way.needs -/
def M4 (C : Nat → Fn) : MS :=
    (mRet (mTup (mCons (mCall (C 1) [] (mCons (mFld 0 0 (mVar 0)) (mCons (mVar 1) mNil))) (mCons (mCall (C 1) [] (mCons (mFld 0 1 (mVar 0)) (mCons (mVar 1) mNil))) (mCons (mCall (C 1) [] (mCons (mFld 0 2 (mVar 0)) (mCons (mVar 1) mNil))) mNil)))))
/-- Way.permits -/
def M5 (C : Nat → Fn) : MS :=
    (mSeq (mIfS (mAnd (mTru (mFld 0 3 (mVar 0))) (mTru (mVar 5))) (mRet (mC (.bl false))) mSkip)
    (mSeq (mAsgG (mMeth 0 (C 4) [] (mVar 0) (mCons (mVar 4) mNil)) (mGTup 3 (mGCons (mGName 6) (mGCons (mGName 7) (mGCons (mGName 8) mGNil)))))
    (mRet (mAndV (mOp fGe (mVar 1) (mVar 6)) (mAndV (mOp fGe (mVar 2) (mVar 7)) (mOp fGe (mVar 3) (mVar 8)))))))
/-- Way.__eq__ -/
def M6 (C : Nat → Fn) : MS :=
    (mRet (mAndV (mCB (fIsi isi) (mCons (mVar 1) (mCons (mC (.cls 0)) mNil))) (mAndV (mOp fEq (mFld 0 0 (mVar 0)) (mFld 0 0 (mVar 1))) (mAndV (mOp fEq (mFld 0 1 (mVar 0)) (mFld 0 1 (mVar 1))) (mAndV (mOp fEq (mFld 0 2 (mVar 0)) (mFld 0 2 (mVar 1))) (mOp fEq (mFld 0 3 (mVar 0)) (mFld 0 3 (mVar 1))))))))
/-- Way.__le__ -/
def M7 (C : Nat → Fn) : MS :=
    (mSeq (mIfS (mNot (mTru (mCB (fIsi isi) (mCons (mVar 1) (mCons (mC (.cls 0)) mNil))))) mNever mSkip)
    (mSeq (mIfS (mAnd (mTru (mFld 0 3 (mVar 1))) (mNot (mTru (mFld 0 3 (mVar 0))))) (mRet (mC (.bl false))) mSkip)
    (mRet (mAndV (mOp fGe (mCall (C 0) [] (mCons (mFld 0 0 (mVar 0)) mNil)) (mCall (C 0) [] (mCons (mFld 0 0 (mVar 1)) mNil))) (mAndV (mOp fGe (mCall (C 0) [] (mCons (mFld 0 1 (mVar 0)) mNil)) (mCall (C 0) [] (mCons (mFld 0 1 (mVar 1)) mNil))) (mOp fGe (mCall (C 0) [] (mCons (mFld 0 2 (mVar 0)) mNil)) (mCall (C 0) [] (mCons (mFld 0 2 (mVar 1)) mNil))))))))
/-- Way.__lt__ -/
def M8 (C : Nat → Fn) : MS :=
    (mSeq (mIfS (mNot (mTru (mCB (fIsi isi) (mCons (mVar 1) (mCons (mC (.cls 0)) mNil))))) mNever mSkip)
    (mRet (mAndV (mOpH (fOwn 0 (C 7)) (mVar 0) (mVar 1)) (mNotV (mOpH (fOwn 0 (C 6)) (mVar 0) (mVar 1))))))
/-- Way.__and__ -/
def M9 (C : Nat → Fn) : MS :=
    (mSeq (mIfS (mNot (mTru (mCB (fIsi isi) (mCons (mVar 1) (mCons (mC (.cls 0)) mNil))))) mNever mSkip)
    (mSeq (mSet 2 (mOrV (mFld 0 3 (mVar 0)) (mFld 0 3 (mVar 1))))
    (mRet (mFrz (mMakeK 0 (C 3) (fun xs ys => xs ++ ys) 3 1 (mCons (mCall (C 2) [] (mCons (mFld 0 0 (mVar 0)) (mCons (mFld 0 0 (mVar 1)) mNil))) (mCons (mCall (C 2) [] (mCons (mFld 0 1 (mVar 0)) (mCons (mFld 0 1 (mVar 1)) mNil))) (mCons (mCall (C 2) [] (mCons (mFld 0 2 (mVar 0)) (mCons (mFld 0 2 (mVar 1)) mNil))) mNil))) (mCons (mVar 2) mNil))))))
/-- _law_draws -/
def M10 (C : Nat → Fn) : MS :=
    (mSeq (mSet 1 (mLstC mNil))
    (mSeq (mFor (mISeq (mVar 0)) (mGName 2) (mIfS (mTst (mOp fGe (mVar 2) (mOp fPowI (mC (.int 10)) (mC (.int 18))))) (mSeq (mSet 3 (mCB fInt (mCons (mVar 2) mNil)))
    (mFor (mIRng1 (mCons (mC (.int 60)) mNil)) (mGName 4) (mIfS (mTst (mOp fGt (mVar 3) (mC (.int 0)))) (mSeq (mApp (mVar 1) (mOp fModI (mCB fInt (mCons (mVar 3) mNil)) (mC (.int 1000))))
    (mSet 3 (mOp fDivI (mVar 3) (mC (.int 1000))))) mSkip))) (mSeq (mSet 5 (mOp fModI (mCB fInt (mCons (mOp fAdd (mOp fMul (mVar 2) (mC (.int 48271))) (mC (.int 12345))) mNil)) (mC (.int 9973))))
    (mSeq (mApp (mVar 1) (mVar 5))
    (mApp (mVar 1) (mOp fModI (mCB fInt (mCons (mOp fAdd (mOp fAdd (mOp fMul (mVar 5) (mVar 5)) (mOp fMul (mC (.int 31)) (mVar 5))) (mOp fMul (mC (.int 17)) (mCB fLen (mCons (mVar 1) mNil)))) mNil)) (mC (.int 9949))))))))
    (mRet (mVar 1))))
/-- _law_take -/
def M11 (C : Nat → Fn) : MS :=
    (mSeq (mAsgG (mOp fAdd (mOp fIx (mVar 1) (mC (.int 0))) (mC (.int 1))) (mGSub (mVar 1) (mC (.int 0))))
    (mSeq (mIfS (mTst (mOp fGt (mOp fIx (mVar 1) (mC (.int 0))) (mCB fLen (mCons (mVar 0) mNil)))) (mRet (mC (.int 0))) mSkip)
    (mRet (mOp fModI (mCB fInt (mCons (mOp fIx (mVar 0) (mOp fSubI (mOp fIx (mVar 1) (mC (.int 0))) (mC (.int 1)))) mNil)) (mVar 2)))))
/-- _law_same -/
def M12 (C : Nat → Fn) : MS :=
    (mSeq (mIfS (mOr (mTru (mCB (fIsi isi) (mCons (mVar 0) (mCons (mC (.ty .bool)) mNil)))) (mTru (mCB (fIsi isi) (mCons (mVar 1) (mCons (mC (.ty .bool)) mNil))))) (mRet (mAndV (mCB (fIsi isi) (mCons (mVar 0) (mCons (mC (.ty .bool)) mNil))) (mAndV (mCB (fIsi isi) (mCons (mVar 1) (mCons (mC (.ty .bool)) mNil))) (mOp fEq (mVar 0) (mVar 1))))) mSkip)
    (mSeq (mIfS (mOr (mTst (mOp fIsN (mVar 0) (mC .non))) (mTst (mOp fIsN (mVar 1) (mC .non)))) (mRet (mAndV (mOp fIsN (mVar 0) (mC .non)) (mOp fIsN (mVar 1) (mC .non)))) mSkip)
    (mSeq (mIfS (mTru (mCB (fIsi isi) (mCons (mVar 1) (mCons (mC (.ty .int)) mNil)))) (mRet (mAndV (mCB (fIsi isi) (mCons (mVar 0) (mCons (mC (.ty .int)) mNil))) (mOp fEq (mVar 0) (mVar 1)))) mSkip)
    (mSeq (mIfS (mTru (mCB (fIsi isi) (mCons (mVar 1) (mCons (mC (.ty .str)) mNil)))) (mRet (mAndV (mCB (fIsi isi) (mCons (mVar 0) (mCons (mC (.ty .str)) mNil))) (mOp fEq (mVar 0) (mVar 1)))) mSkip)
    (mSeq (mIfS (mAnd (mTru (mCB (fIsi isi) (mCons (mVar 1) (mCons (mC (.ty .tuple)) mNil)))) (mNot (mTru (mCB (fIsi isi) (mCons (mVar 0) (mCons (mC (.ty .tuple)) mNil)))))) (mRet (mC (.bl false))) mSkip)
    (mSeq (mIfS (mAnd (mTru (mCB (fIsi isi) (mCons (mVar 1) (mCons (mC (.ty .list)) mNil)))) (mNot (mTru (mCB (fIsi isi) (mCons (mVar 0) (mCons (mC (.ty .list)) mNil)))))) (mRet (mC (.bl false))) mSkip)
    (mSeq (mIfS (mTst (mOp fNe (mCB fLen (mCons (mVar 0) mNil)) (mCB fLen (mCons (mVar 1) mNil)))) (mRet (mC (.bl false))) mSkip)
    (mSeq (mFor (mIRng1 (mCons (mCB fLen (mCons (mVar 1) mNil)) mNil)) (mGName 2) (mIfS (mNot (mTru (mCall (C 12) [] (mCons (mOp fIx (mVar 0) (mVar 2)) (mCons (mOp fIx (mVar 1) (mVar 2)) mNil))))) (mRet (mC (.bl false))) mSkip))
    (mRet (mC (.bl true)))))))))))
/-- _law_way -/
def M13 (C : Nat → Fn) : MS :=
    (mSeq (mSet 2 (mLst (mCons (mLst (mCons (mC (.int 1)) (mCons (mC (.int 1)) (mCons (mC (.int 1)) (mCons (mC (.bl false)) mNil))))) (mCons (mLst (mCons (mC (.int 2)) (mCons (mC (.int 2)) (mCons (mC (.int 2)) (mCons (mC (.bl false)) mNil))))) (mCons (mLst (mCons (mC (.int 1)) (mCons (mC (.int 1)) (mCons (mC (.int 3)) (mCons (mC (.bl false)) mNil))))) (mCons (mLst (mCons (mC (.int 0)) (mCons (mC (.int 0)) (mCons (mC (.int 0)) (mCons (mC (.bl true)) mNil))))) (mCons (mLst (mCons (mC (.int 1)) (mCons (mC (.int 0)) (mCons (mC (.int 1)) (mCons (mC (.bl false)) mNil))))) mNil)))))))
    (mSeq (mSet 3 (mCall (C 11) [] (mCons (mVar 0) (mCons (mVar 1) (mCons (mC (.int 9)) mNil)))))
    (mSeq (mIfS (mTst (mOp fLt (mVar 3) (mC (.int 5)))) (mRet (mOp fIx (mVar 2) (mVar 3))) mSkip)
    (mSeq (mSet 4 (mCall (C 11) [] (mCons (mVar 0) (mCons (mVar 1) (mCons (mC (.int 4)) mNil)))))
    (mSeq (mSet 5 (mOp fAdd (mVar 4) (mCall (C 11) [] (mCons (mVar 0) (mCons (mVar 1) (mCons (mOp fSubI (mC (.int 4)) (mVar 4)) mNil))))))
    (mSeq (mSet 6 (mOp fAdd (mVar 5) (mCall (C 11) [] (mCons (mVar 0) (mCons (mVar 1) (mCons (mOp fSubI (mC (.int 4)) (mVar 5)) mNil))))))
    (mRet (mLst (mCons (mVar 5) (mCons (mVar 4) (mCons (mVar 6) (mCons (mOp fEq (mCall (C 11) [] (mCons (mVar 0) (mCons (mVar 1) (mCons (mC (.int 2)) mNil)))) (mC (.int 1))) mNil))))))))))))
/-- _law_way_made -/
def M14 (C : Nat → Fn) : MS :=
    (mSeq (mSet 1 (mLst (mCons (mC (.str "none")) (mCons (mC (.str "one")) (mCons (mC (.str "most")) (mCons (mC (.str "all")) mNil))))))
    (mRet (mFrz (mMakeK 0 (C 3) (fun xs ys => xs ++ ys) 3 1 (mCons (mOp fIx (mVar 1) (mOp fIx (mVar 0) (mC (.int 0)))) (mCons (mOp fIx (mVar 1) (mOp fIx (mVar 0) (mC (.int 1)))) (mCons (mOp fIx (mVar 1) (mOp fIx (mVar 0) (mC (.int 2)))) mNil))) (mCons (mOp fIx (mVar 0) (mC (.int 3))) mNil)))))
/-- _law_number -/
def M15 (C : Nat → Fn) : MS :=
    (mSeq (mIfS (mTst (mOp fEq (mVar 0) (mC (.int 2)))) (mRet (mOp fAdd (mOp fDivI (mVar 1) (mC (.int 2))) (mC (.int 1)))) mSkip)
    (mSeq (mIfS (mAnd (mTst (mOp fEq (mVar 0) (mC (.int 3)))) (mTst (mOp fGt (mVar 1) (mC (.int 0))))) (mRet (mVar 1)) mSkip)
    (mSeq (mIfS (mTst (mOp fEq (mVar 0) (mC (.int 0)))) (mRet (mC (.int 0))) mSkip)
    (mRet (mC (.int 1))))))
/-- _law_meets -/
def M16 (C : Nat → Fn) : MS :=
    (mSeq (mIfS (mAnd (mTru (mOp fIx (mVar 0) (mC (.int 3)))) (mTru (mVar 3))) (mRet (mC (.bl false))) mSkip)
    (mSeq (mFor (mIRng1 (mCons (mC (.int 3)) mNil)) (mGName 4) (mIfS (mTst (mOp fLt (mOp fIx (mVar 1) (mVar 4)) (mCall (C 15) [] (mCons (mOp fIx (mVar 0) (mVar 4)) (mCons (mVar 2) mNil))))) (mRet (mC (.bl false))) mSkip))
    (mRet (mC (.bl true)))))
/-- _law_adjusted -/
def M17 (C : Nat → Fn) : MS :=
    (mSeq (mSet 1 (mOp fIx (mVar 0) (mC (.int 0))))
    (mSeq (mIfS (mTst (mOp fLt (mVar 1) (mOp fIx (mVar 0) (mC (.int 1))))) (mSet 1 (mOp fIx (mVar 0) (mC (.int 1)))) mSkip)
    (mSeq (mSet 2 (mOp fIx (mVar 0) (mC (.int 2))))
    (mSeq (mIfS (mTst (mOp fLt (mVar 2) (mVar 1))) (mSet 2 (mVar 1)) mSkip)
    (mRet (mLst (mCons (mVar 1) (mCons (mOp fIx (mVar 0) (mC (.int 1))) (mCons (mVar 2) (mCons (mOp fIx (mVar 0) (mC (.int 3))) mNil))))))))))
/-- _law_second -/
def M18 (C : Nat → Fn) : MS :=
    (mSeq (mSet 3 (mCall (C 11) [] (mCons (mVar 0) (mCons (mVar 1) (mCons (mC (.int 8)) mNil)))))
    (mSeq (mSet 4 (mLstC (mCons (mOp fIx (mVar 2) (mC (.int 0))) (mCons (mOp fIx (mVar 2) (mC (.int 1))) (mCons (mOp fIx (mVar 2) (mC (.int 2))) (mCons (mOp fIx (mVar 2) (mC (.int 3))) mNil))))))
    (mSeq (mIfS (mTst (mOp fLt (mVar 3) (mC (.int 3)))) (mSeq (mAsgG (mCall (C 11) [] (mCons (mVar 0) (mCons (mVar 1) (mCons (mC (.int 4)) mNil)))) (mGSub (mVar 4) (mVar 3)))
    (mRet (mCall (C 17) [] (mCons (mVar 4) mNil)))) mSkip)
    (mSeq (mIfS (mTst (mOp fEq (mVar 3) (mC (.int 3)))) (mSeq (mAsgG (mNotV (mOp fIx (mVar 4) (mC (.int 3)))) (mGSub (mVar 4) (mC (.int 3))))
    (mRet (mVar 4))) mSkip)
    (mSeq (mIfS (mTst (mOp fEq (mVar 3) (mC (.int 4)))) (mRet (mVar 4)) mSkip)
    (mRet (mCall (C 13) [] (mCons (mVar 0) (mCons (mVar 1) mNil)))))))))
/-- _law_higher -/
def M19 (C : Nat → Fn) : MS :=
    (mSeq (mSet 2 (mLstC (mCons (mOp fIx (mVar 0) (mC (.int 0))) (mCons (mOp fIx (mVar 0) (mC (.int 1))) (mCons (mOp fIx (mVar 0) (mC (.int 2))) (mCons (mOrV (mOp fIx (mVar 0) (mC (.int 3))) (mOp fIx (mVar 1) (mC (.int 3)))) mNil))))))
    (mSeq (mFor (mIRng1 (mCons (mC (.int 3)) mNil)) (mGName 3) (mIfS (mTst (mOp fGt (mOp fIx (mVar 1) (mVar 3)) (mOp fIx (mVar 2) (mVar 3)))) (mAsgG (mOp fIx (mVar 1) (mVar 3)) (mGSub (mVar 2) (mVar 3))) mSkip))
    (mRet (mVar 2))))
/-- _law_third -/
def M20 (C : Nat → Fn) : MS :=
    (mSeq (mIfS (mTst (mOp fEq (mCall (C 11) [] (mCons (mVar 0) (mCons (mVar 1) (mCons (mC (.int 2)) mNil)))) (mC (.int 1)))) (mRet (mCall (C 13) [] (mCons (mVar 0) (mCons (mVar 1) mNil)))) mSkip)
    (mSeq (mSet 3 (mLstC (mCons (mOp fIx (mVar 2) (mC (.int 0))) (mCons (mOp fIx (mVar 2) (mC (.int 1))) (mCons (mOp fIx (mVar 2) (mC (.int 2))) (mCons (mOp fIx (mVar 2) (mC (.int 3))) mNil))))))
    (mSeq (mFor (mIRng1 (mCons (mC (.int 3)) mNil)) (mGName 4) (mIfS (mTst (mOp fLt (mOp fIx (mVar 3) (mVar 4)) (mC (.int 3)))) (mAsgG (mOp fAdd (mOp fIx (mVar 3) (mVar 4)) (mCall (C 11) [] (mCons (mVar 0) (mCons (mVar 1) (mCons (mC (.int 2)) mNil))))) (mGSub (mVar 3) (mVar 4))) mSkip))
    (mSeq (mIfS (mTst (mOp fEq (mCall (C 11) [] (mCons (mVar 0) (mCons (mVar 1) (mCons (mC (.int 4)) mNil)))) (mC (.int 3)))) (mAsgG (mNotV (mOp fIx (mVar 3) (mC (.int 3)))) (mGSub (mVar 3) (mC (.int 3)))) mSkip)
    (mSeq (mIfS (mAnd (mTst (mOp fEq (mCall (C 11) [] (mCons (mVar 0) (mCons (mVar 1) (mCons (mC (.int 4)) mNil)))) (mC (.int 3)))) (mTst (mOp fGt (mOp fIx (mVar 3) (mC (.int 1))) (mC (.int 0))))) (mAsgG (mOp fSubI (mOp fIx (mVar 3) (mC (.int 1))) (mC (.int 1))) (mGSub (mVar 3) (mC (.int 1)))) mSkip)
    (mRet (mCall (C 17) [] (mCons (mVar 3) mNil))))))))
/-- _law_below -/
def M21 (C : Nat → Fn) : MS :=
    (mSeq (mIfS (mAnd (mTru (mOp fIx (mVar 1) (mC (.int 3)))) (mNot (mTru (mOp fIx (mVar 0) (mC (.int 3)))))) (mRet (mC (.bl false))) mSkip)
    (mRet (mAndV (mOp fGe (mOp fIx (mVar 0) (mC (.int 0))) (mOp fIx (mVar 1) (mC (.int 0)))) (mAndV (mOp fGe (mOp fIx (mVar 0) (mC (.int 1))) (mOp fIx (mVar 1) (mC (.int 1)))) (mOp fGe (mOp fIx (mVar 0) (mC (.int 2))) (mOp fIx (mVar 1) (mC (.int 2))))))))
/-- _law_fields -/
def M22 (C : Nat → Fn) : MS :=
    (mRet (mLst (mCons (mFld 0 0 (mVar 0)) (mCons (mFld 0 1 (mVar 0)) (mCons (mFld 0 2 (mVar 0)) (mCons (mFld 0 3 (mVar 0)) mNil))))))
/-- _law_words -/
def M23 (C : Nat → Fn) : MS :=
    (mSeq (mSet 1 (mLst (mCons (mC (.str "none")) (mCons (mC (.str "one")) (mCons (mC (.str "most")) (mCons (mC (.str "all")) mNil))))))
    (mRet (mLst (mCons (mOp fIx (mVar 1) (mOp fIx (mVar 0) (mC (.int 0)))) (mCons (mOp fIx (mVar 1) (mOp fIx (mVar 0) (mC (.int 1)))) (mCons (mOp fIx (mVar 1) (mOp fIx (mVar 0) (mC (.int 2)))) (mCons (mOp fIx (mVar 0) (mC (.int 3))) mNil)))))))
/-- _law_permits_both -/
def M24 (C : Nat → Fn) : MS :=
    (mSeq (mFor (mIRng1 (mCons (mOp fAdd (mVar 3) (mC (.int 1))) mNil)) (mGName 4) (mFor (mIRng1 (mCons (mOp fAdd (mVar 4) (mC (.int 1))) mNil)) (mGName 5) (mFor (mIRng1 (mCons (mOp fAdd (mVar 5) (mC (.int 1))) mNil)) (mGName 6) (mFor (mISeq (mLst (mCons (mC (.bl false)) (mCons (mC (.bl true)) mNil)))) (mGName 7) (mSeq (mSet 8 (mLst (mCons (mVar 5) (mCons (mVar 6) (mCons (mVar 4) mNil)))))
    (mSeq (mSet 9 (mAndV (mCall (C 16) [] (mCons (mVar 1) (mCons (mVar 8) (mCons (mVar 3) (mCons (mVar 7) mNil))))) (mCall (C 16) [] (mCons (mVar 2) (mCons (mVar 8) (mCons (mVar 3) (mCons (mVar 7) mNil)))))))
    (mIfS (mNot (mTru (mCall (C 12) [] (mCons (mMethK 0 (C 5) 4 1 (mVar 0) (mCons (mVar 5) (mCons (mVar 6) (mCons (mVar 4) (mCons (mVar 3) mNil)))) (mCons (mVar 7) mNil)) (mCons (mVar 9) mNil))))) (mRet (mC (.bl false))) mSkip)))))))
    (mRet (mC (.bl true))))
/-- law -/
def M25 (C : Nat → Fn) : MS :=
    (mSeq (mSet 1 (mCall (C 10) [] (mCons (mVar 0) mNil)))
    (mSeq (mSet 2 (mLstC (mCons (mC (.int 0)) mNil)))
    (mSeq (mSet 3 (mCall (C 13) [] (mCons (mVar 1) (mCons (mVar 2) mNil))))
    (mSeq (mSet 4 (mCall (C 18) [] (mCons (mVar 1) (mCons (mVar 2) (mCons (mVar 3) mNil)))))
    (mSeq (mSet 5 (mCall (C 19) [] (mCons (mVar 3) (mCons (mVar 4) mNil))))
    (mSeq (mSet 6 (mCall (C 20) [] (mCons (mVar 1) (mCons (mVar 2) (mCons (mVar 5) mNil)))))
    (mSeq (mSet 7 (mCall (C 14) [] (mCons (mVar 3) mNil)))
    (mSeq (mSet 8 (mCall (C 14) [] (mCons (mVar 4) mNil)))
    (mSeq (mSet 9 (mCall (C 14) [] (mCons (mVar 6) mNil)))
    (mSeq (mSet 10 (mOpH (fOwn 0 (C 9)) (mVar 7) (mVar 8)))
    (mSeq (mIfS (mNot (mTru (mCall (C 12) [] (mCons (mCall (C 22) [] (mCons (mVar 10) mNil)) (mCons (mCall (C 23) [] (mCons (mVar 5) mNil)) mNil))))) (mRet (mC (.bl false))) mSkip)
    (mSeq (mFor (mIRng1 (mCons (mC (.int 5)) mNil)) (mGName 11) (mIfS (mNot (mTru (mCall (C 24) [] (mCons (mVar 10) (mCons (mVar 3) (mCons (mVar 4) (mCons (mVar 11) mNil))))))) (mRet (mC (.bl false))) mSkip))
    (mSeq (mIfS (mOr (mNot (mTru (mCall (C 12) [] (mCons (mOpH (fOwn 0 (C 7)) (mVar 10) (mVar 7)) (mCons (mC (.bl true)) mNil))))) (mNot (mTru (mCall (C 12) [] (mCons (mOpH (fOwn 0 (C 7)) (mVar 10) (mVar 8)) (mCons (mC (.bl true)) mNil)))))) (mRet (mC (.bl false))) mSkip)
    (mSeq (mIfS (mNot (mTru (mCall (C 12) [] (mCons (mOpH (fOwn 0 (C 7)) (mVar 9) (mVar 10)) (mCons (mAndV (mCall (C 21) [] (mCons (mVar 6) (mCons (mVar 3) mNil))) (mCall (C 21) [] (mCons (mVar 6) (mCons (mVar 4) mNil)))) mNil))))) (mRet (mC (.bl false))) mSkip)
    (mSeq (mIfS (mOr (mNot (mTru (mCall (C 12) [] (mCons (mOpH (fOwn 0 (C 7)) (mVar 9) (mVar 7)) (mCons (mCall (C 21) [] (mCons (mVar 6) (mCons (mVar 3) mNil))) mNil))))) (mNot (mTru (mCall (C 12) [] (mCons (mOpH (fOwn 0 (C 7)) (mVar 9) (mVar 8)) (mCons (mCall (C 21) [] (mCons (mVar 6) (mCons (mVar 4) mNil))) mNil)))))) (mRet (mC (.bl false))) mSkip)
    (mSeq (mIfS (mNot (mTru (mCall (C 12) [] (mCons (mOpH (fOwn 0 (C 6)) (mVar 9) (mVar 10)) (mCons (mCall (C 12) [] (mCons (mVar 6) (mCons (mVar 5) mNil))) mNil))))) (mRet (mC (.bl false))) mSkip)
    (mSeq (mIfS (mOr (mNot (mTru (mCall (C 12) [] (mCons (mOpH (fOwn 0 (C 6)) (mVar 10) (mOpH (fOwn 0 (C 9)) (mVar 8) (mVar 7))) (mCons (mC (.bl true)) mNil))))) (mNot (mTru (mCall (C 12) [] (mCons (mOpH (fOwn 0 (C 6)) (mOpH (fOwn 0 (C 9)) (mVar 7) (mVar 7)) (mVar 7)) (mCons (mC (.bl true)) mNil)))))) (mRet (mC (.bl false))) mSkip)
    (mSeq (mIfS (mOr (mNot (mTru (mCall (C 12) [] (mCons (mCall (C 22) [] (mCons (mOpH (fOwn 0 (C 9)) (mVar 8) (mVar 7)) mNil)) (mCons (mCall (C 23) [] (mCons (mVar 5) mNil)) mNil))))) (mNot (mTru (mCall (C 12) [] (mCons (mCall (C 22) [] (mCons (mOpH (fOwn 0 (C 9)) (mVar 7) (mVar 7)) mNil)) (mCons (mCall (C 23) [] (mCons (mVar 3) mNil)) mNil)))))) (mRet (mC (.bl false))) mSkip)
    (mSeq (mIfS (mNot (mTru (mCall (C 12) [] (mCons (mCall (C 22) [] (mCons (mOpH (fOwn 0 (C 9)) (mOpH (fOwn 0 (C 9)) (mVar 8) (mVar 7)) (mVar 9)) mNil)) (mCons (mCall (C 23) [] (mCons (mCall (C 19) [] (mCons (mVar 5) (mCons (mVar 6) mNil))) mNil)) mNil))))) (mRet (mC (.bl false))) mSkip)
    (mSeq (mIfS (mOr (mNot (mTru (mCall (C 12) [] (mCons (mCall (C 22) [] (mCons (mVar 9) mNil)) (mCons (mCall (C 23) [] (mCons (mVar 6) mNil)) mNil))))) (mNot (mTru (mCall (C 12) [] (mCons (mCall (C 22) [] (mCons (mVar 10) mNil)) (mCons (mCall (C 23) [] (mCons (mVar 5) mNil)) mNil)))))) (mRet (mC (.bl false))) mSkip)
    (mRet (mAndV (mCall (C 12) [] (mCons (mCall (C 22) [] (mCons (mVar 7) mNil)) (mCons (mCall (C 23) [] (mCons (mVar 3) mNil)) mNil))) (mCall (C 12) [] (mCons (mCall (C 22) [] (mCons (mVar 8) mNil)) (mCons (mCall (C 23) [] (mCons (mVar 4) mNil)) mNil)))))))))))))))))))))))))
def fns (C : Nat → Fn) : Nat → Fn
  | 0 => fnM true 3 1 (M0 C)
  | 1 => fnM true 3 2 (M1 C)
  | 2 => fnM true 2 2 (M2 C)
  | 3 => fnM false 8 5 (M3 C)
  | 4 => fnM true 2 2 (M4 C)
  | 5 => fnM true 9 6 (M5 C)
  | 6 => fnM true 2 2 (M6 C)
  | 7 => fnM true 2 2 (M7 C)
  | 8 => fnM true 2 2 (M8 C)
  | 9 => fnM true 3 2 (M9 C)
  | 10 => fnM true 6 1 (M10 C)
  | 11 => fnM false 3 3 (M11 C)
  | 12 => fnM true 3 2 (M12 C)
  | 13 => fnM true 7 2 (M13 C)
  | 14 => fnM true 2 1 (M14 C)
  | 15 => fnM true 2 2 (M15 C)
  | 16 => fnM true 5 4 (M16 C)
  | 17 => fnM true 3 1 (M17 C)
  | 18 => fnM true 5 3 (M18 C)
  | 19 => fnM true 4 2 (M19 C)
  | 20 => fnM true 5 3 (M20 C)
  | 21 => fnM true 2 2 (M21 C)
  | 22 => fnM true 1 1 (M22 C)
  | 23 => fnM true 2 1 (M23 C)
  | 24 => fnM true 10 4 (M24 C)
  | 25 => fnM true 12 1 (M25 C)
  | _ => fun _ _ => .bad
def call : Nat → Nat → Fn
  | 0, _ => fun _ _ => .bad
  | n + 1, i => fns (call n) i
/-! ### what the top leaves -/
def tab (K : PySem.W.Frag) : Tab := ⟨K, fun c => match c with
  | 0 => He.ga K "Way"
  | _ => 0, fun c => match c with
  | 0 => ["held", "owned", "seen", "early"]
  | _ => []⟩
theorem fl_nd {K : PySem.W.Frag} (c : Nat) : ((tab K).fl c).Nodup := match c with
  | 0 => (by decide +kernel : (["held", "owned", "seen", "early"] : List Str).Nodup)
  | _ + 1 => List.nodup_nil
theorem fl_few {K : PySem.W.Frag} (c : Nat) : ((tab K).fl c).length < 1000 := match c with
  | 0 => (by decide : (["held", "owned", "seen", "early"] : List Str).length < 1000)
  | _ + 1 => (by decide : ([] : List Str).length < 1000)
theorem fl_no_0_needs {K : PySem.W.Frag} : ("needs" : Str) ∉ (tab K).fl 0 := (by decide +kernel : ("needs" : Str) ∉ (["held", "owned", "seen", "early"] : List Str))
theorem fl_no_0_permits {K : PySem.W.Frag} : ("permits" : Str) ∉ (tab K).fl 0 := (by decide +kernel : ("permits" : Str) ∉ (["held", "owned", "seen", "early"] : List Str))
def facts (K : PySem.W.Frag) : List Bool := [
  (He.Fa.free "bool").ok K,
  (He.Fa.free "enumerate").ok K,
  (He.Fa.free "int").ok K,
  (He.Fa.free "isinstance").ok K,
  (He.Fa.free "len").ok K,
  (He.Fa.free "list").ok K,
  (He.Fa.free "max").ok K,
  (He.Fa.free "range").ok K,
  (He.Fa.free "str").ok K,
  (He.Fa.free "tuple").ok K,
  (He.Fa.glo "rank").ok K,
  (He.Fa.glo "needed").ok K,
  (He.Fa.glo "higher").ok K,
  (He.Fa.glo "_law_draws").ok K,
  (He.Fa.glo "_law_take").ok K,
  (He.Fa.glo "_law_same").ok K,
  (He.Fa.glo "_law_way").ok K,
  (He.Fa.glo "_law_way_made").ok K,
  (He.Fa.glo "_law_number").ok K,
  (He.Fa.glo "_law_meets").ok K,
  (He.Fa.glo "_law_adjusted").ok K,
  (He.Fa.glo "_law_second").ok K,
  (He.Fa.glo "_law_higher").ok K,
  (He.Fa.glo "_law_third").ok K,
  (He.Fa.glo "_law_below").ok K,
  (He.Fa.glo "_law_fields").ok K,
  (He.Fa.glo "_law_words").ok K,
  (He.Fa.glo "_law_permits_both").ok K,
  (He.Fa.glo "law").ok K,
  (He.Fa.glo "Way").ok K,
  (He.Fa.cls "Way").ok K,
  (He.Fa.noat "Way" "early").ok K,
  (He.Fa.noat "Way" "held").ok K,
  (He.Fa.noat "Way" "owned").ok K,
  (He.Fa.noat "Way" "seen").ok K,
  (He.Fa.mkr "Way").ok K,
  (He.Fa.meth "Way" "needs").ok K,
  (He.Fa.meth "Way" "permits").ok K,
  He.eqO (PySem.W.findIn K (.ref (He.ga K "Way")) "__and__") (some (some (.ref (He.fAd K D9.at_)))),
  He.eqO (PySem.W.findIn K (.ref (He.ga K "Way")) "__eq__") (some (some (.ref (He.fAd K D6.at_)))),
  He.eqO (PySem.W.findIn K (.ref (He.ga K "Way")) "__le__") (some (some (.ref (He.fAd K D7.at_)))),
  PySem.W.isFn K (.ref (He.fAd K D6.at_)),
  PySem.W.isFn K (.ref (He.fAd K D7.at_)),
  PySem.W.isFn K (.ref (He.fAd K D9.at_)),
  PySem.W.selfFirst K (He.ga K "Way"),
  (He.Fa.glo "LEVELS").ok K,
  He.tupB K "LEVELS" [.str "none", .str "one", .str "most", .str "all"],
  insB K (He.ga K "Way"),
  kitL.all fun q => decide (PySem.W.kitOne K (q.1.val (tab K)) (q.2.1.val (tab K)) = some q.2.2)]
def fn : List He.DefD := [D0, D1, D2, D3, D4, D5, D6, D7, D8, D9, D10, D11, D12, D13, D14, D15, D16, D17, D18, D19, D20, D21, D22, D23, D24, D25]
def fdE (K : PySem.W.Frag) (d : He.DefD) : FuncData := fdOf K (He.fAd K d.at_)
structure Ax (K : PySem.W.Frag) (mg : Str → Option Value) : Prop where
  g_bool : mg "bool" = none
  g_enumerate : mg "enumerate" = none
  g_int : mg "int" = none
  g_isinstance : mg "isinstance" = none
  g_len : mg "len" = none
  g_list : mg "list" = none
  g_max : mg "max" = none
  g_range : mg "range" = none
  g_str : mg "str" = none
  g_tuple : mg "tuple" = none
  gf_0 : mg "rank" = some (.ref (He.fAd K D0.at_))
  gf_1 : mg "needed" = some (.ref (He.fAd K D1.at_))
  gf_2 : mg "higher" = some (.ref (He.fAd K D2.at_))
  gf_10 : mg "_law_draws" = some (.ref (He.fAd K D10.at_))
  gf_11 : mg "_law_take" = some (.ref (He.fAd K D11.at_))
  gf_12 : mg "_law_same" = some (.ref (He.fAd K D12.at_))
  gf_13 : mg "_law_way" = some (.ref (He.fAd K D13.at_))
  gf_14 : mg "_law_way_made" = some (.ref (He.fAd K D14.at_))
  gf_15 : mg "_law_number" = some (.ref (He.fAd K D15.at_))
  gf_16 : mg "_law_meets" = some (.ref (He.fAd K D16.at_))
  gf_17 : mg "_law_adjusted" = some (.ref (He.fAd K D17.at_))
  gf_18 : mg "_law_second" = some (.ref (He.fAd K D18.at_))
  gf_19 : mg "_law_higher" = some (.ref (He.fAd K D19.at_))
  gf_20 : mg "_law_third" = some (.ref (He.fAd K D20.at_))
  gf_21 : mg "_law_below" = some (.ref (He.fAd K D21.at_))
  gf_22 : mg "_law_fields" = some (.ref (He.fAd K D22.at_))
  gf_23 : mg "_law_words" = some (.ref (He.fAd K D23.at_))
  gf_24 : mg "_law_permits_both" = some (.ref (He.fAd K D24.at_))
  gf_25 : mg "law" = some (.ref (He.fAd K D25.at_))
  gc_0 : mg "Way" = some (.ref ((tab K).ca 0))
  cl_0 : Cls K ((tab K).ca 0)
  na_0_early : NoAttr K ((tab K).ca 0) "early"
  na_0_held : NoAttr K ((tab K).ca 0) "held"
  na_0_owned : NoAttr K ((tab K).ca 0) "owned"
  na_0_seen : NoAttr K ((tab K).ca 0) "seen"
  mk_0 : Mk K ((tab K).ca 0) (He.fAd K D3.at_)
  me_0_needs : Meth K ((tab K).ca 0) "needs" (He.fAd K D4.at_)
  me_0_permits : Meth K ((tab K).ca 0) "permits" (He.fAd K D5.at_)
  sp_0_and : PySem.W.findIn K (.ref ((tab K).ca 0)) "__and__" = some (some (.ref (He.fAd K D9.at_)))
  sp_0_eq : PySem.W.findIn K (.ref ((tab K).ca 0)) "__eq__" = some (some (.ref (He.fAd K D6.at_)))
  sp_0_le : PySem.W.findIn K (.ref ((tab K).ca 0)) "__le__" = some (some (.ref (He.fAd K D7.at_)))
  fn_6 : PySem.W.isFn K (.ref (He.fAd K D6.at_)) = true
  fn_7 : PySem.W.isFn K (.ref (He.fAd K D7.at_)) = true
  fn_9 : PySem.W.isFn K (.ref (He.fAd K D9.at_)) = true
  sf_0 : PySem.W.selfFirst K ((tab K).ca 0) = true
  m_LEVELS : mg "LEVELS" = some (.ref (He.ga K "LEVELS"))
  k_LEVELS : KV (tab K) (.tup [(.str "none"), (.str "one"), (.str "most"), (.str "all")]) (.ref (He.ga K "LEVELS"))
  in_0 : InsF (tab K) 0
  kit : ∀ q ∈ kitL, PySem.W.kitOne K (q.1.val (tab K)) (q.2.1.val (tab K)) = some q.2.2
  f0 : FunD K D0.name D0.qual D0.params D0.body D0.scope (D0.dvs K) (D0.kws K) (He.fAd K D0.at_) (fdE K D0)
  f1 : FunD K D1.name D1.qual D1.params D1.body D1.scope (D1.dvs K) (D1.kws K) (He.fAd K D1.at_) (fdE K D1)
  f2 : FunD K D2.name D2.qual D2.params D2.body D2.scope (D2.dvs K) (D2.kws K) (He.fAd K D2.at_) (fdE K D2)
  f3 : FunD K D3.name D3.qual D3.params D3.body D3.scope (D3.dvs K) (D3.kws K) (He.fAd K D3.at_) (fdE K D3)
  f4 : FunD K D4.name D4.qual D4.params D4.body D4.scope (D4.dvs K) (D4.kws K) (He.fAd K D4.at_) (fdE K D4)
  f5 : FunD K D5.name D5.qual D5.params D5.body D5.scope (D5.dvs K) (D5.kws K) (He.fAd K D5.at_) (fdE K D5)
  f6 : FunD K D6.name D6.qual D6.params D6.body D6.scope (D6.dvs K) (D6.kws K) (He.fAd K D6.at_) (fdE K D6)
  f7 : FunD K D7.name D7.qual D7.params D7.body D7.scope (D7.dvs K) (D7.kws K) (He.fAd K D7.at_) (fdE K D7)
  f8 : FunD K D8.name D8.qual D8.params D8.body D8.scope (D8.dvs K) (D8.kws K) (He.fAd K D8.at_) (fdE K D8)
  f9 : FunD K D9.name D9.qual D9.params D9.body D9.scope (D9.dvs K) (D9.kws K) (He.fAd K D9.at_) (fdE K D9)
  f10 : FunD K D10.name D10.qual D10.params D10.body D10.scope (D10.dvs K) (D10.kws K) (He.fAd K D10.at_) (fdE K D10)
  f11 : FunD K D11.name D11.qual D11.params D11.body D11.scope (D11.dvs K) (D11.kws K) (He.fAd K D11.at_) (fdE K D11)
  f12 : FunD K D12.name D12.qual D12.params D12.body D12.scope (D12.dvs K) (D12.kws K) (He.fAd K D12.at_) (fdE K D12)
  f13 : FunD K D13.name D13.qual D13.params D13.body D13.scope (D13.dvs K) (D13.kws K) (He.fAd K D13.at_) (fdE K D13)
  f14 : FunD K D14.name D14.qual D14.params D14.body D14.scope (D14.dvs K) (D14.kws K) (He.fAd K D14.at_) (fdE K D14)
  f15 : FunD K D15.name D15.qual D15.params D15.body D15.scope (D15.dvs K) (D15.kws K) (He.fAd K D15.at_) (fdE K D15)
  f16 : FunD K D16.name D16.qual D16.params D16.body D16.scope (D16.dvs K) (D16.kws K) (He.fAd K D16.at_) (fdE K D16)
  f17 : FunD K D17.name D17.qual D17.params D17.body D17.scope (D17.dvs K) (D17.kws K) (He.fAd K D17.at_) (fdE K D17)
  f18 : FunD K D18.name D18.qual D18.params D18.body D18.scope (D18.dvs K) (D18.kws K) (He.fAd K D18.at_) (fdE K D18)
  f19 : FunD K D19.name D19.qual D19.params D19.body D19.scope (D19.dvs K) (D19.kws K) (He.fAd K D19.at_) (fdE K D19)
  f20 : FunD K D20.name D20.qual D20.params D20.body D20.scope (D20.dvs K) (D20.kws K) (He.fAd K D20.at_) (fdE K D20)
  f21 : FunD K D21.name D21.qual D21.params D21.body D21.scope (D21.dvs K) (D21.kws K) (He.fAd K D21.at_) (fdE K D21)
  f22 : FunD K D22.name D22.qual D22.params D22.body D22.scope (D22.dvs K) (D22.kws K) (He.fAd K D22.at_) (fdE K D22)
  f23 : FunD K D23.name D23.qual D23.params D23.body D23.scope (D23.dvs K) (D23.kws K) (He.fAd K D23.at_) (fdE K D23)
  f24 : FunD K D24.name D24.qual D24.params D24.body D24.scope (D24.dvs K) (D24.kws K) (He.fAd K D24.at_) (fdE K D24)
  f25 : FunD K D25.name D25.qual D25.params D25.body D25.scope (D25.dvs K) (D25.kws K) (He.fAd K D25.at_) (fdE K D25)
namespace Ax
variable {K : PySem.W.Frag} {mg : Str → Option Value} (A : Ax K mg)
include A
theorem isi : IsiOk (tab K) isi := isiT_ok (n := 1) A.kit (by decide) (fun c hc => match c, hc with
  | 0, _ => A.in_0
  | _ + 1, z => absurd z (by omega))
theorem b0 : Binds K (fdE K D0) P0 [] := A.f0.bindsN fun _ _ _ _ _ _ us hl => match us, hl with | [_], _ => rfl
theorem b1 : Binds K (fdE K D1) P1 [] := A.f1.bindsN fun _ _ _ _ _ _ us hl => match us, hl with | [_, _], _ => rfl
theorem b2 : Binds K (fdE K D2) P2 [] := A.f2.bindsN fun _ _ _ _ _ _ us hl => match us, hl with | [_, _], _ => rfl
theorem b4 : Binds K (fdE K D4) P4 [] := A.f4.bindsN fun _ _ _ _ _ _ us hl => match us, hl with | [_, _], _ => rfl
theorem b6 : Binds K (fdE K D6) P6 [] := A.f6.bindsN fun _ _ _ _ _ _ us hl => match us, hl with | [_, _], _ => rfl
theorem b7 : Binds K (fdE K D7) P7 [] := A.f7.bindsN fun _ _ _ _ _ _ us hl => match us, hl with | [_, _], _ => rfl
theorem b8 : Binds K (fdE K D8) P8 [] := A.f8.bindsN fun _ _ _ _ _ _ us hl => match us, hl with | [_, _], _ => rfl
theorem b9 : Binds K (fdE K D9) P9 [] := A.f9.bindsN fun _ _ _ _ _ _ us hl => match us, hl with | [_, _], _ => rfl
theorem b10 : Binds K (fdE K D10) P10 [] := A.f10.bindsN fun _ _ _ _ _ _ us hl => match us, hl with | [_], _ => rfl
theorem b11 : Binds K (fdE K D11) P11 [] := A.f11.bindsN fun _ _ _ _ _ _ us hl => match us, hl with | [_, _, _], _ => rfl
theorem b12 : Binds K (fdE K D12) P12 [] := A.f12.bindsN fun _ _ _ _ _ _ us hl => match us, hl with | [_, _], _ => rfl
theorem b13 : Binds K (fdE K D13) P13 [] := A.f13.bindsN fun _ _ _ _ _ _ us hl => match us, hl with | [_, _], _ => rfl
theorem b14 : Binds K (fdE K D14) P14 [] := A.f14.bindsN fun _ _ _ _ _ _ us hl => match us, hl with | [_], _ => rfl
theorem b15 : Binds K (fdE K D15) P15 [] := A.f15.bindsN fun _ _ _ _ _ _ us hl => match us, hl with | [_, _], _ => rfl
theorem b16 : Binds K (fdE K D16) P16 [] := A.f16.bindsN fun _ _ _ _ _ _ us hl => match us, hl with | [_, _, _, _], _ => rfl
theorem b17 : Binds K (fdE K D17) P17 [] := A.f17.bindsN fun _ _ _ _ _ _ us hl => match us, hl with | [_], _ => rfl
theorem b18 : Binds K (fdE K D18) P18 [] := A.f18.bindsN fun _ _ _ _ _ _ us hl => match us, hl with | [_, _, _], _ => rfl
theorem b19 : Binds K (fdE K D19) P19 [] := A.f19.bindsN fun _ _ _ _ _ _ us hl => match us, hl with | [_, _], _ => rfl
theorem b20 : Binds K (fdE K D20) P20 [] := A.f20.bindsN fun _ _ _ _ _ _ us hl => match us, hl with | [_, _, _], _ => rfl
theorem b21 : Binds K (fdE K D21) P21 [] := A.f21.bindsN fun _ _ _ _ _ _ us hl => match us, hl with | [_, _], _ => rfl
theorem b22 : Binds K (fdE K D22) P22 [] := A.f22.bindsN fun _ _ _ _ _ _ us hl => match us, hl with | [_], _ => rfl
theorem b23 : Binds K (fdE K D23) P23 [] := A.f23.bindsN fun _ _ _ _ _ _ us hl => match us, hl with | [_], _ => rfl
theorem b24 : Binds K (fdE K D24) P24 [] := A.f24.bindsN fun _ _ _ _ _ _ us hl => match us, hl with | [_, _, _, _], _ => rfl
theorem b25 : Binds K (fdE K D25) P25 [] := A.f25.bindsN fun _ _ _ _ _ _ us hl => match us, hl with | [_], _ => rfl
theorem bk3_4_early : KBn K (fdE K D3) P3 4 ["early"] (fun us ws => us ++ ws) (fun vs zs => vs ++ zs) := by
  obtain ⟨its, mv, hb⟩ := A.f3.kbinds (ps := P3) 4 ["early"] [] (fun us its mv ws => us ++ ws) (List.cons_ne_nil _ _) (List.cons_ne_nil _ _) (fun q hq => by cases hq) (fun r1 _ _ r4 => r1.append r4) fun T D _ _ _ _ _ us its mv ws h1 h2 h3 h4 => match us, its, mv, ws, h1, h2, h3, h4 with | [_, _, _, _], [_, _, _], [], [_], _, _, _, _ => ⟨_, rfl, rfl⟩
  exact hb
theorem bk5_5_loose : KBn K (fdE K D5) P5 5 ["loose"] (fun us ws => us ++ ws) (fun vs zs => vs ++ zs) := by
  obtain ⟨mv, hb⟩ := A.f5.kbinds0 (ps := P5) 5 ["loose"] [] (fun us mv ws => us ++ ws) (List.cons_ne_nil _ _) (fun q hq => by cases hq) (fun r1 _ r3 => r1.append r3) fun D _ _ _ _ _ us mv ws h1 h2 h3 => match us, mv, ws, h1, h2, h3 with | [_, _, _, _, _], [], [_], _, _, _ => rfl
  exact hb
end Ax
/-! ### what each def is known to do -/
structure Ks (P : Program) (w : World) (K : PySem.W.Frag) (mg : Str → Option Value) (base : Heap) (n : Nat) (C : Nat → Fn) : Prop where
  k0 : Kn (tab K) P w K mg base n (He.fAd K D0.at_) (fdE K D0) P0 (C 0)
  k1 : Kn (tab K) P w K mg base n (He.fAd K D1.at_) (fdE K D1) P1 (C 1)
  k2 : Kn (tab K) P w K mg base n (He.fAd K D2.at_) (fdE K D2) P2 (C 2)
  k3 : Kn (tab K) P w K mg base n (He.fAd K D3.at_) (fdE K D3) P3 (C 3)
  k4 : Kn (tab K) P w K mg base n (He.fAd K D4.at_) (fdE K D4) P4 (C 4)
  k5 : Kn (tab K) P w K mg base n (He.fAd K D5.at_) (fdE K D5) P5 (C 5)
  k6 : Kn (tab K) P w K mg base n (He.fAd K D6.at_) (fdE K D6) P6 (C 6)
  k7 : Kn (tab K) P w K mg base n (He.fAd K D7.at_) (fdE K D7) P7 (C 7)
  k8 : Kn (tab K) P w K mg base n (He.fAd K D8.at_) (fdE K D8) P8 (C 8)
  k9 : Kn (tab K) P w K mg base n (He.fAd K D9.at_) (fdE K D9) P9 (C 9)
  k10 : Kn (tab K) P w K mg base n (He.fAd K D10.at_) (fdE K D10) P10 (C 10)
  k11 : Kn (tab K) P w K mg base n (He.fAd K D11.at_) (fdE K D11) P11 (C 11)
  k12 : Kn (tab K) P w K mg base n (He.fAd K D12.at_) (fdE K D12) P12 (C 12)
  k13 : Kn (tab K) P w K mg base n (He.fAd K D13.at_) (fdE K D13) P13 (C 13)
  k14 : Kn (tab K) P w K mg base n (He.fAd K D14.at_) (fdE K D14) P14 (C 14)
  k15 : Kn (tab K) P w K mg base n (He.fAd K D15.at_) (fdE K D15) P15 (C 15)
  k16 : Kn (tab K) P w K mg base n (He.fAd K D16.at_) (fdE K D16) P16 (C 16)
  k17 : Kn (tab K) P w K mg base n (He.fAd K D17.at_) (fdE K D17) P17 (C 17)
  k18 : Kn (tab K) P w K mg base n (He.fAd K D18.at_) (fdE K D18) P18 (C 18)
  k19 : Kn (tab K) P w K mg base n (He.fAd K D19.at_) (fdE K D19) P19 (C 19)
  k20 : Kn (tab K) P w K mg base n (He.fAd K D20.at_) (fdE K D20) P20 (C 20)
  k21 : Kn (tab K) P w K mg base n (He.fAd K D21.at_) (fdE K D21) P21 (C 21)
  k22 : Kn (tab K) P w K mg base n (He.fAd K D22.at_) (fdE K D22) P22 (C 22)
  k23 : Kn (tab K) P w K mg base n (He.fAd K D23.at_) (fdE K D23) P23 (C 23)
  k24 : Kn (tab K) P w K mg base n (He.fAd K D24.at_) (fdE K D24) P24 (C 24)
  k25 : Kn (tab K) P w K mg base n (He.fAd K D25.at_) (fdE K D25) P25 (C 25)
section
variable {P : Program} {w : World} {K : PySem.W.Frag} {mg : Str → Option Value} {base : Heap} {n : Nat} {C : Nat → Fn}
theorem sc0 : FnScope N0 P0 (defScope S0) := ⟨rfl, rfl, rfl, by decide +kernel, rfl, by decide +kernel, by decide +kernel⟩
theorem ok0 (A : Ax K mg) (ks : Ks P w K mg base (2 * n) C) : FnOk P w K mg base (L2.CX P w) (2 * n + 1 + 1) (He.fAd K D0.at_) (fdE K D0) P0 (spI (tab K) 1 (fnM true 3 1 (M0 C))) := by
  refine fn_ok (T := tab K) A.f0 sc0 rfl rfl fun cdv A0 outer s H E G => ?_
  exact (is_cons (is_for G (ii_enum G (i_glob (v := .ref (He.ga K "LEVELS")) A.m_LEVELS rfl A.k_LEVELS) A.g_enumerate) (ig_tup G (igs_cons (ig_name 1 G) (igs_cons (ig_name 2 G) igs_nil))) (is_one (is_if (it_eq (i_var 2) (i_var 0) G) (is_one (is_ret (i_var 1))) is_nil)))
    (is_one is_never))
theorem sc1 : FnScope N1 P1 (defScope S1) := ⟨rfl, rfl, rfl, by decide +kernel, rfl, by decide +kernel, by decide +kernel⟩
theorem ok1 (A : Ax K mg) (ks : Ks P w K mg base (2 * n) C) : FnOk P w K mg base (L2.CX P w) (2 * n + 1 + 1) (He.fAd K D1.at_) (fdE K D1) P1 (spI (tab K) 2 (fnM true 3 2 (M1 C))) := by
  refine fn_ok (T := tab K) A.f1 sc1 rfl rfl fun cdv A0 outer s H E G => ?_
  exact (is_cons (is_set 2 G (i_call ks.k0 (Nat.le_succ _) G A.gf_0 A.b0 .nil .nil (ia_cons (i_var 0) ia_nil)))
    (is_cons (is_if (it_eq (i_var 2) i_int G) (is_one (is_ret i_int)) is_nil)
    (is_cons (is_if (it_eq (i_var 2) i_int G) (is_one (is_ret i_int)) is_nil)
    (is_cons (is_if (it_eq (i_var 2) i_int G) (is_one (is_ret (i_add (i_fdiv (i_var 1) i_int) i_int G))) is_nil)
    (is_one (is_ret (i_max2 G i_int (i_var 1) A.g_max)))))))
theorem sc2 : FnScope N2 P2 (defScope S2) := ⟨rfl, rfl, rfl, by decide +kernel, rfl, by decide +kernel, by decide +kernel⟩
theorem ok2 (A : Ax K mg) (ks : Ks P w K mg base (2 * n) C) : FnOk P w K mg base (L2.CX P w) (2 * n + 1 + 1) (He.fAd K D2.at_) (fdE K D2) P2 (spI (tab K) 2 (fnM true 2 2 (M2 C))) := by
  refine fn_ok (T := tab K) A.f2 sc2 rfl rfl fun cdv A0 outer s H E G => ?_
  exact (is_cons (is_if (it_lt (i_call ks.k0 (Nat.le_succ _) G A.gf_0 A.b0 .nil .nil (ia_cons (i_var 0) ia_nil)) (i_call ks.k0 (Nat.le_succ _) G A.gf_0 A.b0 .nil .nil (ia_cons (i_var 1) ia_nil))) (is_one (is_ret (i_var 1))) is_nil)
    (is_one (is_ret (i_var 0))))
theorem sc3 : FnScope N3 P3 (defScope S3) := ⟨rfl, rfl, rfl, by decide +kernel, rfl, by decide +kernel, by decide +kernel⟩
theorem ok3 (A : Ax K mg) (ks : Ks P w K mg base (2 * n) C) : FnOk P w K mg base (L2.CX P w) (2 * n + 1 + 1) (He.fAd K D3.at_) (fdE K D3) P3 (spI (tab K) 5 (fnM false 8 5 (M3 C))) := by
  refine fn_ok (T := tab K) A.f3 sc3 rfl rfl fun cdv A0 outer s H E G => ?_
  exact (is_cons (is_set 5 G (i_call ks.k0 (Nat.le_succ _) G A.gf_0 A.b0 .nil .nil (ia_cons (i_var 1) ia_nil)))
    (is_cons (is_set 6 G (i_call ks.k0 (Nat.le_succ _) G A.gf_0 A.b0 .nil .nil (ia_cons (i_var 2) ia_nil)))
    (is_cons (is_set 7 G (i_call ks.k0 (Nat.le_succ _) G A.gf_0 A.b0 .nil .nil (ia_cons (i_var 3) ia_nil)))
    (is_cons (is_if (it_lt (i_var 5) (i_var 6)) (is_one (is_set 5 G (i_var 6))) is_nil)
    (is_cons (is_if (it_lt (i_var 7) (i_var 5)) (is_one (is_set 7 G (i_var 5))) is_nil)
    (is_cons (is_fld 0 0 A.cl_0 A.na_0_held rfl (fl_nd 0) (fl_few 0) (i_var 0) (i_ix (i_glob (v := .ref (He.ga K "LEVELS")) A.m_LEVELS rfl A.k_LEVELS) (i_var 5) G) G)
    (is_cons (is_fld 0 1 A.cl_0 A.na_0_owned rfl (fl_nd 0) (fl_few 0) (i_var 0) (i_ix (i_glob (v := .ref (He.ga K "LEVELS")) A.m_LEVELS rfl A.k_LEVELS) (i_var 6) G) G)
    (is_cons (is_fld 0 2 A.cl_0 A.na_0_seen rfl (fl_nd 0) (fl_few 0) (i_var 0) (i_ix (i_glob (v := .ref (He.ga K "LEVELS")) A.m_LEVELS rfl A.k_LEVELS) (i_var 7) G) G)
    (is_one (is_fld 0 3 A.cl_0 A.na_0_early rfl (fl_nd 0) (fl_few 0) (i_var 0) (i_var 4) G))))))))))
theorem sc4 : FnScope N4 P4 (defScope S4) := ⟨rfl, rfl, rfl, by decide +kernel, rfl, by decide +kernel, by decide +kernel⟩
theorem ok4 (A : Ax K mg) (ks : Ks P w K mg base (2 * n) C) : FnOk P w K mg base (L2.CX P w) (2 * n + 1 + 1) (He.fAd K D4.at_) (fdE K D4) P4 (spI (tab K) 2 (fnM true 2 2 (M4 C))) := by
  refine fn_ok (T := tab K) A.f4 sc4 rfl rfl fun cdv A0 outer s H E G => ?_
  exact (is_one (is_ret (i_tup (ia_cons (i_call ks.k1 (Nat.le_succ _) G A.gf_1 A.b1 .nil .nil (ia_cons (i_fld 0 0 A.cl_0 A.na_0_held rfl (fl_nd 0) (i_var 0)) (ia_cons (i_var 1) ia_nil))) (ia_cons (i_call ks.k1 (Nat.le_succ _) G A.gf_1 A.b1 .nil .nil (ia_cons (i_fld 0 1 A.cl_0 A.na_0_owned rfl (fl_nd 0) (i_var 0)) (ia_cons (i_var 1) ia_nil))) (ia_cons (i_call ks.k1 (Nat.le_succ _) G A.gf_1 A.b1 .nil .nil (ia_cons (i_fld 0 2 A.cl_0 A.na_0_seen rfl (fl_nd 0) (i_var 0)) (ia_cons (i_var 1) ia_nil))) ia_nil))))))
theorem sc5 : FnScope N5 P5 (defScope S5) := ⟨rfl, rfl, rfl, by decide +kernel, rfl, by decide +kernel, by decide +kernel⟩
theorem ok5 (A : Ax K mg) (ks : Ks P w K mg base (2 * n) C) : FnOk P w K mg base (L2.CX P w) (2 * n + 1 + 1) (He.fAd K D5.at_) (fdE K D5) P5 (spI (tab K) 6 (fnM true 9 6 (M5 C))) := by
  refine fn_ok (T := tab K) A.f5 sc5 rfl rfl fun cdv A0 outer s H E G => ?_
  exact (is_cons (is_if (it_w (iw_and (it_tru G (i_fld 0 3 A.cl_0 A.na_0_early rfl (fl_nd 0) (i_var 0))) (iw_and1 (it_tru G (i_var 5))))) (is_one (is_ret i_bl)) is_nil)
    (is_cons (is_asg (i_meth 0 ks.k4 (Nat.le_succ _) G A.cl_0 A.me_0_needs fl_no_0_needs A.b4 .nil .nil (i_var 0) (ia_cons (i_var 4) ia_nil)) (ig_tup G (igs_cons (ig_name 6 G) (igs_cons (ig_name 7 G) (igs_cons (ig_name 8 G) igs_nil)))))
    (is_one (is_ret (i_and (i_ge (i_var 1) (i_var 6)) (i_and (i_ge (i_var 2) (i_var 7)) (i_one (i_ge (i_var 3) (i_var 8)))))))))
theorem sc6 : FnScope N6 P6 (defScope S6) := ⟨rfl, rfl, rfl, by decide +kernel, rfl, by decide +kernel, by decide +kernel⟩
theorem ok6 (A : Ax K mg) (ks : Ks P w K mg base (2 * n) C) : FnOk P w K mg base (L2.CX P w) (2 * n + 1 + 1) (He.fAd K D6.at_) (fdE K D6) P6 (spI (tab K) 2 (fnM true 2 2 (M6 C))) := by
  refine fn_ok (T := tab K) A.f6 sc6 rfl rfl fun cdv A0 outer s H E G => ?_
  exact (is_one (is_ret (i_and (i_isi A.isi G (i_var 1) (i_cls (c := 0) A.gc_0) A.g_isinstance) (i_and (i_eq (i_fld 0 0 A.cl_0 A.na_0_held rfl (fl_nd 0) (i_var 0)) (i_fld 0 0 A.cl_0 A.na_0_held rfl (fl_nd 0) (i_var 1)) G) (i_and (i_eq (i_fld 0 1 A.cl_0 A.na_0_owned rfl (fl_nd 0) (i_var 0)) (i_fld 0 1 A.cl_0 A.na_0_owned rfl (fl_nd 0) (i_var 1)) G) (i_and (i_eq (i_fld 0 2 A.cl_0 A.na_0_seen rfl (fl_nd 0) (i_var 0)) (i_fld 0 2 A.cl_0 A.na_0_seen rfl (fl_nd 0) (i_var 1)) G) (i_one (i_eq (i_fld 0 3 A.cl_0 A.na_0_early rfl (fl_nd 0) (i_var 0)) (i_fld 0 3 A.cl_0 A.na_0_early rfl (fl_nd 0) (i_var 1)) G))))))))
theorem sc7 : FnScope N7 P7 (defScope S7) := ⟨rfl, rfl, rfl, by decide +kernel, rfl, by decide +kernel, by decide +kernel⟩
theorem ok7 (A : Ax K mg) (ks : Ks P w K mg base (2 * n) C) : FnOk P w K mg base (L2.CX P w) (2 * n + 1 + 1) (He.fAd K D7.at_) (fdE K D7) P7 (spI (tab K) 2 (fnM true 2 2 (M7 C))) := by
  refine fn_ok (T := tab K) A.f7 sc7 rfl rfl fun cdv A0 outer s H E G => ?_
  exact (is_cons (is_if (it_not (it_tru G (i_isi A.isi G (i_var 1) (i_cls (c := 0) A.gc_0) A.g_isinstance))) (is_one is_never) is_nil)
    (is_cons (is_if (it_w (iw_and (it_tru G (i_fld 0 3 A.cl_0 A.na_0_early rfl (fl_nd 0) (i_var 1))) (iw_and1 (it_not (it_tru G (i_fld 0 3 A.cl_0 A.na_0_early rfl (fl_nd 0) (i_var 0))))))) (is_one (is_ret i_bl)) is_nil)
    (is_one (is_ret (i_and (i_ge (i_call ks.k0 (Nat.le_succ _) G A.gf_0 A.b0 .nil .nil (ia_cons (i_fld 0 0 A.cl_0 A.na_0_held rfl (fl_nd 0) (i_var 0)) ia_nil)) (i_call ks.k0 (Nat.le_succ _) G A.gf_0 A.b0 .nil .nil (ia_cons (i_fld 0 0 A.cl_0 A.na_0_held rfl (fl_nd 0) (i_var 1)) ia_nil))) (i_and (i_ge (i_call ks.k0 (Nat.le_succ _) G A.gf_0 A.b0 .nil .nil (ia_cons (i_fld 0 1 A.cl_0 A.na_0_owned rfl (fl_nd 0) (i_var 0)) ia_nil)) (i_call ks.k0 (Nat.le_succ _) G A.gf_0 A.b0 .nil .nil (ia_cons (i_fld 0 1 A.cl_0 A.na_0_owned rfl (fl_nd 0) (i_var 1)) ia_nil))) (i_one (i_ge (i_call ks.k0 (Nat.le_succ _) G A.gf_0 A.b0 .nil .nil (ia_cons (i_fld 0 2 A.cl_0 A.na_0_seen rfl (fl_nd 0) (i_var 0)) ia_nil)) (i_call ks.k0 (Nat.le_succ _) G A.gf_0 A.b0 .nil .nil (ia_cons (i_fld 0 2 A.cl_0 A.na_0_seen rfl (fl_nd 0) (i_var 1)) ia_nil))))))))))
theorem sc8 : FnScope N8 P8 (defScope S8) := ⟨rfl, rfl, rfl, by decide +kernel, rfl, by decide +kernel, by decide +kernel⟩
theorem ok8 (A : Ax K mg) (ks : Ks P w K mg base (2 * n) C) : FnOk P w K mg base (L2.CX P w) (2 * n + 1 + 1) (He.fAd K D8.at_) (fdE K D8) P8 (spI (tab K) 2 (fnM true 2 2 (M8 C))) := by
  refine fn_ok (T := tab K) A.f8 sc8 rfl rfl fun cdv A0 outer s H E G => ?_
  exact (is_cons (is_if (it_not (it_tru G (i_isi A.isi G (i_var 1) (i_cls (c := 0) A.gc_0) A.g_isinstance))) (is_one is_never) is_nil)
    (is_one (is_ret (i_and (i_cmpO (op := .LtE) 0 ks.k7 (Nat.le_succ _) G rfl (A.b7) A.sp_0_le A.fn_7 (fun _ _ => rfl) (nomark _) (i_var 0) (i_var 1)) (i_one (i_not (i_cmpO (op := .Eq) 0 ks.k6 (Nat.le_succ _) G rfl (A.b6) A.sp_0_eq A.fn_6 (fun _ _ => rfl) (nomark _) (i_var 0) (i_var 1))))))))
theorem sc9 : FnScope N9 P9 (defScope S9) := ⟨rfl, rfl, rfl, by decide +kernel, rfl, by decide +kernel, by decide +kernel⟩
theorem ok9 (A : Ax K mg) (ks : Ks P w K mg base (2 * n) C) : FnOk P w K mg base (L2.CX P w) (2 * n + 1 + 1) (He.fAd K D9.at_) (fdE K D9) P9 (spI (tab K) 2 (fnM true 3 2 (M9 C))) := by
  refine fn_ok (T := tab K) A.f9 sc9 rfl rfl fun cdv A0 outer s H E G => ?_
  exact (is_cons (is_if (it_not (it_tru G (i_isi A.isi G (i_var 1) (i_cls (c := 0) A.gc_0) A.g_isinstance))) (is_one is_never) is_nil)
    (is_cons (is_set 2 G (i_or (i_fld 0 3 A.cl_0 A.na_0_early rfl (fl_nd 0) (i_var 0)) (i_one (i_fld 0 3 A.cl_0 A.na_0_early rfl (fl_nd 0) (i_var 1)))))
    (is_one (is_ret (i_frz (i_makeK 0 A.mk_0 ks.k3 (Nat.le_refl _) G A.gc_0 (j := 3) A.bk3_4_early (fun _ _ _ => rfl) (fun _ _ _ _ => rfl) (fun _ _ _ => rfl) (gW := fun xs ys => xs ++ ys) (fun _ _ _ _ _ r1 r2 => r1.append r2) (ia_cons (i_call ks.k2 (Nat.le_succ _) G A.gf_2 A.b2 .nil .nil (ia_cons (i_fld 0 0 A.cl_0 A.na_0_held rfl (fl_nd 0) (i_var 0)) (ia_cons (i_fld 0 0 A.cl_0 A.na_0_held rfl (fl_nd 0) (i_var 1)) ia_nil))) (ia_cons (i_call ks.k2 (Nat.le_succ _) G A.gf_2 A.b2 .nil .nil (ia_cons (i_fld 0 1 A.cl_0 A.na_0_owned rfl (fl_nd 0) (i_var 0)) (ia_cons (i_fld 0 1 A.cl_0 A.na_0_owned rfl (fl_nd 0) (i_var 1)) ia_nil))) (ia_cons (i_call ks.k2 (Nat.le_succ _) G A.gf_2 A.b2 .nil .nil (ia_cons (i_fld 0 2 A.cl_0 A.na_0_seen rfl (fl_nd 0) (i_var 0)) (ia_cons (i_fld 0 2 A.cl_0 A.na_0_seen rfl (fl_nd 0) (i_var 1)) ia_nil))) ia_nil))) (ik_cons (i_var 2) ik_nil)))))))
theorem sc10 : FnScope N10 P10 (defScope S10) := ⟨rfl, rfl, rfl, by decide +kernel, rfl, by decide +kernel, by decide +kernel⟩
theorem ok10 (A : Ax K mg) (ks : Ks P w K mg base (2 * n) C) : FnOk P w K mg base (L2.CX P w) (2 * n + 1 + 1) (He.fAd K D10.at_) (fdE K D10) P10 (spI (tab K) 1 (fnM true 6 1 (M10 C))) := by
  refine fn_ok (T := tab K) A.f10 sc10 rfl rfl fun cdv A0 outer s H E G => ?_
  exact (is_cons (is_set 1 G (i_lstC ia_nil))
    (is_cons (is_for G (ii_seq G (i_var 0)) (ig_name 2 G) (is_one (is_if (it_ge (i_var 2) (i_pow i_int i_int)) (is_cons (is_set 3 G (i_int1 (i_var 2) A.g_int))
    (is_one (is_for G (ii_range1 i_int A.g_range) (ig_name 4 G) (is_one (is_if (it_gt (i_var 3) i_int) (is_cons (is_app G (i_var 1) (i_mod (i_int1 (i_var 3) A.g_int) i_int))
    (is_one (is_set 3 G (i_fdiv (i_var 3) i_int)))) is_nil))))) (is_cons (is_set 5 G (i_mod (i_int1 (i_add (i_mul (i_var 2) i_int) i_int G) A.g_int) i_int))
    (is_cons (is_app G (i_var 1) (i_var 5))
    (is_one (is_app G (i_var 1) (i_mod (i_int1 (i_add (i_add (i_mul (i_var 5) (i_var 5)) (i_mul i_int (i_var 5)) G) (i_mul i_int (i_len G (i_var 1) A.g_len)) G) A.g_int) i_int))))))))
    (is_one (is_ret (i_var 1)))))
theorem sc11 : FnScope N11 P11 (defScope S11) := ⟨rfl, rfl, rfl, by decide +kernel, rfl, by decide +kernel, by decide +kernel⟩
theorem ok11 (A : Ax K mg) (ks : Ks P w K mg base (2 * n) C) : FnOk P w K mg base (L2.CX P w) (2 * n + 1 + 1) (He.fAd K D11.at_) (fdE K D11) P11 (spI (tab K) 3 (fnM false 3 3 (M11 C))) := by
  refine fn_ok (T := tab K) A.f11 sc11 rfl rfl fun cdv A0 outer s H E G => ?_
  exact (is_cons (is_asg (i_add (i_ix (i_var 1) i_int G) i_int G) (ig_sub (i_var 1) i_int))
    (is_cons (is_if (it_gt (i_ix (i_var 1) i_int G) (i_len G (i_var 0) A.g_len)) (is_one (is_ret i_int)) is_nil)
    (is_one (is_ret (i_mod (i_int1 (i_ix (i_var 0) (i_sub (i_ix (i_var 1) i_int G) i_int) G) A.g_int) (i_var 2))))))
theorem sc12 : FnScope N12 P12 (defScope S12) := ⟨rfl, rfl, rfl, by decide +kernel, rfl, by decide +kernel, by decide +kernel⟩
theorem ok12 (A : Ax K mg) (ks : Ks P w K mg base (2 * n) C) : FnOk P w K mg base (L2.CX P w) (2 * n + 1 + 1) (He.fAd K D12.at_) (fdE K D12) P12 (spI (tab K) 2 (fnM true 3 2 (M12 C))) := by
  refine fn_ok (T := tab K) A.f12 sc12 rfl rfl fun cdv A0 outer s H E G => ?_
  exact (is_cons (is_if (it_w (iw_or (it_tru G (i_isi A.isi G (i_var 0) (i_bty .bool A.g_bool (by decide +kernel)) A.g_isinstance)) (iw_or1 (it_tru G (i_isi A.isi G (i_var 1) (i_bty .bool A.g_bool (by decide +kernel)) A.g_isinstance))))) (is_one (is_ret (i_and (i_isi A.isi G (i_var 0) (i_bty .bool A.g_bool (by decide +kernel)) A.g_isinstance) (i_and (i_isi A.isi G (i_var 1) (i_bty .bool A.g_bool (by decide +kernel)) A.g_isinstance) (i_one (i_eq (i_var 0) (i_var 1) G)))))) is_nil)
    (is_cons (is_if (it_w (iw_or (it_isN (i_var 0) i_non) (iw_or1 (it_isN (i_var 1) i_non)))) (is_one (is_ret (i_and (i_isN (i_var 0) i_non) (i_one (i_isN (i_var 1) i_non))))) is_nil)
    (is_cons (is_if (it_tru G (i_isi A.isi G (i_var 1) (i_bty .int A.g_int (by decide +kernel)) A.g_isinstance)) (is_one (is_ret (i_and (i_isi A.isi G (i_var 0) (i_bty .int A.g_int (by decide +kernel)) A.g_isinstance) (i_one (i_eq (i_var 0) (i_var 1) G))))) is_nil)
    (is_cons (is_if (it_tru G (i_isi A.isi G (i_var 1) (i_bty .str A.g_str (by decide +kernel)) A.g_isinstance)) (is_one (is_ret (i_and (i_isi A.isi G (i_var 0) (i_bty .str A.g_str (by decide +kernel)) A.g_isinstance) (i_one (i_eq (i_var 0) (i_var 1) G))))) is_nil)
    (is_cons (is_if (it_w (iw_and (it_tru G (i_isi A.isi G (i_var 1) (i_bty .tuple A.g_tuple (by decide +kernel)) A.g_isinstance)) (iw_and1 (it_not (it_tru G (i_isi A.isi G (i_var 0) (i_bty .tuple A.g_tuple (by decide +kernel)) A.g_isinstance)))))) (is_one (is_ret i_bl)) is_nil)
    (is_cons (is_if (it_w (iw_and (it_tru G (i_isi A.isi G (i_var 1) (i_bty .list A.g_list (by decide +kernel)) A.g_isinstance)) (iw_and1 (it_not (it_tru G (i_isi A.isi G (i_var 0) (i_bty .list A.g_list (by decide +kernel)) A.g_isinstance)))))) (is_one (is_ret i_bl)) is_nil)
    (is_cons (is_if (it_ne (i_len G (i_var 0) A.g_len) (i_len G (i_var 1) A.g_len) G) (is_one (is_ret i_bl)) is_nil)
    (is_cons (is_for G (ii_range1 (i_len G (i_var 1) A.g_len) A.g_range) (ig_name 2 G) (is_one (is_if (it_not (it_tru G (i_call ks.k12 (Nat.le_succ _) G A.gf_12 A.b12 .nil .nil (ia_cons (i_ix (i_var 0) (i_var 2) G) (ia_cons (i_ix (i_var 1) (i_var 2) G) ia_nil))))) (is_one (is_ret i_bl)) is_nil)))
    (is_one (is_ret i_bl))))))))))
theorem sc13 : FnScope N13 P13 (defScope S13) := ⟨rfl, rfl, rfl, by decide +kernel, rfl, by decide +kernel, by decide +kernel⟩
theorem ok13 (A : Ax K mg) (ks : Ks P w K mg base (2 * n) C) : FnOk P w K mg base (L2.CX P w) (2 * n + 1 + 1) (He.fAd K D13.at_) (fdE K D13) P13 (spI (tab K) 2 (fnM true 7 2 (M13 C))) := by
  refine fn_ok (T := tab K) A.f13 sc13 rfl rfl fun cdv A0 outer s H E G => ?_
  exact (is_cons (is_set 2 G (i_lst (ia_cons (i_lst (ia_cons i_int (ia_cons i_int (ia_cons i_int (ia_cons i_bl ia_nil))))) (ia_cons (i_lst (ia_cons i_int (ia_cons i_int (ia_cons i_int (ia_cons i_bl ia_nil))))) (ia_cons (i_lst (ia_cons i_int (ia_cons i_int (ia_cons i_int (ia_cons i_bl ia_nil))))) (ia_cons (i_lst (ia_cons i_int (ia_cons i_int (ia_cons i_int (ia_cons i_bl ia_nil))))) (ia_cons (i_lst (ia_cons i_int (ia_cons i_int (ia_cons i_int (ia_cons i_bl ia_nil))))) ia_nil)))))))
    (is_cons (is_set 3 G (i_call ks.k11 (Nat.le_succ _) G A.gf_11 A.b11 .nil .nil (ia_cons (i_var 0) (ia_cons (i_var 1) (ia_cons i_int ia_nil)))))
    (is_cons (is_if (it_lt (i_var 3) i_int) (is_one (is_ret (i_ix (i_var 2) (i_var 3) G))) is_nil)
    (is_cons (is_set 4 G (i_call ks.k11 (Nat.le_succ _) G A.gf_11 A.b11 .nil .nil (ia_cons (i_var 0) (ia_cons (i_var 1) (ia_cons i_int ia_nil)))))
    (is_cons (is_set 5 G (i_add (i_var 4) (i_call ks.k11 (Nat.le_succ _) G A.gf_11 A.b11 .nil .nil (ia_cons (i_var 0) (ia_cons (i_var 1) (ia_cons (i_sub i_int (i_var 4)) ia_nil)))) G))
    (is_cons (is_set 6 G (i_add (i_var 5) (i_call ks.k11 (Nat.le_succ _) G A.gf_11 A.b11 .nil .nil (ia_cons (i_var 0) (ia_cons (i_var 1) (ia_cons (i_sub i_int (i_var 5)) ia_nil)))) G))
    (is_one (is_ret (i_lst (ia_cons (i_var 5) (ia_cons (i_var 4) (ia_cons (i_var 6) (ia_cons (i_eq (i_call ks.k11 (Nat.le_succ _) G A.gf_11 A.b11 .nil .nil (ia_cons (i_var 0) (ia_cons (i_var 1) (ia_cons i_int ia_nil)))) i_int G) ia_nil)))))))))))))
theorem sc14 : FnScope N14 P14 (defScope S14) := ⟨rfl, rfl, rfl, by decide +kernel, rfl, by decide +kernel, by decide +kernel⟩
theorem ok14 (A : Ax K mg) (ks : Ks P w K mg base (2 * n) C) : FnOk P w K mg base (L2.CX P w) (2 * n + 1 + 1) (He.fAd K D14.at_) (fdE K D14) P14 (spI (tab K) 1 (fnM true 2 1 (M14 C))) := by
  refine fn_ok (T := tab K) A.f14 sc14 rfl rfl fun cdv A0 outer s H E G => ?_
  exact (is_cons (is_set 1 G (i_lst (ia_cons i_str (ia_cons i_str (ia_cons i_str (ia_cons i_str ia_nil))))))
    (is_one (is_ret (i_frz (i_makeK 0 A.mk_0 ks.k3 (Nat.le_refl _) G A.gc_0 (j := 3) A.bk3_4_early (fun _ _ _ => rfl) (fun _ _ _ _ => rfl) (fun _ _ _ => rfl) (gW := fun xs ys => xs ++ ys) (fun _ _ _ _ _ r1 r2 => r1.append r2) (ia_cons (i_ix (i_var 1) (i_ix (i_var 0) i_int G) G) (ia_cons (i_ix (i_var 1) (i_ix (i_var 0) i_int G) G) (ia_cons (i_ix (i_var 1) (i_ix (i_var 0) i_int G) G) ia_nil))) (ik_cons (i_ix (i_var 0) i_int G) ik_nil))))))
theorem sc15 : FnScope N15 P15 (defScope S15) := ⟨rfl, rfl, rfl, by decide +kernel, rfl, by decide +kernel, by decide +kernel⟩
theorem ok15 (A : Ax K mg) (ks : Ks P w K mg base (2 * n) C) : FnOk P w K mg base (L2.CX P w) (2 * n + 1 + 1) (He.fAd K D15.at_) (fdE K D15) P15 (spI (tab K) 2 (fnM true 2 2 (M15 C))) := by
  refine fn_ok (T := tab K) A.f15 sc15 rfl rfl fun cdv A0 outer s H E G => ?_
  exact (is_cons (is_if (it_eq (i_var 0) i_int G) (is_one (is_ret (i_add (i_fdiv (i_var 1) i_int) i_int G))) is_nil)
    (is_cons (is_if (it_w (iw_and (it_eq (i_var 0) i_int G) (iw_and1 (it_gt (i_var 1) i_int)))) (is_one (is_ret (i_var 1))) is_nil)
    (is_cons (is_if (it_eq (i_var 0) i_int G) (is_one (is_ret i_int)) is_nil)
    (is_one (is_ret i_int)))))
theorem sc16 : FnScope N16 P16 (defScope S16) := ⟨rfl, rfl, rfl, by decide +kernel, rfl, by decide +kernel, by decide +kernel⟩
theorem ok16 (A : Ax K mg) (ks : Ks P w K mg base (2 * n) C) : FnOk P w K mg base (L2.CX P w) (2 * n + 1 + 1) (He.fAd K D16.at_) (fdE K D16) P16 (spI (tab K) 4 (fnM true 5 4 (M16 C))) := by
  refine fn_ok (T := tab K) A.f16 sc16 rfl rfl fun cdv A0 outer s H E G => ?_
  exact (is_cons (is_if (it_w (iw_and (it_tru G (i_ix (i_var 0) i_int G)) (iw_and1 (it_tru G (i_var 3))))) (is_one (is_ret i_bl)) is_nil)
    (is_cons (is_for G (ii_range1 i_int A.g_range) (ig_name 4 G) (is_one (is_if (it_lt (i_ix (i_var 1) (i_var 4) G) (i_call ks.k15 (Nat.le_succ _) G A.gf_15 A.b15 .nil .nil (ia_cons (i_ix (i_var 0) (i_var 4) G) (ia_cons (i_var 2) ia_nil)))) (is_one (is_ret i_bl)) is_nil)))
    (is_one (is_ret i_bl))))
theorem sc17 : FnScope N17 P17 (defScope S17) := ⟨rfl, rfl, rfl, by decide +kernel, rfl, by decide +kernel, by decide +kernel⟩
theorem ok17 (A : Ax K mg) (ks : Ks P w K mg base (2 * n) C) : FnOk P w K mg base (L2.CX P w) (2 * n + 1 + 1) (He.fAd K D17.at_) (fdE K D17) P17 (spI (tab K) 1 (fnM true 3 1 (M17 C))) := by
  refine fn_ok (T := tab K) A.f17 sc17 rfl rfl fun cdv A0 outer s H E G => ?_
  exact (is_cons (is_set 1 G (i_ix (i_var 0) i_int G))
    (is_cons (is_if (it_lt (i_var 1) (i_ix (i_var 0) i_int G)) (is_one (is_set 1 G (i_ix (i_var 0) i_int G))) is_nil)
    (is_cons (is_set 2 G (i_ix (i_var 0) i_int G))
    (is_cons (is_if (it_lt (i_var 2) (i_var 1)) (is_one (is_set 2 G (i_var 1))) is_nil)
    (is_one (is_ret (i_lst (ia_cons (i_var 1) (ia_cons (i_ix (i_var 0) i_int G) (ia_cons (i_var 2) (ia_cons (i_ix (i_var 0) i_int G) ia_nil)))))))))))
theorem sc18 : FnScope N18 P18 (defScope S18) := ⟨rfl, rfl, rfl, by decide +kernel, rfl, by decide +kernel, by decide +kernel⟩
theorem ok18 (A : Ax K mg) (ks : Ks P w K mg base (2 * n) C) : FnOk P w K mg base (L2.CX P w) (2 * n + 1 + 1) (He.fAd K D18.at_) (fdE K D18) P18 (spI (tab K) 3 (fnM true 5 3 (M18 C))) := by
  refine fn_ok (T := tab K) A.f18 sc18 rfl rfl fun cdv A0 outer s H E G => ?_
  exact (is_cons (is_set 3 G (i_call ks.k11 (Nat.le_succ _) G A.gf_11 A.b11 .nil .nil (ia_cons (i_var 0) (ia_cons (i_var 1) (ia_cons i_int ia_nil)))))
    (is_cons (is_set 4 G (i_lstC (ia_cons (i_ix (i_var 2) i_int G) (ia_cons (i_ix (i_var 2) i_int G) (ia_cons (i_ix (i_var 2) i_int G) (ia_cons (i_ix (i_var 2) i_int G) ia_nil))))))
    (is_cons (is_if (it_lt (i_var 3) i_int) (is_cons (is_asg (i_call ks.k11 (Nat.le_succ _) G A.gf_11 A.b11 .nil .nil (ia_cons (i_var 0) (ia_cons (i_var 1) (ia_cons i_int ia_nil)))) (ig_sub (i_var 4) (i_var 3)))
    (is_one (is_ret (i_call ks.k17 (Nat.le_succ _) G A.gf_17 A.b17 .nil .nil (ia_cons (i_var 4) ia_nil))))) is_nil)
    (is_cons (is_if (it_eq (i_var 3) i_int G) (is_cons (is_asg (i_not (i_ix (i_var 4) i_int G)) (ig_sub (i_var 4) i_int))
    (is_one (is_ret (i_var 4)))) is_nil)
    (is_cons (is_if (it_eq (i_var 3) i_int G) (is_one (is_ret (i_var 4))) is_nil)
    (is_one (is_ret (i_call ks.k13 (Nat.le_succ _) G A.gf_13 A.b13 .nil .nil (ia_cons (i_var 0) (ia_cons (i_var 1) ia_nil))))))))))
theorem sc19 : FnScope N19 P19 (defScope S19) := ⟨rfl, rfl, rfl, by decide +kernel, rfl, by decide +kernel, by decide +kernel⟩
theorem ok19 (A : Ax K mg) (ks : Ks P w K mg base (2 * n) C) : FnOk P w K mg base (L2.CX P w) (2 * n + 1 + 1) (He.fAd K D19.at_) (fdE K D19) P19 (spI (tab K) 2 (fnM true 4 2 (M19 C))) := by
  refine fn_ok (T := tab K) A.f19 sc19 rfl rfl fun cdv A0 outer s H E G => ?_
  exact (is_cons (is_set 2 G (i_lstC (ia_cons (i_ix (i_var 0) i_int G) (ia_cons (i_ix (i_var 0) i_int G) (ia_cons (i_ix (i_var 0) i_int G) (ia_cons (i_or (i_ix (i_var 0) i_int G) (i_one (i_ix (i_var 1) i_int G))) ia_nil))))))
    (is_cons (is_for G (ii_range1 i_int A.g_range) (ig_name 3 G) (is_one (is_if (it_gt (i_ix (i_var 1) (i_var 3) G) (i_ix (i_var 2) (i_var 3) G)) (is_one (is_asg (i_ix (i_var 1) (i_var 3) G) (ig_sub (i_var 2) (i_var 3)))) is_nil)))
    (is_one (is_ret (i_var 2)))))
theorem sc20 : FnScope N20 P20 (defScope S20) := ⟨rfl, rfl, rfl, by decide +kernel, rfl, by decide +kernel, by decide +kernel⟩
theorem ok20 (A : Ax K mg) (ks : Ks P w K mg base (2 * n) C) : FnOk P w K mg base (L2.CX P w) (2 * n + 1 + 1) (He.fAd K D20.at_) (fdE K D20) P20 (spI (tab K) 3 (fnM true 5 3 (M20 C))) := by
  refine fn_ok (T := tab K) A.f20 sc20 rfl rfl fun cdv A0 outer s H E G => ?_
  exact (is_cons (is_if (it_eq (i_call ks.k11 (Nat.le_succ _) G A.gf_11 A.b11 .nil .nil (ia_cons (i_var 0) (ia_cons (i_var 1) (ia_cons i_int ia_nil)))) i_int G) (is_one (is_ret (i_call ks.k13 (Nat.le_succ _) G A.gf_13 A.b13 .nil .nil (ia_cons (i_var 0) (ia_cons (i_var 1) ia_nil))))) is_nil)
    (is_cons (is_set 3 G (i_lstC (ia_cons (i_ix (i_var 2) i_int G) (ia_cons (i_ix (i_var 2) i_int G) (ia_cons (i_ix (i_var 2) i_int G) (ia_cons (i_ix (i_var 2) i_int G) ia_nil))))))
    (is_cons (is_for G (ii_range1 i_int A.g_range) (ig_name 4 G) (is_one (is_if (it_lt (i_ix (i_var 3) (i_var 4) G) i_int) (is_one (is_asg (i_add (i_ix (i_var 3) (i_var 4) G) (i_call ks.k11 (Nat.le_succ _) G A.gf_11 A.b11 .nil .nil (ia_cons (i_var 0) (ia_cons (i_var 1) (ia_cons i_int ia_nil)))) G) (ig_sub (i_var 3) (i_var 4)))) is_nil)))
    (is_cons (is_if (it_eq (i_call ks.k11 (Nat.le_succ _) G A.gf_11 A.b11 .nil .nil (ia_cons (i_var 0) (ia_cons (i_var 1) (ia_cons i_int ia_nil)))) i_int G) (is_one (is_asg (i_not (i_ix (i_var 3) i_int G)) (ig_sub (i_var 3) i_int))) is_nil)
    (is_cons (is_if (it_w (iw_and (it_eq (i_call ks.k11 (Nat.le_succ _) G A.gf_11 A.b11 .nil .nil (ia_cons (i_var 0) (ia_cons (i_var 1) (ia_cons i_int ia_nil)))) i_int G) (iw_and1 (it_gt (i_ix (i_var 3) i_int G) i_int)))) (is_one (is_asg (i_sub (i_ix (i_var 3) i_int G) i_int) (ig_sub (i_var 3) i_int))) is_nil)
    (is_one (is_ret (i_call ks.k17 (Nat.le_succ _) G A.gf_17 A.b17 .nil .nil (ia_cons (i_var 3) ia_nil)))))))))
theorem sc21 : FnScope N21 P21 (defScope S21) := ⟨rfl, rfl, rfl, by decide +kernel, rfl, by decide +kernel, by decide +kernel⟩
theorem ok21 (A : Ax K mg) (ks : Ks P w K mg base (2 * n) C) : FnOk P w K mg base (L2.CX P w) (2 * n + 1 + 1) (He.fAd K D21.at_) (fdE K D21) P21 (spI (tab K) 2 (fnM true 2 2 (M21 C))) := by
  refine fn_ok (T := tab K) A.f21 sc21 rfl rfl fun cdv A0 outer s H E G => ?_
  exact (is_cons (is_if (it_w (iw_and (it_tru G (i_ix (i_var 1) i_int G)) (iw_and1 (it_not (it_tru G (i_ix (i_var 0) i_int G)))))) (is_one (is_ret i_bl)) is_nil)
    (is_one (is_ret (i_and (i_ge (i_ix (i_var 0) i_int G) (i_ix (i_var 1) i_int G)) (i_and (i_ge (i_ix (i_var 0) i_int G) (i_ix (i_var 1) i_int G)) (i_one (i_ge (i_ix (i_var 0) i_int G) (i_ix (i_var 1) i_int G))))))))
theorem sc22 : FnScope N22 P22 (defScope S22) := ⟨rfl, rfl, rfl, by decide +kernel, rfl, by decide +kernel, by decide +kernel⟩
theorem ok22 (A : Ax K mg) (ks : Ks P w K mg base (2 * n) C) : FnOk P w K mg base (L2.CX P w) (2 * n + 1 + 1) (He.fAd K D22.at_) (fdE K D22) P22 (spI (tab K) 1 (fnM true 1 1 (M22 C))) := by
  refine fn_ok (T := tab K) A.f22 sc22 rfl rfl fun cdv A0 outer s H E G => ?_
  exact (is_one (is_ret (i_lst (ia_cons (i_fld 0 0 A.cl_0 A.na_0_held rfl (fl_nd 0) (i_var 0)) (ia_cons (i_fld 0 1 A.cl_0 A.na_0_owned rfl (fl_nd 0) (i_var 0)) (ia_cons (i_fld 0 2 A.cl_0 A.na_0_seen rfl (fl_nd 0) (i_var 0)) (ia_cons (i_fld 0 3 A.cl_0 A.na_0_early rfl (fl_nd 0) (i_var 0)) ia_nil)))))))
theorem sc23 : FnScope N23 P23 (defScope S23) := ⟨rfl, rfl, rfl, by decide +kernel, rfl, by decide +kernel, by decide +kernel⟩
theorem ok23 (A : Ax K mg) (ks : Ks P w K mg base (2 * n) C) : FnOk P w K mg base (L2.CX P w) (2 * n + 1 + 1) (He.fAd K D23.at_) (fdE K D23) P23 (spI (tab K) 1 (fnM true 2 1 (M23 C))) := by
  refine fn_ok (T := tab K) A.f23 sc23 rfl rfl fun cdv A0 outer s H E G => ?_
  exact (is_cons (is_set 1 G (i_lst (ia_cons i_str (ia_cons i_str (ia_cons i_str (ia_cons i_str ia_nil))))))
    (is_one (is_ret (i_lst (ia_cons (i_ix (i_var 1) (i_ix (i_var 0) i_int G) G) (ia_cons (i_ix (i_var 1) (i_ix (i_var 0) i_int G) G) (ia_cons (i_ix (i_var 1) (i_ix (i_var 0) i_int G) G) (ia_cons (i_ix (i_var 0) i_int G) ia_nil))))))))
theorem sc24 : FnScope N24 P24 (defScope S24) := ⟨rfl, rfl, rfl, by decide +kernel, rfl, by decide +kernel, by decide +kernel⟩
theorem ok24 (A : Ax K mg) (ks : Ks P w K mg base (2 * n) C) : FnOk P w K mg base (L2.CX P w) (2 * n + 1 + 1) (He.fAd K D24.at_) (fdE K D24) P24 (spI (tab K) 4 (fnM true 10 4 (M24 C))) := by
  refine fn_ok (T := tab K) A.f24 sc24 rfl rfl fun cdv A0 outer s H E G => ?_
  exact (is_cons (is_for G (ii_range1 (i_add (i_var 3) i_int G) A.g_range) (ig_name 4 G) (is_one (is_for G (ii_range1 (i_add (i_var 4) i_int G) A.g_range) (ig_name 5 G) (is_one (is_for G (ii_range1 (i_add (i_var 5) i_int G) A.g_range) (ig_name 6 G) (is_one (is_for G (ii_seq G (i_lst (ia_cons i_bl (ia_cons i_bl ia_nil)))) (ig_name 7 G) (is_cons (is_set 8 G (i_lst (ia_cons (i_var 5) (ia_cons (i_var 6) (ia_cons (i_var 4) ia_nil)))))
    (is_cons (is_set 9 G (i_and (i_call ks.k16 (Nat.le_succ _) G A.gf_16 A.b16 .nil .nil (ia_cons (i_var 1) (ia_cons (i_var 8) (ia_cons (i_var 3) (ia_cons (i_var 7) ia_nil))))) (i_one (i_call ks.k16 (Nat.le_succ _) G A.gf_16 A.b16 .nil .nil (ia_cons (i_var 2) (ia_cons (i_var 8) (ia_cons (i_var 3) (ia_cons (i_var 7) ia_nil))))))))
    (is_one (is_if (it_not (it_tru G (i_call ks.k12 (Nat.le_succ _) G A.gf_12 A.b12 .nil .nil (ia_cons (i_methK 0 ks.k5 (Nat.le_succ _) G A.cl_0 A.me_0_permits fl_no_0_permits (j := 4) A.bk5_5_loose (i_var 0) (ia_cons (i_var 5) (ia_cons (i_var 6) (ia_cons (i_var 4) (ia_cons (i_var 3) ia_nil)))) (ik_cons (i_var 7) ik_nil)) (ia_cons (i_var 9) ia_nil))))) (is_one (is_ret i_bl)) is_nil)))))))))))
    (is_one (is_ret i_bl)))
theorem sc25 : FnScope N25 P25 (defScope S25) := ⟨rfl, rfl, rfl, by decide +kernel, rfl, by decide +kernel, by decide +kernel⟩
theorem ok25 (A : Ax K mg) (ks : Ks P w K mg base (2 * n) C) : FnOk P w K mg base (L2.CX P w) (2 * n + 1 + 1) (He.fAd K D25.at_) (fdE K D25) P25 (spI (tab K) 1 (fnM true 12 1 (M25 C))) := by
  refine fn_ok (T := tab K) A.f25 sc25 rfl rfl fun cdv A0 outer s H E G => ?_
  exact (is_cons (is_set 1 G (i_call ks.k10 (Nat.le_succ _) G A.gf_10 A.b10 .nil .nil (ia_cons (i_var 0) ia_nil)))
    (is_cons (is_set 2 G (i_lstC (ia_cons i_int ia_nil)))
    (is_cons (is_set 3 G (i_call ks.k13 (Nat.le_succ _) G A.gf_13 A.b13 .nil .nil (ia_cons (i_var 1) (ia_cons (i_var 2) ia_nil))))
    (is_cons (is_set 4 G (i_call ks.k18 (Nat.le_succ _) G A.gf_18 A.b18 .nil .nil (ia_cons (i_var 1) (ia_cons (i_var 2) (ia_cons (i_var 3) ia_nil)))))
    (is_cons (is_set 5 G (i_call ks.k19 (Nat.le_succ _) G A.gf_19 A.b19 .nil .nil (ia_cons (i_var 3) (ia_cons (i_var 4) ia_nil))))
    (is_cons (is_set 6 G (i_call ks.k20 (Nat.le_succ _) G A.gf_20 A.b20 .nil .nil (ia_cons (i_var 1) (ia_cons (i_var 2) (ia_cons (i_var 5) ia_nil)))))
    (is_cons (is_set 7 G (i_call ks.k14 (Nat.le_succ _) G A.gf_14 A.b14 .nil .nil (ia_cons (i_var 3) ia_nil)))
    (is_cons (is_set 8 G (i_call ks.k14 (Nat.le_succ _) G A.gf_14 A.b14 .nil .nil (ia_cons (i_var 4) ia_nil)))
    (is_cons (is_set 9 G (i_call ks.k14 (Nat.le_succ _) G A.gf_14 A.b14 .nil .nil (ia_cons (i_var 6) ia_nil)))
    (is_cons (is_set 10 G (i_opO 0 ks.k9 (Nat.le_succ _) G rfl (A.b9) A.sf_0 A.sp_0_and A.fn_9 (i_var 7) (i_var 8)))
    (is_cons (is_if (it_not (it_tru G (i_call ks.k12 (Nat.le_succ _) G A.gf_12 A.b12 .nil .nil (ia_cons (i_call ks.k22 (Nat.le_succ _) G A.gf_22 A.b22 .nil .nil (ia_cons (i_var 10) ia_nil)) (ia_cons (i_call ks.k23 (Nat.le_succ _) G A.gf_23 A.b23 .nil .nil (ia_cons (i_var 5) ia_nil)) ia_nil))))) (is_one (is_ret i_bl)) is_nil)
    (is_cons (is_for G (ii_range1 i_int A.g_range) (ig_name 11 G) (is_one (is_if (it_not (it_tru G (i_call ks.k24 (Nat.le_succ _) G A.gf_24 A.b24 .nil .nil (ia_cons (i_var 10) (ia_cons (i_var 3) (ia_cons (i_var 4) (ia_cons (i_var 11) ia_nil))))))) (is_one (is_ret i_bl)) is_nil)))
    (is_cons (is_if (it_w (iw_or (it_not (it_tru G (i_call ks.k12 (Nat.le_succ _) G A.gf_12 A.b12 .nil .nil (ia_cons (i_cmpO (op := .LtE) 0 ks.k7 (Nat.le_succ _) G rfl (A.b7) A.sp_0_le A.fn_7 (fun _ _ => rfl) (nomark _) (i_var 10) (i_var 7)) (ia_cons i_bl ia_nil))))) (iw_or1 (it_not (it_tru G (i_call ks.k12 (Nat.le_succ _) G A.gf_12 A.b12 .nil .nil (ia_cons (i_cmpO (op := .LtE) 0 ks.k7 (Nat.le_succ _) G rfl (A.b7) A.sp_0_le A.fn_7 (fun _ _ => rfl) (nomark _) (i_var 10) (i_var 8)) (ia_cons i_bl ia_nil)))))))) (is_one (is_ret i_bl)) is_nil)
    (is_cons (is_if (it_not (it_tru G (i_call ks.k12 (Nat.le_succ _) G A.gf_12 A.b12 .nil .nil (ia_cons (i_cmpO (op := .LtE) 0 ks.k7 (Nat.le_succ _) G rfl (A.b7) A.sp_0_le A.fn_7 (fun _ _ => rfl) (nomark _) (i_var 9) (i_var 10)) (ia_cons (i_and (i_call ks.k21 (Nat.le_succ _) G A.gf_21 A.b21 .nil .nil (ia_cons (i_var 6) (ia_cons (i_var 3) ia_nil))) (i_one (i_call ks.k21 (Nat.le_succ _) G A.gf_21 A.b21 .nil .nil (ia_cons (i_var 6) (ia_cons (i_var 4) ia_nil))))) ia_nil))))) (is_one (is_ret i_bl)) is_nil)
    (is_cons (is_if (it_w (iw_or (it_not (it_tru G (i_call ks.k12 (Nat.le_succ _) G A.gf_12 A.b12 .nil .nil (ia_cons (i_cmpO (op := .LtE) 0 ks.k7 (Nat.le_succ _) G rfl (A.b7) A.sp_0_le A.fn_7 (fun _ _ => rfl) (nomark _) (i_var 9) (i_var 7)) (ia_cons (i_call ks.k21 (Nat.le_succ _) G A.gf_21 A.b21 .nil .nil (ia_cons (i_var 6) (ia_cons (i_var 3) ia_nil))) ia_nil))))) (iw_or1 (it_not (it_tru G (i_call ks.k12 (Nat.le_succ _) G A.gf_12 A.b12 .nil .nil (ia_cons (i_cmpO (op := .LtE) 0 ks.k7 (Nat.le_succ _) G rfl (A.b7) A.sp_0_le A.fn_7 (fun _ _ => rfl) (nomark _) (i_var 9) (i_var 8)) (ia_cons (i_call ks.k21 (Nat.le_succ _) G A.gf_21 A.b21 .nil .nil (ia_cons (i_var 6) (ia_cons (i_var 4) ia_nil))) ia_nil)))))))) (is_one (is_ret i_bl)) is_nil)
    (is_cons (is_if (it_not (it_tru G (i_call ks.k12 (Nat.le_succ _) G A.gf_12 A.b12 .nil .nil (ia_cons (i_cmpO (op := .Eq) 0 ks.k6 (Nat.le_succ _) G rfl (A.b6) A.sp_0_eq A.fn_6 (fun _ _ => rfl) (nomark _) (i_var 9) (i_var 10)) (ia_cons (i_call ks.k12 (Nat.le_succ _) G A.gf_12 A.b12 .nil .nil (ia_cons (i_var 6) (ia_cons (i_var 5) ia_nil))) ia_nil))))) (is_one (is_ret i_bl)) is_nil)
    (is_cons (is_if (it_w (iw_or (it_not (it_tru G (i_call ks.k12 (Nat.le_succ _) G A.gf_12 A.b12 .nil .nil (ia_cons (i_cmpO (op := .Eq) 0 ks.k6 (Nat.le_succ _) G rfl (A.b6) A.sp_0_eq A.fn_6 (fun _ _ => rfl) (nomark _) (i_var 10) (i_opO 0 ks.k9 (Nat.le_succ _) G rfl (A.b9) A.sf_0 A.sp_0_and A.fn_9 (i_var 8) (i_var 7))) (ia_cons i_bl ia_nil))))) (iw_or1 (it_not (it_tru G (i_call ks.k12 (Nat.le_succ _) G A.gf_12 A.b12 .nil .nil (ia_cons (i_cmpO (op := .Eq) 0 ks.k6 (Nat.le_succ _) G rfl (A.b6) A.sp_0_eq A.fn_6 (fun _ _ => rfl) (nomark _) (i_opO 0 ks.k9 (Nat.le_succ _) G rfl (A.b9) A.sf_0 A.sp_0_and A.fn_9 (i_var 7) (i_var 7)) (i_var 7)) (ia_cons i_bl ia_nil)))))))) (is_one (is_ret i_bl)) is_nil)
    (is_cons (is_if (it_w (iw_or (it_not (it_tru G (i_call ks.k12 (Nat.le_succ _) G A.gf_12 A.b12 .nil .nil (ia_cons (i_call ks.k22 (Nat.le_succ _) G A.gf_22 A.b22 .nil .nil (ia_cons (i_opO 0 ks.k9 (Nat.le_succ _) G rfl (A.b9) A.sf_0 A.sp_0_and A.fn_9 (i_var 8) (i_var 7)) ia_nil)) (ia_cons (i_call ks.k23 (Nat.le_succ _) G A.gf_23 A.b23 .nil .nil (ia_cons (i_var 5) ia_nil)) ia_nil))))) (iw_or1 (it_not (it_tru G (i_call ks.k12 (Nat.le_succ _) G A.gf_12 A.b12 .nil .nil (ia_cons (i_call ks.k22 (Nat.le_succ _) G A.gf_22 A.b22 .nil .nil (ia_cons (i_opO 0 ks.k9 (Nat.le_succ _) G rfl (A.b9) A.sf_0 A.sp_0_and A.fn_9 (i_var 7) (i_var 7)) ia_nil)) (ia_cons (i_call ks.k23 (Nat.le_succ _) G A.gf_23 A.b23 .nil .nil (ia_cons (i_var 3) ia_nil)) ia_nil)))))))) (is_one (is_ret i_bl)) is_nil)
    (is_cons (is_if (it_not (it_tru G (i_call ks.k12 (Nat.le_succ _) G A.gf_12 A.b12 .nil .nil (ia_cons (i_call ks.k22 (Nat.le_succ _) G A.gf_22 A.b22 .nil .nil (ia_cons (i_opO 0 ks.k9 (Nat.le_succ _) G rfl (A.b9) A.sf_0 A.sp_0_and A.fn_9 (i_opO 0 ks.k9 (Nat.le_succ _) G rfl (A.b9) A.sf_0 A.sp_0_and A.fn_9 (i_var 8) (i_var 7)) (i_var 9)) ia_nil)) (ia_cons (i_call ks.k23 (Nat.le_succ _) G A.gf_23 A.b23 .nil .nil (ia_cons (i_call ks.k19 (Nat.le_succ _) G A.gf_19 A.b19 .nil .nil (ia_cons (i_var 5) (ia_cons (i_var 6) ia_nil))) ia_nil)) ia_nil))))) (is_one (is_ret i_bl)) is_nil)
    (is_cons (is_if (it_w (iw_or (it_not (it_tru G (i_call ks.k12 (Nat.le_succ _) G A.gf_12 A.b12 .nil .nil (ia_cons (i_call ks.k22 (Nat.le_succ _) G A.gf_22 A.b22 .nil .nil (ia_cons (i_var 9) ia_nil)) (ia_cons (i_call ks.k23 (Nat.le_succ _) G A.gf_23 A.b23 .nil .nil (ia_cons (i_var 6) ia_nil)) ia_nil))))) (iw_or1 (it_not (it_tru G (i_call ks.k12 (Nat.le_succ _) G A.gf_12 A.b12 .nil .nil (ia_cons (i_call ks.k22 (Nat.le_succ _) G A.gf_22 A.b22 .nil .nil (ia_cons (i_var 10) ia_nil)) (ia_cons (i_call ks.k23 (Nat.le_succ _) G A.gf_23 A.b23 .nil .nil (ia_cons (i_var 5) ia_nil)) ia_nil)))))))) (is_one (is_ret i_bl)) is_nil)
    (is_one (is_ret (i_and (i_call ks.k12 (Nat.le_succ _) G A.gf_12 A.b12 .nil .nil (ia_cons (i_call ks.k22 (Nat.le_succ _) G A.gf_22 A.b22 .nil .nil (ia_cons (i_var 7) ia_nil)) (ia_cons (i_call ks.k23 (Nat.le_succ _) G A.gf_23 A.b23 .nil .nil (ia_cons (i_var 3) ia_nil)) ia_nil))) (i_one (i_call ks.k12 (Nat.le_succ _) G A.gf_12 A.b12 .nil .nil (ia_cons (i_call ks.k22 (Nat.le_succ _) G A.gf_22 A.b22 .nil .nil (ia_cons (i_var 8) ia_nil)) (ia_cons (i_call ks.k23 (Nat.le_succ _) G A.gf_23 A.b23 .nil .nil (ia_cons (i_var 4) ia_nil)) ia_nil)))))))))))))))))))))))))))
theorem ks_all (A : Ax K mg) : ∀ n, Ks P w K mg base (2 * n) (call n)
  | 0 => ⟨kn_zero A.f0.kp, kn_zero A.f1.kp, kn_zero A.f2.kp, kn_zero A.f3.kp, kn_zero A.f4.kp, kn_zero A.f5.kp, kn_zero A.f6.kp, kn_zero A.f7.kp, kn_zero A.f8.kp, kn_zero A.f9.kp, kn_zero A.f10.kp, kn_zero A.f11.kp, kn_zero A.f12.kp, kn_zero A.f13.kp, kn_zero A.f14.kp, kn_zero A.f15.kp, kn_zero A.f16.kp, kn_zero A.f17.kp, kn_zero A.f18.kp, kn_zero A.f19.kp, kn_zero A.f20.kp, kn_zero A.f21.kp, kn_zero A.f22.kp, kn_zero A.f23.kp, kn_zero A.f24.kp, kn_zero A.f25.kp⟩
  | n + 1 => ⟨⟨ok0 A (ks_all A n), fnM_arity, A.f0.kp⟩, ⟨ok1 A (ks_all A n), fnM_arity, A.f1.kp⟩, ⟨ok2 A (ks_all A n), fnM_arity, A.f2.kp⟩, ⟨ok3 A (ks_all A n), fnM_arity, A.f3.kp⟩, ⟨ok4 A (ks_all A n), fnM_arity, A.f4.kp⟩, ⟨ok5 A (ks_all A n), fnM_arity, A.f5.kp⟩, ⟨ok6 A (ks_all A n), fnM_arity, A.f6.kp⟩, ⟨ok7 A (ks_all A n), fnM_arity, A.f7.kp⟩, ⟨ok8 A (ks_all A n), fnM_arity, A.f8.kp⟩, ⟨ok9 A (ks_all A n), fnM_arity, A.f9.kp⟩, ⟨ok10 A (ks_all A n), fnM_arity, A.f10.kp⟩, ⟨ok11 A (ks_all A n), fnM_arity, A.f11.kp⟩, ⟨ok12 A (ks_all A n), fnM_arity, A.f12.kp⟩, ⟨ok13 A (ks_all A n), fnM_arity, A.f13.kp⟩, ⟨ok14 A (ks_all A n), fnM_arity, A.f14.kp⟩, ⟨ok15 A (ks_all A n), fnM_arity, A.f15.kp⟩, ⟨ok16 A (ks_all A n), fnM_arity, A.f16.kp⟩, ⟨ok17 A (ks_all A n), fnM_arity, A.f17.kp⟩, ⟨ok18 A (ks_all A n), fnM_arity, A.f18.kp⟩, ⟨ok19 A (ks_all A n), fnM_arity, A.f19.kp⟩, ⟨ok20 A (ks_all A n), fnM_arity, A.f20.kp⟩, ⟨ok21 A (ks_all A n), fnM_arity, A.f21.kp⟩, ⟨ok22 A (ks_all A n), fnM_arity, A.f22.kp⟩, ⟨ok23 A (ks_all A n), fnM_arity, A.f23.kp⟩, ⟨ok24 A (ks_all A n), fnM_arity, A.f24.kp⟩, ⟨ok25 A (ks_all A n), fnM_arity, A.f25.kp⟩⟩
end
theorem ax_of {K : PySem.W.Frag} {mg : Str → Option Value} {h0 : Heap} (X0 : K.In h0) (G0 : h0.Ns mainGlobals mg) (c : FxSays facts fn K) : Ax K mg := by
  have c0 : ((He.Fa.free "bool").ok K) = true := c.fact 0 rfl
  have c1 : ((He.Fa.free "enumerate").ok K) = true := c.fact 1 rfl
  have c2 : ((He.Fa.free "int").ok K) = true := c.fact 2 rfl
  have c3 : ((He.Fa.free "isinstance").ok K) = true := c.fact 3 rfl
  have c4 : ((He.Fa.free "len").ok K) = true := c.fact 4 rfl
  have c5 : ((He.Fa.free "list").ok K) = true := c.fact 5 rfl
  have c6 : ((He.Fa.free "max").ok K) = true := c.fact 6 rfl
  have c7 : ((He.Fa.free "range").ok K) = true := c.fact 7 rfl
  have c8 : ((He.Fa.free "str").ok K) = true := c.fact 8 rfl
  have c9 : ((He.Fa.free "tuple").ok K) = true := c.fact 9 rfl
  have c10 : ((He.Fa.glo "rank").ok K) = true := c.fact 10 rfl
  have c11 : ((He.Fa.glo "needed").ok K) = true := c.fact 11 rfl
  have c12 : ((He.Fa.glo "higher").ok K) = true := c.fact 12 rfl
  have c13 : ((He.Fa.glo "_law_draws").ok K) = true := c.fact 13 rfl
  have c14 : ((He.Fa.glo "_law_take").ok K) = true := c.fact 14 rfl
  have c15 : ((He.Fa.glo "_law_same").ok K) = true := c.fact 15 rfl
  have c16 : ((He.Fa.glo "_law_way").ok K) = true := c.fact 16 rfl
  have c17 : ((He.Fa.glo "_law_way_made").ok K) = true := c.fact 17 rfl
  have c18 : ((He.Fa.glo "_law_number").ok K) = true := c.fact 18 rfl
  have c19 : ((He.Fa.glo "_law_meets").ok K) = true := c.fact 19 rfl
  have c20 : ((He.Fa.glo "_law_adjusted").ok K) = true := c.fact 20 rfl
  have c21 : ((He.Fa.glo "_law_second").ok K) = true := c.fact 21 rfl
  have c22 : ((He.Fa.glo "_law_higher").ok K) = true := c.fact 22 rfl
  have c23 : ((He.Fa.glo "_law_third").ok K) = true := c.fact 23 rfl
  have c24 : ((He.Fa.glo "_law_below").ok K) = true := c.fact 24 rfl
  have c25 : ((He.Fa.glo "_law_fields").ok K) = true := c.fact 25 rfl
  have c26 : ((He.Fa.glo "_law_words").ok K) = true := c.fact 26 rfl
  have c27 : ((He.Fa.glo "_law_permits_both").ok K) = true := c.fact 27 rfl
  have c28 : ((He.Fa.glo "law").ok K) = true := c.fact 28 rfl
  have c29 : ((He.Fa.glo "Way").ok K) = true := c.fact 29 rfl
  have c30 : ((He.Fa.cls "Way").ok K) = true := c.fact 30 rfl
  have c31 : ((He.Fa.noat "Way" "early").ok K) = true := c.fact 31 rfl
  have c32 : ((He.Fa.noat "Way" "held").ok K) = true := c.fact 32 rfl
  have c33 : ((He.Fa.noat "Way" "owned").ok K) = true := c.fact 33 rfl
  have c34 : ((He.Fa.noat "Way" "seen").ok K) = true := c.fact 34 rfl
  have c35 : ((He.Fa.mkr "Way").ok K) = true := c.fact 35 rfl
  have c36 : ((He.Fa.meth "Way" "needs").ok K) = true := c.fact 36 rfl
  have c37 : ((He.Fa.meth "Way" "permits").ok K) = true := c.fact 37 rfl
  have c38 : (He.eqO (PySem.W.findIn K (.ref (He.ga K "Way")) "__and__") (some (some (.ref (He.fAd K D9.at_))))) = true := c.fact 38 rfl
  have c39 : (He.eqO (PySem.W.findIn K (.ref (He.ga K "Way")) "__eq__") (some (some (.ref (He.fAd K D6.at_))))) = true := c.fact 39 rfl
  have c40 : (He.eqO (PySem.W.findIn K (.ref (He.ga K "Way")) "__le__") (some (some (.ref (He.fAd K D7.at_))))) = true := c.fact 40 rfl
  have c41 : (PySem.W.isFn K (.ref (He.fAd K D6.at_))) = true := c.fact 41 rfl
  have c42 : (PySem.W.isFn K (.ref (He.fAd K D7.at_))) = true := c.fact 42 rfl
  have c43 : (PySem.W.isFn K (.ref (He.fAd K D9.at_))) = true := c.fact 43 rfl
  have c44 : (PySem.W.selfFirst K (He.ga K "Way")) = true := c.fact 44 rfl
  have c45 : ((He.Fa.glo "LEVELS").ok K) = true := c.fact 45 rfl
  have c46 : (He.tupB K "LEVELS" [.str "none", .str "one", .str "most", .str "all"]) = true := c.fact 46 rfl
  have c47 : (insB K (He.ga K "Way")) = true := c.fact 47 rfl
  have c48 : (kitL.all fun q => decide (PySem.W.kitOne K (q.1.val (tab K)) (q.2.1.val (tab K)) = some q.2.2)) = true := c.fact 48 rfl
  have e_g_bool : mg "bool" = none := (fun h => He.free_ok X0 G0 h) c0
  have e_g_enumerate : mg "enumerate" = none := (fun h => He.free_ok X0 G0 h) c1
  have e_g_int : mg "int" = none := (fun h => He.free_ok X0 G0 h) c2
  have e_g_isinstance : mg "isinstance" = none := (fun h => He.free_ok X0 G0 h) c3
  have e_g_len : mg "len" = none := (fun h => He.free_ok X0 G0 h) c4
  have e_g_list : mg "list" = none := (fun h => He.free_ok X0 G0 h) c5
  have e_g_max : mg "max" = none := (fun h => He.free_ok X0 G0 h) c6
  have e_g_range : mg "range" = none := (fun h => He.free_ok X0 G0 h) c7
  have e_g_str : mg "str" = none := (fun h => He.free_ok X0 G0 h) c8
  have e_g_tuple : mg "tuple" = none := (fun h => He.free_ok X0 G0 h) c9
  have e_gf_0 : mg "rank" = some (.ref (He.fAd K D0.at_)) := (fun h => He.glo_ok X0 G0 h) c10
  have e_gf_1 : mg "needed" = some (.ref (He.fAd K D1.at_)) := (fun h => He.glo_ok X0 G0 h) c11
  have e_gf_2 : mg "higher" = some (.ref (He.fAd K D2.at_)) := (fun h => He.glo_ok X0 G0 h) c12
  have e_gf_10 : mg "_law_draws" = some (.ref (He.fAd K D10.at_)) := (fun h => He.glo_ok X0 G0 h) c13
  have e_gf_11 : mg "_law_take" = some (.ref (He.fAd K D11.at_)) := (fun h => He.glo_ok X0 G0 h) c14
  have e_gf_12 : mg "_law_same" = some (.ref (He.fAd K D12.at_)) := (fun h => He.glo_ok X0 G0 h) c15
  have e_gf_13 : mg "_law_way" = some (.ref (He.fAd K D13.at_)) := (fun h => He.glo_ok X0 G0 h) c16
  have e_gf_14 : mg "_law_way_made" = some (.ref (He.fAd K D14.at_)) := (fun h => He.glo_ok X0 G0 h) c17
  have e_gf_15 : mg "_law_number" = some (.ref (He.fAd K D15.at_)) := (fun h => He.glo_ok X0 G0 h) c18
  have e_gf_16 : mg "_law_meets" = some (.ref (He.fAd K D16.at_)) := (fun h => He.glo_ok X0 G0 h) c19
  have e_gf_17 : mg "_law_adjusted" = some (.ref (He.fAd K D17.at_)) := (fun h => He.glo_ok X0 G0 h) c20
  have e_gf_18 : mg "_law_second" = some (.ref (He.fAd K D18.at_)) := (fun h => He.glo_ok X0 G0 h) c21
  have e_gf_19 : mg "_law_higher" = some (.ref (He.fAd K D19.at_)) := (fun h => He.glo_ok X0 G0 h) c22
  have e_gf_20 : mg "_law_third" = some (.ref (He.fAd K D20.at_)) := (fun h => He.glo_ok X0 G0 h) c23
  have e_gf_21 : mg "_law_below" = some (.ref (He.fAd K D21.at_)) := (fun h => He.glo_ok X0 G0 h) c24
  have e_gf_22 : mg "_law_fields" = some (.ref (He.fAd K D22.at_)) := (fun h => He.glo_ok X0 G0 h) c25
  have e_gf_23 : mg "_law_words" = some (.ref (He.fAd K D23.at_)) := (fun h => He.glo_ok X0 G0 h) c26
  have e_gf_24 : mg "_law_permits_both" = some (.ref (He.fAd K D24.at_)) := (fun h => He.glo_ok X0 G0 h) c27
  have e_gf_25 : mg "law" = some (.ref (He.fAd K D25.at_)) := (fun h => He.glo_ok X0 G0 h) c28
  have e_gc_0 : mg "Way" = some (.ref ((tab K).ca 0)) := (fun h => He.glo_ok X0 G0 h) c29
  have e_cl_0 : Cls K ((tab K).ca 0) := (fun h => He.cls_ok h) c30
  have e_na_0_early : NoAttr K ((tab K).ca 0) "early" := (fun h => He.noat_ok h) c31
  have e_na_0_held : NoAttr K ((tab K).ca 0) "held" := (fun h => He.noat_ok h) c32
  have e_na_0_owned : NoAttr K ((tab K).ca 0) "owned" := (fun h => He.noat_ok h) c33
  have e_na_0_seen : NoAttr K ((tab K).ca 0) "seen" := (fun h => He.noat_ok h) c34
  have e_mk_0 : Mk K ((tab K).ca 0) (He.fAd K D3.at_) := (fun h => He.mkr_ok h) c35
  have e_me_0_needs : Meth K ((tab K).ca 0) "needs" (He.fAd K D4.at_) := (fun h => He.meth_ok h) c36
  have e_me_0_permits : Meth K ((tab K).ca 0) "permits" (He.fAd K D5.at_) := (fun h => He.meth_ok h) c37
  have e_sp_0_and : PySem.W.findIn K (.ref ((tab K).ca 0)) "__and__" = some (some (.ref (He.fAd K D9.at_))) := (fun h => He.eqO_ok h) c38
  have e_sp_0_eq : PySem.W.findIn K (.ref ((tab K).ca 0)) "__eq__" = some (some (.ref (He.fAd K D6.at_))) := (fun h => He.eqO_ok h) c39
  have e_sp_0_le : PySem.W.findIn K (.ref ((tab K).ca 0)) "__le__" = some (some (.ref (He.fAd K D7.at_))) := (fun h => He.eqO_ok h) c40
  have e_fn_6 : PySem.W.isFn K (.ref (He.fAd K D6.at_)) = true := (fun h => h) c41
  have e_fn_7 : PySem.W.isFn K (.ref (He.fAd K D7.at_)) = true := (fun h => h) c42
  have e_fn_9 : PySem.W.isFn K (.ref (He.fAd K D9.at_)) = true := (fun h => h) c43
  have e_sf_0 : PySem.W.selfFirst K ((tab K).ca 0) = true := (fun h => h) c44
  have e_m_LEVELS : mg "LEVELS" = some (.ref (He.ga K "LEVELS")) := (fun h => He.glo_ok X0 G0 h) c45
  have e_k_LEVELS : KV (tab K) (.tup [(.str "none"), (.str "one"), (.str "most"), (.str "all")]) (.ref (He.ga K "LEVELS")) := (fun h => .tup (ktp_of (He.tupB_ok h _)) (.cons .str (.cons .str (.cons .str (.cons .str .nil))))) c46
  have e_in_0 : InsF (tab K) 0 := (fun h => insB_ok (e_cl_0) h) c47
  have e_kit : ∀ q ∈ kitL, PySem.W.kitOne K (q.1.val (tab K)) (q.2.1.val (tab K)) = some q.2.2 := (fun h => fun q hq => of_decide_eq_true (List.all_eq_true.mp h q hq)) c48
  exact ⟨e_g_bool, e_g_enumerate, e_g_int, e_g_isinstance, e_g_len, e_g_list, e_g_max, e_g_range, e_g_str, e_g_tuple, e_gf_0, e_gf_1, e_gf_2, e_gf_10, e_gf_11, e_gf_12, e_gf_13, e_gf_14, e_gf_15, e_gf_16, e_gf_17, e_gf_18, e_gf_19, e_gf_20, e_gf_21, e_gf_22, e_gf_23, e_gf_24, e_gf_25, e_gc_0, e_cl_0, e_na_0_early, e_na_0_held, e_na_0_owned, e_na_0_seen, e_mk_0, e_me_0_needs, e_me_0_permits, e_sp_0_and, e_sp_0_eq, e_sp_0_le, e_fn_6, e_fn_7, e_fn_9, e_sf_0, e_m_LEVELS, e_k_LEVELS, e_in_0, e_kit, fdOf_ok (c.def_ 0 rfl), fdOf_ok (c.def_ 1 rfl), fdOf_ok (c.def_ 2 rfl), fdOf_ok (c.def_ 3 rfl), fdOf_ok (c.def_ 4 rfl), fdOf_ok (c.def_ 5 rfl), fdOf_ok (c.def_ 6 rfl), fdOf_ok (c.def_ 7 rfl), fdOf_ok (c.def_ 8 rfl), fdOf_ok (c.def_ 9 rfl), fdOf_ok (c.def_ 10 rfl), fdOf_ok (c.def_ 11 rfl), fdOf_ok (c.def_ 12 rfl), fdOf_ok (c.def_ 13 rfl), fdOf_ok (c.def_ 14 rfl), fdOf_ok (c.def_ 15 rfl), fdOf_ok (c.def_ 16 rfl), fdOf_ok (c.def_ 17 rfl), fdOf_ok (c.def_ 18 rfl), fdOf_ok (c.def_ 19 rfl), fdOf_ok (c.def_ 20 rfl), fdOf_ok (c.def_ 21 rfl), fdOf_ok (c.def_ 22 rfl), fdOf_ok (c.def_ 23 rfl), fdOf_ok (c.def_ 24 rfl), fdOf_ok (c.def_ 25 rfl)⟩
def loose : List Str := (["_wall", "WebError", "BadLevel", "BadText", "LEVELS", "rank", "needed", "higher", "lesser", "Way", "way_of", "_law_draws", "_law_take", "_law_same", "_law_way", "_law_way_made", "_law_number", "_law_meets", "_law_adjusted", "_law_second", "_law_higher", "_law_third", "_law_below", "_law_fields", "_law_words", "_law_permits_both"] : List Str)
abbrev R : PySem.W.OpenRow := PySem.W.OpenLaw.row PySem.Challenge.rw_finerlocks_k05_whole_way_meet
abbrev hk : PySem.W.Hook := hookX 5 facts fn
def ob (s : PySem.W.SharedT) : He.AlD := obsXG 5 facts fn (HandSHeadRun.getT s)
theorem ob_eq (s : PySem.W.SharedT) : ob s = hk.obs s.abs := obsXG_eq (HandSHeadRun.getT_eq s)
theorem run (w : World) : HandSHeadRun.RunEq R (PySem.W.view R.prog [30]) hk ob 2400 loose w := by
  intro os
  kernel_rfl
theorem facts_of {w : World} {K : PySem.W.Frag} {h0 : Heap} {mg : Str → Option Value} {f : Addr} (X0 : K.In h0) (G0 : h0.Ns mainGlobals mg) (hfa : mg ("law" : Str) = some (.ref f)) (c : FxSays facts fn K) :
    ∃ fd : FuncData, (∀ (s : Shared) (v : Value), BindsTo s fd ⟨[v], []⟩ [("script", v)]) ∧ ∀ base : Heap, K.In base → base.Ns mainGlobals mg → FnOk R.prog w K mg base (L2.CX R.prog w) (2 * 12) f fd ["script"] (spI (tab K) 1 (call 12 25)) := by
  have A := ax_of X0 G0 c
  have e := hfa.symm.trans A.gf_25
  cases e
  exact ⟨_, fun s v => A.f25.bindsA (ps := ["script"]) (fun _ _ _ _ _ _ us hl => match us, hl with | [_], _ => rfl) s [v] rfl, fun base _ _ => (ks_all A 12).k25.ok⟩
end K05
open PySem PySem.W PySem.Calls PyProof.Rows
theorem K05.holds_of (hv : ∀ ns : List Int, ns.length ≤ 63 → ∃ h, K05.call 12 25 [.scr (ns.map .int)] [] = .ok (.bl true) h) : PySem.Challenge.rw_finerlocks_k05_whole_way_meet.Holds := by
  w_on; o_law
  refine HandSHeadRun.head_any (r := OpenLaw.row PySem.Challenge.rw_finerlocks_k05_whole_way_meet) (q := view (OpenLaw.row PySem.Challenge.rw_finerlocks_k05_whole_way_meet).prog [30]) (H := K05.hk) (ob := K05.ob) (M := 2400) (loose := K05.loose) (d := HandSHeadRun.topDef (OpenLaw.row PySem.Challenge.rw_finerlocks_k05_whole_way_meet).prog 30) (kwd := []) K05.ob_eq
    (by kernel_rfl) (fun s => by kernel_rfl) K05.run (by kernel_rfl) (by kernel_rfl) (by kernel_rfl) (by rfl) (by first | assumption | decide +kernel) (by decide +kernel) ⟨rfl, rfl, rfl, rfl, rfl, by decide +kernel⟩ ?hw ?hc
  case hw => w_witness2
  case hc =>
    refine L2.walk_ofE (l := PySem.Challenge.rw_finerlocks_k05_whole_way_meet) (n := 63) (k := 2 * 12) (x := "script") (CX := Fz.CXe (PySem.Challenge.rw_finerlocks_k05_whole_way_meet).prog) rfl (by decide) (by kernel_rfl) ⟨rfl, by decide, by decide⟩ ?F (fun _ _ _ _ z => Fz.cxe_no z)
    intro w mg fa h Y G hmg0
    obtain ⟨K, KX, c⟩ := Y
    have hmg : mg ("law" : PySem.Str) = some (.ref fa) := by
      have e : (HandSHeadRun.topDef (OpenLaw.row PySem.Challenge.rw_finerlocks_k05_whole_way_meet).prog 30).name = ("law" : PySem.Str) := by kernel_rfl
      rw [← e]
      exact hmg0
    obtain ⟨fd, hb, hF⟩ := K05.facts_of (w := w) KX G hmg c
    exact ⟨K, fd, _, KX, hb, fun H a ns hl _ hS => Fz.law_sp hv hl hS, fun base h1 h2 => Fz.fn_cx (hF base h1 h2) fun _ _ _ _ _ _ z => ⟨w, z⟩⟩


namespace K05
open PySem PySem.Spec PyProof.Rows L2 Fz
theorem take_ok {n : Nat} {ds : List Int} {k j : Nat} {size : Int} {h : List Cell} (hj : h[j]? = some (.lst [.int (k : Int)])) (hs : 0 < size) :
    call (n + 1) 11 [.lst (ds.map .int), .loc j, .int size] h = .ok (.int (drw ds k size)) (h.set j (.lst [.int ((k : Int) + 1)])) := Fz.take_ok hj hs
theorem draws_ok (n : Nat) {ns : List Int} (hn : ns.length ≤ 63) : ∃ ds : List Int, call (n + 1) 10 [.scr (ns.map .int)] [] = .ok (.lst (ds.map .int)) [] := Fz.draws_ok hn
/-- a way as the law holds it -/
structure Wy where
  h : Int
  o : Int
  s : Int
  e : Bool
deriving DecidableEq
def wl (w : Wy) : W := .lst [.int w.h, .int w.o, .int w.s, .bl w.e]
def OkW (w : Wy) : Prop := 0 ≤ w.o ∧ w.o ≤ w.h ∧ w.h ≤ w.s ∧ w.s ≤ 3
def four : List Int := [0, 1, 2, 3]
def ways : List Wy := four.flatMap fun o => four.flatMap fun h => four.flatMap fun s => if o ≤ h ∧ h ≤ s then [⟨h, o, s, false⟩, ⟨h, o, s, true⟩] else []
theorem mem_ways {w : Wy} (hw : OkW w) : w ∈ ways := by
  obtain ⟨h, o, s, e⟩ := w
  obtain ⟨h1, h2, h3, h4⟩ := hw
  dsimp only at h1 h2 h3 h4
  have c1 : o = 0 ∨ o = 1 ∨ o = 2 ∨ o = 3 := by omega
  have c2 : h = 0 ∨ h = 1 ∨ h = 2 ∨ h = 3 := by omega
  have c3 : s = 0 ∨ s = 1 ∨ s = 2 ∨ s = 3 := by omega
  rcases c1 with rfl | rfl | rfl | rfl <;> rcases c2 with rfl | rfl | rfl | rfl <;> first | (exfalso; omega) | (rcases c3 with rfl | rfl | rfl | rfl <;> first | (exfalso; omega) | (cases e <;> decide))
/-- the cell of the cursor -/
abbrev cur (k : Nat) : List Cell := [.lst [.int (k : Int)]]
theorem take0 {n : Nat} {ds : List Int} {k : Nat} {size : Int} (hs : 0 < size) :
    call (n + 1) 11 [.lst (ds.map .int), .loc 0, .int size] (cur k) = .ok (.int (drw ds k size)) (cur (k + 1)) := by
  rw [take_ok (k := k) rfl hs]
  rfl
theorem way_ok {n : Nat} {ds : List Int} {k : Nat} : ∃ w k', OkW w ∧ call (n + 2) 13 [.lst (ds.map .int), .loc 0] (cur k) = .ok (wl w) (cur k') := by
  have a1 := drw_nn (ds := ds) (k := k) (size := 9) (by decide)
  have a2 := drw_lt (ds := ds) (k := k) (size := 9) (by decide)
  have b1 := drw_nn (ds := ds) (k := k + 1) (size := 4) (by decide)
  have b2 := drw_lt (ds := ds) (k := k + 1) (size := 4) (by decide)
  have t1 := take0 (n := n) (ds := ds) (k := k) (size := 9) (by decide)
  have t2 := take0 (n := n) (ds := ds) (k := k + 1) (size := 4) (by decide)
  generalize drw ds k 9 = r1 at *
  generalize drw ds (k + 1) 4 = r2 at *
  have t3 := take0 (n := n) (ds := ds) (k := k + 1 + 1) (size := 4 - r2) (by omega)
  have c1 := drw_nn (ds := ds) (k := k + 1 + 1) (size := 4 - r2) (by omega)
  have c2 := drw_lt (ds := ds) (k := k + 1 + 1) (size := 4 - r2) (by omega)
  generalize drw ds (k + 1 + 1) (4 - r2) = r3 at *
  have t4 := take0 (n := n) (ds := ds) (k := k + 1 + 1 + 1) (size := 4 - (r2 + r3)) (by omega)
  have d1 := drw_nn (ds := ds) (k := k + 1 + 1 + 1) (size := 4 - (r2 + r3)) (by omega)
  have d2 := drw_lt (ds := ds) (k := k + 1 + 1 + 1) (size := 4 - (r2 + r3)) (by omega)
  generalize drw ds (k + 1 + 1 + 1) (4 - (r2 + r3)) = r4 at *
  have t5 := take0 (n := n) (ds := ds) (k := k + 1 + 1 + 1 + 1) (size := 2) (by decide)
  generalize drw ds (k + 1 + 1 + 1 + 1) 2 = r5 at *
  have go : ∀ {w : Wy} {k' : Nat} , M13 (call (n + 1)) [some (.lst (ds.map .int)), some (.loc 0), none, none, none, none, none] (cur k) = .rt (wl w) (cur k') → call (n + 2) 13 [.lst (ds.map .int), .loc 0] (cur k) = .ok (wl w) (cur k') := fun {w k'} e => fnM_same rfl e rfl fun _ => frz_lst rfl
  by_cases q : r1 < 5
  · have : r1 = 0 ∨ r1 = 1 ∨ r1 = 2 ∨ r1 = 3 ∨ r1 = 4 := by omega
    rcases this with rfl | rfl | rfl | rfl | rfl
    · refine ⟨⟨1, 1, 1, false⟩, k + 1, by unfold OkW; decide, go ?_⟩
      unfold M13
      simp [t1]
      rfl
    · refine ⟨⟨2, 2, 2, false⟩, k + 1, by unfold OkW; decide, go ?_⟩
      unfold M13
      simp [t1]
      rfl
    · refine ⟨⟨1, 1, 3, false⟩, k + 1, by unfold OkW; decide, go ?_⟩
      unfold M13
      simp [t1]
      rfl
    · refine ⟨⟨0, 0, 0, true⟩, k + 1, by unfold OkW; decide, go ?_⟩
      unfold M13
      simp [t1]
      rfl
    · refine ⟨⟨1, 0, 1, false⟩, k + 1, by unfold OkW; decide, go ?_⟩
      unfold M13
      simp [t1]
      rfl
  · refine ⟨⟨r2 + r3, r2, r2 + r3 + r4, decide (r5 = 1)⟩, k + 5, by unfold OkW; dsimp only; omega, go ?_⟩
    unfold M13
    simp [t1, t2, t3, t4, t5, q]
    rfl

theorem ap_notv {a : ME} {ρ : EnvW} {h : List Cell} : mNotV a ρ h = (a ρ h).bind fun x h1 => match x with
  | .bl b => .ok (.bl (!b)) h1
  | _ => .bad := rfl
abbrev cur2 (k : Nat) (c : Cell) : List Cell := [.lst [.int (k : Int)], c]
theorem take2 {n : Nat} {c : Cell} {ds : List Int} {k : Nat} {size : Int} (hs : 0 < size) :
    call (n + 1) 11 [.lst (ds.map .int), .loc 0, .int size] (cur2 k c) = .ok (.int (drw ds k size)) (cur2 (k + 1) c) := by
  rw [take_ok (k := k) rfl hs]
  rfl
theorem way_ok2 {n : Nat} {c : Cell} {ds : List Int} {k : Nat} : ∃ w k', OkW w ∧ call (n + 2) 13 [.lst (ds.map .int), .loc 0] (cur2 k c) = .ok (wl w) (cur2 k' c) := by
  have a1 := drw_nn (ds := ds) (k := k) (size := 9) (by decide)
  have a2 := drw_lt (ds := ds) (k := k) (size := 9) (by decide)
  have b1 := drw_nn (ds := ds) (k := k + 1) (size := 4) (by decide)
  have b2 := drw_lt (ds := ds) (k := k + 1) (size := 4) (by decide)
  have t1 := take2 (n := n) (c := c) (ds := ds) (k := k) (size := 9) (by decide)
  have t2 := take2 (n := n) (c := c) (ds := ds) (k := k + 1) (size := 4) (by decide)
  generalize drw ds k 9 = r1 at *
  generalize drw ds (k + 1) 4 = r2 at *
  have t3 := take2 (n := n) (c := c) (ds := ds) (k := k + 1 + 1) (size := 4 - r2) (by omega)
  have c1 := drw_nn (ds := ds) (k := k + 1 + 1) (size := 4 - r2) (by omega)
  have c2 := drw_lt (ds := ds) (k := k + 1 + 1) (size := 4 - r2) (by omega)
  generalize drw ds (k + 1 + 1) (4 - r2) = r3 at *
  have t4 := take2 (n := n) (c := c) (ds := ds) (k := k + 1 + 1 + 1) (size := 4 - (r2 + r3)) (by omega)
  have d1 := drw_nn (ds := ds) (k := k + 1 + 1 + 1) (size := 4 - (r2 + r3)) (by omega)
  have d2 := drw_lt (ds := ds) (k := k + 1 + 1 + 1) (size := 4 - (r2 + r3)) (by omega)
  generalize drw ds (k + 1 + 1 + 1) (4 - (r2 + r3)) = r4 at *
  have t5 := take2 (n := n) (c := c) (ds := ds) (k := k + 1 + 1 + 1 + 1) (size := 2) (by decide)
  generalize drw ds (k + 1 + 1 + 1 + 1) 2 = r5 at *
  have go : ∀ {w : Wy} {k' : Nat} , M13 (call (n + 1)) [some (.lst (ds.map .int)), some (.loc 0), none, none, none, none, none] (cur2 k c) = .rt (wl w) (cur2 k' c) → call (n + 2) 13 [.lst (ds.map .int), .loc 0] (cur2 k c) = .ok (wl w) (cur2 k' c) := fun {w k'} e => fnM_same rfl e rfl fun _ => frz_lst rfl
  by_cases q : r1 < 5
  · have : r1 = 0 ∨ r1 = 1 ∨ r1 = 2 ∨ r1 = 3 ∨ r1 = 4 := by omega
    rcases this with rfl | rfl | rfl | rfl | rfl
    · refine ⟨⟨1, 1, 1, false⟩, k + 1, by unfold OkW; decide, go ?_⟩
      unfold M13
      simp [t1]
      rfl
    · refine ⟨⟨2, 2, 2, false⟩, k + 1, by unfold OkW; decide, go ?_⟩
      unfold M13
      simp [t1]
      rfl
    · refine ⟨⟨1, 1, 3, false⟩, k + 1, by unfold OkW; decide, go ?_⟩
      unfold M13
      simp [t1]
      rfl
    · refine ⟨⟨0, 0, 0, true⟩, k + 1, by unfold OkW; decide, go ?_⟩
      unfold M13
      simp [t1]
      rfl
    · refine ⟨⟨1, 0, 1, false⟩, k + 1, by unfold OkW; decide, go ?_⟩
      unfold M13
      simp [t1]
      rfl
  · refine ⟨⟨r2 + r3, r2, r2 + r3 + r4, decide (r5 = 1)⟩, k + 5, by unfold OkW; dsimp only; omega, go ?_⟩
    unfold M13
    simp [t1, t2, t3, t4, t5, q]
    rfl

/-- the second way: one number changed, or drawn anew -/
theorem adj_ok {n : Nat} {h o s : Int} {e : Bool} {c : Cell} : call (n + 1) 17 [.loc 1] [c, .lst [.int h, .int o, .int s, .bl e]] =
    .ok (.lst [.int (if h < o then o else h), .int o, .int (if s < (if h < o then o else h) then (if h < o then o else h) else s), .bl e]) [c, .lst [.int h, .int o, .int s, .bl e]] := by
  refine fnM_same (h' := [c, .lst [.int h, .int o, .int s, .bl e]]) rfl ?_ rfl fun _ => frz_lst rfl
  show M17 (call n) [some (.loc 1), none, none] _ = _
  unfold M17
  have ix : ∀ i, fIx (.loc 1) (.int i) [c, .lst [.int h, .int o, .int s, .bl e]] = atI [.int h, .int o, .int s, .bl e] i := fun i => rfl
  have a0 : atI [W.int h, .int o, .int s, .bl e] 0 = some (.int h) := rfl
  have a1 : atI [W.int h, .int o, .int s, .bl e] 1 = some (.int o) := rfl
  have a2 : atI [W.int h, .int o, .int s, .bl e] 2 = some (.int s) := rfl
  have a3 : atI [W.int h, .int o, .int s, .bl e] 3 = some (.bl e) := rfl
  have sz : 4 ≤ sizeLine := by decide
  by_cases q1 : h < o
  · by_cases q2 : s < o
    · simp [ix, a0, a1, a2, a3, q1, q2, sz]
    · simp [ix, a0, a1, a2, a3, q1, q2, sz]
  · by_cases q2 : s < h
    · simp [ix, a0, a1, a2, a3, q1, q2, sz]
    · simp [ix, a0, a1, a2, a3, q1, q2, sz]
theorem second_ok {n : Nat} {ds : List Int} {k : Nat} {w : Wy} (hw : OkW w) : ∃ w' k', OkW w' ∧ call (n + 3) 18 [.lst (ds.map .int), .loc 0, wl w] (cur k) = .ok (wl w') (cur k') := by
  have a1 := drw_nn (ds := ds) (k := k) (size := 8) (by decide)
  have a2 := drw_lt (ds := ds) (k := k) (size := 8) (by decide)
  have b1 := drw_nn (ds := ds) (k := k + 1) (size := 4) (by decide)
  have b2 := drw_lt (ds := ds) (k := k + 1) (size := 4) (by decide)
  have t1 := take0 (n := n + 1) (ds := ds) (k := k) (size := 8) (by decide)
  have t2 : ∀ c, call (n + 2) 11 [.lst (ds.map .int), .loc 0, .int 4] [.lst [.int ((k : Int) + 1)], c] = .ok (.int (drw ds (k + 1) 4)) [.lst [.int ((k : Int) + 1 + 1)], c] := fun c => take_ok (n := n + 1) (ds := ds) (k := k + 1) (j := 0) (size := 4) (h := [.lst [.int ((k + 1 : Nat) : Int)], c]) rfl (by decide)
  generalize drw ds k 8 = r1 at *
  generalize drw ds (k + 1) 4 = r2 at *
  obtain ⟨h, o, s, e⟩ := w
  obtain ⟨h1, h2, h3, h4⟩ := hw
  dsimp only at h1 h2 h3 h4
  have sz : 4 ≤ sizeLine := by decide
  have f0 : ∀ z, fIx (wl ⟨h, o, s, e⟩) (.int 0) z = some (.int h) := fun _ => rfl
  have f1 : ∀ z, fIx (wl ⟨h, o, s, e⟩) (.int 1) z = some (.int o) := fun _ => rfl
  have f2 : ∀ z, fIx (wl ⟨h, o, s, e⟩) (.int 2) z = some (.int s) := fun _ => rfl
  have f3 : ∀ z, fIx (wl ⟨h, o, s, e⟩) (.int 3) z = some (.bl e) := fun _ => rfl
  have ar : ∀ {h o s : Int} {e : Bool} {c : Cell}, call (n + 2) 17 [.loc 1] [c, .lst [.int h, .int o, .int s, .bl e]] = _ := fun {h o s e c} => adj_ok (n := n + 1) (h := h) (o := o) (s := s) (e := e) (c := c)
  have go : ∀ {x : W} {l : List W} {k' : Nat} {w' : Wy}, M18 (call (n + 2)) [some (.lst (ds.map .int)), some (.loc 0), some (wl ⟨h, o, s, e⟩), none, none] (cur k) = .rt x [.lst [.int (k' : Int)], .lst l] → frzW 8 x [.lst [.int (k' : Int)], .lst l] = some (wl w', [.lst [.int (k' : Int)], .dead]) ∨ frzW 8 x [.lst [.int (k' : Int)], .lst l] = some (wl w', [.lst [.int (k' : Int)], .lst l]) → call (n + 3) 18 [.lst (ds.map .int), .loc 0, wl ⟨h, o, s, e⟩] (cur k) = .ok (wl w') (cur k') := by
    intro x l k' w' e1 e2
    have e3 : fnB 5 3 (M18 (call (n + 2))) [.lst (ds.map .int), .loc 0, wl ⟨h, o, s, e⟩] (cur k) = .ok x [.lst [.int (k' : Int)], .lst l] := by
      show (M18 (call (n + 2)) [some (.lst (ds.map .int)), some (.loc 0), some (wl ⟨h, o, s, e⟩), none, none] (cur k)).toR = _
      rw [e1]
      rfl
    show fnM true 5 3 (M18 (call (n + 2))) _ _ = _
    unfold fnM
    rw [if_pos rfl, e3]
    unfold frzR
    rw [bind_ok]
    rcases e2 with e2 | e2
    · rw [e2]
      rfl
    · rw [e2]
      rfl
  have ix : ∀ i z, fIx (.loc 1) (.int i) [z, .lst [.int h, .int o, .int s, .bl e]] = atI [.int h, .int o, .int s, .bl e] i := fun i z => rfl
  have ix3 : atI [W.int h, .int o, .int s, .bl e] 3 = some (.bl e) := rfl
  by_cases q : r1 < 3
  · have : r1 = 0 ∨ r1 = 1 ∨ r1 = 2 := by omega
    rcases this with rfl | rfl | rfl
    · refine ⟨⟨if r2 < o then o else r2, o, if s < (if r2 < o then o else r2) then (if r2 < o then o else r2) else s, e⟩, k + 2, ?_, go (l := [.int r2, .int o, .int s, .bl e]) ?_ (.inr (frz_lst rfl))⟩
      · unfold OkW
        dsimp only
        split <;> split <;> omega
      have g : ∀ z, mGSub (mVar 4) (mVar 3) (.int r2) [z, some (.loc 0), some (wl ⟨h, o, s, e⟩), some (.int 0), some (.loc 1)] [.lst [.int ((k : Int) + 1 + 1)], .lst [.int h, .int o, .int s, .bl e]] = .nx [z, some (.loc 0), some (wl ⟨h, o, s, e⟩), some (.int 0), some (.loc 1)] [.lst [.int ((k : Int) + 1 + 1)], .lst [.int r2, .int o, .int s, .bl e]] := fun z => mGSub_loc (j := 1) (l := [.int h, .int o, .int s, .bl e]) (t := 0) rfl rfl rfl rfl
      unfold M18
      simp [t1, sz, f0, f1, f2, f3, t2, g, ar]
      rfl
    · refine ⟨⟨if h < r2 then r2 else h, r2, if s < (if h < r2 then r2 else h) then (if h < r2 then r2 else h) else s, e⟩, k + 2, ?_, go (l := [.int h, .int r2, .int s, .bl e]) ?_ (.inr (frz_lst rfl))⟩
      · unfold OkW
        dsimp only
        split <;> split <;> omega
      have g : ∀ z, mGSub (mVar 4) (mVar 3) (.int r2) [z, some (.loc 0), some (wl ⟨h, o, s, e⟩), some (.int 1), some (.loc 1)] [.lst [.int ((k : Int) + 1 + 1)], .lst [.int h, .int o, .int s, .bl e]] = .nx [z, some (.loc 0), some (wl ⟨h, o, s, e⟩), some (.int 1), some (.loc 1)] [.lst [.int ((k : Int) + 1 + 1)], .lst [.int h, .int r2, .int s, .bl e]] := fun z => mGSub_loc (j := 1) (l := [.int h, .int o, .int s, .bl e]) (t := 1) rfl rfl rfl rfl
      unfold M18
      simp [t1, sz, f0, f1, f2, f3, t2, g, ar]
      rfl
    · refine ⟨⟨if h < o then o else h, o, if r2 < (if h < o then o else h) then (if h < o then o else h) else r2, e⟩, k + 2, ?_, go (l := [.int h, .int o, .int r2, .bl e]) ?_ (.inr (frz_lst rfl))⟩
      · unfold OkW
        dsimp only
        split <;> split <;> omega
      have g : ∀ z, mGSub (mVar 4) (mVar 3) (.int r2) [z, some (.loc 0), some (wl ⟨h, o, s, e⟩), some (.int 2), some (.loc 1)] [.lst [.int ((k : Int) + 1 + 1)], .lst [.int h, .int o, .int s, .bl e]] = .nx [z, some (.loc 0), some (wl ⟨h, o, s, e⟩), some (.int 2), some (.loc 1)] [.lst [.int ((k : Int) + 1 + 1)], .lst [.int h, .int o, .int r2, .bl e]] := fun z => mGSub_loc (j := 1) (l := [.int h, .int o, .int s, .bl e]) (t := 2) rfl rfl rfl rfl
      unfold M18
      simp [t1, sz, f0, f1, f2, f3, t2, g, ar]
      rfl
  · by_cases q3 : r1 = 3
    · subst q3
      refine ⟨⟨h, o, s, !e⟩, k + 1, ⟨h1, h2, h3, h4⟩, go (x := .loc 1) (l := [.int h, .int o, .int s, .bl !e]) ?_ (.inl rfl)⟩
      have g : ∀ z, mGSub (mVar 4) (mC (.int 3)) (.bl !e) [z, some (.loc 0), some (wl ⟨h, o, s, e⟩), some (.int 3), some (.loc 1)] [.lst [.int ((k : Int) + 1)], .lst [.int h, .int o, .int s, .bl e]] = .nx [z, some (.loc 0), some (wl ⟨h, o, s, e⟩), some (.int 3), some (.loc 1)] [.lst [.int ((k : Int) + 1)], .lst [.int h, .int o, .int s, .bl !e]] := fun z => mGSub_loc (j := 1) (l := [.int h, .int o, .int s, .bl e]) (t := 3) rfl rfl rfl rfl
      unfold M18
      simp [t1, sz, f0, f1, f2, f3, t2, g, ar, ap_notv, ix, ix3]
    · by_cases q4 : r1 = 4
      · subst q4
        refine ⟨⟨h, o, s, e⟩, k + 1, ⟨h1, h2, h3, h4⟩, go (x := .loc 1) (l := [.int h, .int o, .int s, .bl e]) ?_ (.inl rfl)⟩
        unfold M18
        simp [t1, sz, f0, f1, f2, f3, t2, ar, ix, ix3]
      · have wx : ∀ c : Cell, ∃ w' k', OkW w' ∧ call (n + 2) 13 [.lst (ds.map .int), .loc 0] [.lst [.int (((k + 1 : Nat)) : Int)], c] = .ok (wl w') [.lst [.int ((k' : Nat) : Int)], c] := fun c => way_ok2
        obtain ⟨w', k', ow, ew⟩ := wx (.lst [.int h, .int o, .int s, .bl e])
        have ew : call (n + 2) 13 [.lst (ds.map .int), .loc 0] [.lst [.int ((k : Int) + 1)], .lst [.int h, .int o, .int s, .bl e]] = .ok (wl w') [.lst [.int ((k' : Nat) : Int)], .lst [.int h, .int o, .int s, .bl e]] := ew
        refine ⟨w', k', ow, go (x := wl w') (l := [.int h, .int o, .int s, .bl e]) ?_ (.inr (frz_lst rfl))⟩
        unfold M18
        simp [t1, sz, f0, f1, f2, f3, q, q3, q4, ew]
theorem ways_all {α : Type} {f g : Wy → α} (e : ways.map f = ways.map g) {w : Wy} (hw : OkW w) : f w = g w := List.map_inj_left.mp e w (mem_ways hw)
def lv (i : Int) : Str := if i = 0 then "none" else if i = 1 then "one" else if i = 2 then "most" else "all"
def mkI (w : Wy) : W := .ins 0 [.str (lv w.h), .str (lv w.o), .str (lv w.s), .bl w.e]
theorem made_ok {n : Nat} {k : Int} {w : Wy} (hw : OkW w) : call (n + 3) 14 [wl w] [.lst [.int k]] = .ok (mkI w) [.lst [.int k]] :=
  ways_all (f := fun w => call (n + 3) 14 [wl w] [.lst [.int k]]) (g := fun w => .ok (mkI w) [.lst [.int k]]) (by kernel_rfl) hw
theorem fields_ok {n : Nat} {k : Int} {w : Wy} (hw : OkW w) : call (n + 3) 22 [mkI w] [.lst [.int k]] = .ok (.lst [.str (lv w.h), .str (lv w.o), .str (lv w.s), .bl w.e]) [.lst [.int k]] :=
  ways_all (f := fun w => call (n + 3) 22 [mkI w] [.lst [.int k]]) (g := fun w => .ok (.lst [.str (lv w.h), .str (lv w.o), .str (lv w.s), .bl w.e]) [.lst [.int k]]) (by kernel_rfl) hw
theorem words_ok {n : Nat} {k : Int} {w : Wy} (hw : OkW w) : call (n + 3) 23 [wl w] [.lst [.int k]] = .ok (.lst [.str (lv w.h), .str (lv w.o), .str (lv w.s), .bl w.e]) [.lst [.int k]] :=
  ways_all (f := fun w => call (n + 3) 23 [wl w] [.lst [.int k]]) (g := fun w => .ok (.lst [.str (lv w.h), .str (lv w.o), .str (lv w.s), .bl w.e]) [.lst [.int k]]) (by kernel_rfl) hw
theorem sameB {n : Nat} {k : Int} {x y : Bool} : call (n + 1) 12 [.bl x, .bl y] [.lst [.int k]] = .ok (.bl (x == y)) [.lst [.int k]] := by
  cases x <;> cases y <;> kernel_rfl
theorem sameF {n : Nat} {k : Int} {w : Wy} (hw : OkW w) : call (n + 3) 12 [.lst [.str (lv w.h), .str (lv w.o), .str (lv w.s), .bl w.e], .lst [.str (lv w.h), .str (lv w.o), .str (lv w.s), .bl w.e]] [.lst [.int k]] = .ok (.bl true) [.lst [.int k]] :=
  ways_all (f := fun w => call (n + 3) 12 [.lst [.str (lv w.h), .str (lv w.o), .str (lv w.s), .bl w.e], .lst [.str (lv w.h), .str (lv w.o), .str (lv w.s), .bl w.e]] [.lst [.int k]]) (g := fun w => .ok (.bl true) [.lst [.int k]]) (by kernel_rfl) hw
/-- a loop whose body always goes through -/
theorem for_pass {σ : Type} {src : Src} {gg : MG} {body : MS} {h : List Cell} {xs : List W} (P : σ → EnvW) (hs : ∀ i, i ≤ xs.length → src i h = some xs[i]?)
    (hb : ∀ x o, x ∈ xs → ∃ ρ1, gOnly (gg x (P o) h) = .nx ρ1 h ∧ ∃ o', body ρ1 h = .nx (P o') h) {m : Nat} (hm : xs.length < m) (o : σ) :
    ∃ o', forW src gg body m 0 (P o) h = .nx (P o') h := by
  rcases for_test (r := .non) (fun _ => false) P hs (fun x o hx => by
    obtain ⟨ρ1, e1, o', e2⟩ := hb x o hx
    exact ⟨ρ1, e1, .inl ⟨rfl, o', e2⟩⟩) hm o with ⟨o', e, _⟩ | ⟨_, e⟩
  · exact ⟨o', e⟩
  · simp at e
theorem rngW_mem {k : Nat} {x : W} (hx : x ∈ rngW 0 1 k) : ∃ i : Nat, i < k ∧ x = .int (i : Int) := by
  obtain ⟨i, hi, e⟩ := List.mem_map.mp hx
  exact ⟨i, List.mem_range.mp hi, by rw [← e]; simp⟩
def casesL : List (Int × Int × Int × Int) := (List.range 5).flatMap fun m => (List.range (m + 1)).flatMap fun s => (List.range (s + 1)).flatMap fun h => (List.range (h + 1)).map fun (o : Nat) => ((h : Int), (o : Int), (s : Int), (m : Int))
theorem mem_cases {h o s m : Nat} (h1 : o ≤ h) (h2 : h ≤ s) (h3 : s ≤ m) (h4 : m < 5) : ((h : Int), (o : Int), (s : Int), (m : Int)) ∈ casesL :=
  List.mem_flatMap.mpr ⟨m, List.mem_range.mpr h4, List.mem_flatMap.mpr ⟨s, List.mem_range.mpr (by omega), List.mem_flatMap.mpr ⟨h, List.mem_range.mpr (by omega), List.mem_map.mpr ⟨o, List.mem_range.mpr (by omega), rfl⟩⟩⟩⟩
def wc (c : Int × Int × Int × Int) : W := .lst [.int c.1, .int c.2.1, .int c.2.2.1]
def numB (l m : Int) : Int := if l = 2 then m / 2 + 1 else if l = 3 ∧ 0 < m then m else if l = 0 then 0 else 1
def meetsB (w : Wy) (c : Int × Int × Int × Int) (e : Bool) : Bool := !(w.e && e) && (decide (numB w.h c.2.2.2 ≤ c.1) && (decide (numB w.o c.2.2.2 ≤ c.2.1) && decide (numB w.s c.2.2.2 ≤ c.2.2.1)))
theorem meets_ok {n : Nat} {k : Int} {w : Wy} (hw : OkW w) {q : Int × Int × Int × Int} (hq : q ∈ casesL) {e : Bool} : call (n + 2) 16 [wl w, wc q, .int q.2.2.2, .bl e] [.lst [.int k]] = .ok (.bl (meetsB w q e)) [.lst [.int k]] := by
  have := ways_all (f := fun w => casesL.map fun q => [false, true].map fun e => call (n + 2) 16 [wl w, wc q, .int q.2.2.2, .bl e] [.lst [.int k]]) (g := fun w => casesL.map fun q => [false, true].map fun e => .ok (.bl (meetsB w q e)) [.lst [.int k]]) (by kernel_rfl) hw
  exact List.map_inj_left.mp (List.map_inj_left.mp this q hq) e (by cases e <;> decide)
theorem needs_ok {n : Nat} {k : Int} {w : Wy} (hw : OkW w) {m : Nat} (hm : m < 5) : call (n + 3) 4 [mkI w, .int (m : Int)] [.lst [.int k]] = .ok (.tup [.int (numB w.h m), .int (numB w.o m), .int (numB w.s m)]) [.lst [.int k]] := by
  have := ways_all (f := fun w => (List.range 5).map fun (m : Nat) => call (n + 3) 4 [mkI w, .int (m : Int)] [.lst [.int k]]) (g := fun w => (List.range 5).map fun (m : Nat) => .ok (.tup [.int (numB w.h m), .int (numB w.o m), .int (numB w.s m)]) [.lst [.int k]]) (by kernel_rfl) hw
  exact List.map_inj_left.mp this m (List.mem_range.mpr hm)
theorem ap_meth {c : Nat} {g : Fn} {dws : List W} {mo : ME} {mr : MA} {ρ : EnvW} {h : List Cell} : mMeth c g dws mo mr ρ h = (mo ρ h).bind fun x h1 => match insW h1 x with
  | some (c', _) => if c' = c then (mr ρ h1).bind fun xs h2 => g (x :: (xs ++ dws)) h2 else .bad
  | none => .bad := rfl
theorem ap_fld {c j : Nat} {m : ME} {ρ : EnvW} {h : List Cell} : mFld c j m ρ h = (m ρ h).bind fun x h1 => R.ofO (fldW h1 c j x) h1 := rfl
theorem ap_andv {a b : ME} {ρ : EnvW} {h : List Cell} : mAndV a b ρ h = (a ρ h).bind fun x h1 => match x with
  | .bl true => b ρ h1
  | .bl false => .ok (.bl false) h1
  | _ => .bad := rfl
theorem permits_ok {n : Nat} {k : Int} {w : Wy} (hw : OkW w) {h o s m : Nat} (hm : m < 5) {e : Bool} : call (n + 4) 5 [mkI w, .int (h : Int), .int (o : Int), .int (s : Int), .int (m : Int), .bl e] [.lst [.int k]] = .ok (.bl (meetsB w (h, o, s, m) e)) [.lst [.int k]] := by
  refine fnM_same (h' := [.lst [.int k]]) rfl ?_ rfl fun _ => frz_bl
  show M5 (call (n + 3)) [some (mkI w), some (.int (h : Int)), some (.int (o : Int)), some (.int (s : Int)), some (.int (m : Int)), some (.bl e), none, none, none] [.lst [.int k]] = _
  unfold M5 meetsB
  have f3 : ∀ z, fldW z 0 3 (mkI w) = some (.bl w.e) := fun z => rfl
  have i0 : ∀ z, insW z (mkI w) = some (0, [.str (lv w.h), .str (lv w.o), .str (lv w.s), .bl w.e]) := fun z => rfl
  have nd := needs_ok (n := n) (k := k) hw hm
  have g3 : ∀ x y z ρ h, mGTup 3 (mGCons (mGName 6) (mGCons (mGName 7) (mGCons (mGName 8) mGNil))) (.tup [x, y, z]) ρ h = .nx (((ρ.set 6 (some x)).set 7 (some y)).set 8 (some z)) h := fun x y z ρ h => rfl
  cases q : w.e && e with
  | true =>
    cases z : w.e
    · rw [z] at q
      cases q
    · cases e
      · rw [z] at q
        cases q
      · simp [ap_fld, f3, z]
  | false =>
    have go : ∀ r, (if (w.e && e) = true then (RS.rt (.bl false) [.lst [.int k]]) else r) = r := fun r => by rw [q]; rfl
    cases z : w.e <;> cases e <;> (first | (rw [z] at q; cases q; done) | skip) <;> cases a1 : decide (numB w.h m ≤ h) <;> cases a2 : decide (numB w.o m ≤ o) <;> simp [ap_fld, f3, z, ap_meth, i0, nd, g3, ap_andv, a1, a2]
/-- the higher of two levels each -/
def hi (a b : Wy) : Wy := ⟨if a.h < b.h then b.h else a.h, if a.o < b.o then b.o else a.o, if a.s < b.s then b.s else a.s, a.e || b.e⟩
theorem hi_ok {a b : Wy} (ha : OkW a) (hb : OkW b) : OkW (hi a b) := by
  obtain ⟨a1, a2, a3, a4⟩ := ha
  obtain ⟨b1, b2, b3, b4⟩ := hb
  unfold hi OkW
  dsimp only
  split <;> split <;> split <;> omega
theorem ways_all2 {α : Type} {f g : Wy → Wy → α} (e : (ways.map fun a => ways.map fun b => f a b) = ways.map fun a => ways.map fun b => g a b) {a b : Wy} (ha : OkW a) (hb : OkW b) : f a b = g a b :=
  List.map_inj_left.mp (List.map_inj_left.mp e a (mem_ways ha)) b (mem_ways hb)
theorem p62 : (2 : Int) ^ 62 = 4611686018427387904 := by decide
theorem inR_of {i : Int} (h1 : -4611686018427387904 ≤ i) (h2 : i < 4611686018427387904) : Fz.inR i = true := by
  unfold Fz.inR
  rw [p62]
  exact decide_eq_true ⟨h1, h2⟩
theorem numB_hi {x y m c : Int} (x0 : 0 ≤ x) (x3 : x ≤ 3) (y0 : 0 ≤ y) (y3 : y ≤ 3) (m0 : 0 ≤ m) : decide (numB (if x < y then y else x) m ≤ c) = (decide (numB x m ≤ c) && decide (numB y m ≤ c)) := by
  have c1 : x = 0 ∨ x = 1 ∨ x = 2 ∨ x = 3 := by omega
  have c2 : y = 0 ∨ y = 1 ∨ y = 2 ∨ y = 3 := by omega
  have e0 : numB 0 m = 0 := rfl
  have e1 : numB 1 m = 1 := rfl
  have e2 : numB 2 m = m / 2 + 1 := rfl
  have e3 : numB 3 m = if 0 < m then m else 1 := by
    unfold numB
    rw [if_neg (by decide)]
    by_cases q : 0 < m
    · rw [if_pos ⟨rfl, q⟩, if_pos q]
    · rw [if_neg (fun z => q z.2), if_neg q, if_neg (by decide)]
  rw [← Bool.decide_and]
  refine decide_eq_decide.mpr ?_
  rcases c1 with rfl | rfl | rfl | rfl <;> rcases c2 with rfl | rfl | rfl | rfl <;> simp only [e0, e1, e2, e3, Int.lt_irrefl, if_false] <;> (try rw [if_pos (by decide)]) <;> (try rw [if_neg (by decide)]) <;> (try simp only [e0, e1, e2, e3]) <;> (try split) <;> omega
theorem hi_meets {a b : Wy} (ha : OkW a) (hb : OkW b) {q : Int × Int × Int × Int} (hq : 0 ≤ q.2.2.2) {e : Bool} : meetsB (hi a b) q e = (meetsB a q e && meetsB b q e) := by
  obtain ⟨a1, a2, a3, a4⟩ := ha
  obtain ⟨b1, b2, b3, b4⟩ := hb
  unfold meetsB hi
  dsimp only
  rw [numB_hi (by omega) (by omega) (by omega) (by omega) hq, numB_hi (by omega) (by omega) (by omega) (by omega) hq, numB_hi (by omega) (by omega) (by omega) (by omega) hq]
  cases a.e <;> cases b.e <;> cases e <;> cases decide (numB a.h q.2.2.2 ≤ q.1) <;> cases decide (numB b.h q.2.2.2 ≤ q.1) <;> cases decide (numB a.o q.2.2.2 ≤ q.2.1) <;> cases decide (numB b.o q.2.2.2 ≤ q.2.1) <;> cases decide (numB a.s q.2.2.2 ≤ q.2.2.1) <;> cases decide (numB b.s q.2.2.2 ≤ q.2.2.1) <;> rfl
theorem sameB2 {n : Nat} {k : Int} {x y : Bool} : call (n + 1) 12 [.bl x, .bl y] [.lst [.int k]] = .ok (.bl (x == y)) [.lst [.int k]] := sameB
theorem ap_methK {c n j : Nat} {g : Fn} {mo : ME} {mr mk : MA} {ρ : EnvW} {h : List Cell} : mMethK c g n j mo mr mk ρ h = (mo ρ h).bind fun x h1 => match insW h1 x with
  | some (c', _) => if c' = c then (mr ρ h1).bind fun xs h2 => (mk ρ h2).bind fun ys h3 => if xs.length = n ∧ ys.length = j then g (x :: (xs ++ ys)) h3 else .bad else .bad
  | none => .bad := rfl
section
variable (C : Nat → Fn)
def b4 : MS := (mSeq (mSet 8 (mLst (mCons (mVar 5) (mCons (mVar 6) (mCons (mVar 4) mNil)))))
    (mSeq (mSet 9 (mAndV (mCall (C 16) [] (mCons (mVar 1) (mCons (mVar 8) (mCons (mVar 3) (mCons (mVar 7) mNil))))) (mCall (C 16) [] (mCons (mVar 2) (mCons (mVar 8) (mCons (mVar 3) (mCons (mVar 7) mNil)))))))
    (mIfS (mNot (mTru (mCall (C 12) [] (mCons (mMethK 0 (C 5) 4 1 (mVar 0) (mCons (mVar 5) (mCons (mVar 6) (mCons (mVar 4) (mCons (mVar 3) mNil)))) (mCons (mVar 7) mNil)) (mCons (mVar 9) mNil))))) (mRet (mC (.bl false))) mSkip)))
def b3 : MS := (mFor (mISeq (mLst (mCons (mC (.bl false)) (mCons (mC (.bl true)) mNil)))) (mGName 7) (b4 C))
def b2 : MS := (mFor (mIRng1 (mCons (mOp fAdd (mVar 5) (mC (.int 1))) mNil)) (mGName 6) (b3 C))
def b1 : MS := (mFor (mIRng1 (mCons (mOp fAdd (mVar 4) (mC (.int 1))) mNil)) (mGName 5) (b2 C))
theorem M24_eq : M24 C = (mSeq (mFor (mIRng1 (mCons (mOp fAdd (mVar 3) (mC (.int 1))) mNil)) (mGName 4) (b1 C)) (mRet (mC (.bl true)))) := rfl
end
section
variable {n : Nat} {k : Int} {a b : Wy} {h o s m : Nat}
abbrev Hh (k : Int) : List Cell := [.lst [.int k]]
theorem b4_ok (ha : OkW a) (hb : OkW b) (h1 : o ≤ h) (h2 : h ≤ s) (h3 : s ≤ m) (h4 : m < 5) {e : Bool} {o8 o9 : Option W} :
    ∃ o8' o9', b4 (call (n + 4)) [some (mkI (hi a b)), some (wl a), some (wl b), some (.int (m : Int)), some (.int (s : Int)), some (.int (h : Int)), some (.int (o : Int)), some (.bl e), o8, o9] (Hh k) =
      .nx [some (mkI (hi a b)), some (wl a), some (wl b), some (.int (m : Int)), some (.int (s : Int)), some (.int (h : Int)), some (.int (o : Int)), some (.bl e), o8', o9'] (Hh k) := by
  have hq := mem_cases h1 h2 h3 h4
  have m1 : call (n + 4) 16 [wl a, .lst [.int (h : Int), .int (o : Int), .int (s : Int)], .int (m : Int), .bl e] (Hh k) = .ok (.bl (meetsB a (h, o, s, m) e)) (Hh k) := meets_ok (n := n + 2) (k := k) ha hq (e := e)
  have m2 : call (n + 4) 16 [wl b, .lst [.int (h : Int), .int (o : Int), .int (s : Int)], .int (m : Int), .bl e] (Hh k) = .ok (.bl (meetsB b (h, o, s, m) e)) (Hh k) := meets_ok (n := n + 2) (k := k) hb hq (e := e)
  have p := permits_ok (n := n) (k := k) (hi_ok ha hb) (h := h) (o := o) (s := s) h4 (e := e)
  rw [hi_meets ha hb (q := (h, o, s, m)) (Int.natCast_nonneg m)] at p
  have i0 : ∀ z, insW z (mkI (hi a b)) = some (0, [.str (lv (hi a b).h), .str (lv (hi a b).o), .str (lv (hi a b).s), .bl (hi a b).e]) := fun z => rfl
  have sz : 3 ≤ sizeLine := by decide
  have sm := fun x y => sameB2 (n := n + 3) (k := k) (x := x) (y := y)
  unfold b4
  refine ⟨some (.lst [.int (h : Int), .int (o : Int), .int (s : Int)]), some (.bl (meetsB a (h, o, s, m) e && meetsB b (h, o, s, m) e)), ?_⟩
  cases z1 : meetsB a (h, o, s, m) e <;> cases z2 : meetsB b (h, o, s, m) e <;> simp [sz, ap_andv, m1, m2, z1, z2, ap_methK, i0, p, sm]
theorem b3_ok (ha : OkW a) (hb : OkW b) (h1 : o ≤ h) (h2 : h ≤ s) (h3 : s ≤ m) (h4 : m < 5) {o7 o8 o9 : Option W} :
    ∃ o7' o8' o9', b3 (call (n + 4)) [some (mkI (hi a b)), some (wl a), some (wl b), some (.int (m : Int)), some (.int (s : Int)), some (.int (h : Int)), some (.int (o : Int)), o7, o8, o9] (Hh k) =
      .nx [some (mkI (hi a b)), some (wl a), some (wl b), some (.int (m : Int)), some (.int (s : Int)), some (.int (h : Int)), some (.int (o : Int)), o7', o8', o9'] (Hh k) := by
  obtain ⟨⟨p7, p8, p9⟩, e⟩ := for_pass (src := srcSeq (.lst [.bl false, .bl true])) (gg := mGName 7) (body := b4 (call (n + 4))) (h := Hh k) (xs := [.bl false, .bl true]) (m := 3)
    (fun (z : Option W × Option W × Option W) => [some (mkI (hi a b)), some (wl a), some (wl b), some (.int (m : Int)), some (.int (s : Int)), some (.int (h : Int)), some (.int (o : Int)), z.1, z.2.1, z.2.2]) (fun i _ => src_lst_at)
    (fun x z hx => by
      have : ∃ e : Bool, x = .bl e := by
        simp at hx
        rcases hx with rfl | rfl
        · exact ⟨_, rfl⟩
        · exact ⟨_, rfl⟩
      obtain ⟨e, rfl⟩ := this
      obtain ⟨p8, p9, q⟩ := b4_ok (n := n) (k := k) ha hb h1 h2 h3 h4 (e := e) (o8 := z.2.1) (o9 := z.2.2)
      exact ⟨_, rfl, (some (.bl e), p8, p9), q⟩) (by simp) (o7, o8, o9)
  refine ⟨p7, p8, p9, ?_⟩
  have sz : 2 ≤ sizeLine := by decide
  unfold b3
  simp [sz]
  exact e
theorem b2_ok (ha : OkW a) (hb : OkW b) (h2 : h ≤ s) (h3 : s ≤ m) (h4 : m < 5) {o6 o7 o8 o9 : Option W} :
    ∃ o6' o7' o8' o9', b2 (call (n + 4)) [some (mkI (hi a b)), some (wl a), some (wl b), some (.int (m : Int)), some (.int (s : Int)), some (.int (h : Int)), o6, o7, o8, o9] (Hh k) =
      .nx [some (mkI (hi a b)), some (wl a), some (wl b), some (.int (m : Int)), some (.int (s : Int)), some (.int (h : Int)), o6', o7', o8', o9'] (Hh k) := by
  obtain ⟨⟨p6, p7, p8, p9⟩, e⟩ := for_pass (src := srcRng 0 1 (h + 1)) (gg := mGName 6) (body := b3 (call (n + 4))) (h := Hh k) (xs := rngW 0 1 (h + 1)) (m := h + 1 + 1)
    (fun (z : Option W × Option W × Option W × Option W) => [some (mkI (hi a b)), some (wl a), some (wl b), some (.int (m : Int)), some (.int (s : Int)), some (.int (h : Int)), z.1, z.2.1, z.2.2.1, z.2.2.2]) (fun i hi => src_rng_at (by simpa using hi))
    (fun x z hx => by
      obtain ⟨o, ho, rfl⟩ := rngW_mem hx
      obtain ⟨p7, p8, p9, q⟩ := b3_ok (n := n) (k := k) ha hb (o := o) (by omega) h2 h3 h4 (o7 := z.2.1) (o8 := z.2.2.1) (o9 := z.2.2.2)
      exact ⟨_, rfl, (some (.int (o : Int)), p7, p8, p9), q⟩) (by simp) (o6, o7, o8, o9)
  refine ⟨p6, p7, p8, p9, ?_⟩
  have i0 : Fz.inR ((h : Int) + 1) = true := inR_of (by omega) (by omega)
  have tn : ((h : Int) + 1).toNat = h + 1 := by omega
  unfold b2
  simp -implicitDefEqProofs [i0, tn]
  exact e
theorem b1_ok (ha : OkW a) (hb : OkW b) (h3 : s ≤ m) (h4 : m < 5) {o5 o6 o7 o8 o9 : Option W} :
    ∃ o5' o6' o7' o8' o9', b1 (call (n + 4)) [some (mkI (hi a b)), some (wl a), some (wl b), some (.int (m : Int)), some (.int (s : Int)), o5, o6, o7, o8, o9] (Hh k) =
      .nx [some (mkI (hi a b)), some (wl a), some (wl b), some (.int (m : Int)), some (.int (s : Int)), o5', o6', o7', o8', o9'] (Hh k) := by
  obtain ⟨⟨p5, p6, p7, p8, p9⟩, e⟩ := for_pass (src := srcRng 0 1 (s + 1)) (gg := mGName 5) (body := b2 (call (n + 4))) (h := Hh k) (xs := rngW 0 1 (s + 1)) (m := s + 1 + 1)
    (fun (z : Option W × Option W × Option W × Option W × Option W) => [some (mkI (hi a b)), some (wl a), some (wl b), some (.int (m : Int)), some (.int (s : Int)), z.1, z.2.1, z.2.2.1, z.2.2.2.1, z.2.2.2.2]) (fun i hi => src_rng_at (by simpa using hi))
    (fun x z hx => by
      obtain ⟨h, hh, rfl⟩ := rngW_mem hx
      obtain ⟨p6, p7, p8, p9, q⟩ := b2_ok (n := n) (k := k) ha hb (h := h) (by omega) h3 h4 (o6 := z.2.1) (o7 := z.2.2.1) (o8 := z.2.2.2.1) (o9 := z.2.2.2.2)
      exact ⟨_, rfl, (some (.int (h : Int)), p6, p7, p8, p9), q⟩) (by simp) (o5, o6, o7, o8, o9)
  refine ⟨p5, p6, p7, p8, p9, ?_⟩
  have i0 : Fz.inR ((s : Int) + 1) = true := inR_of (by omega) (by omega)
  have tn : ((s : Int) + 1).toNat = s + 1 := by omega
  unfold b1
  simp -implicitDefEqProofs [i0, tn]
  exact e
theorem both_ok (ha : OkW a) (hb : OkW b) (h4 : m < 5) : call (n + 5) 24 [mkI (hi a b), wl a, wl b, .int (m : Int)] (Hh k) = .ok (.bl true) (Hh k) := by
  rw [show call (n + 5) 24 = fnM true 10 4 (M24 (call (n + 4))) from by kernel_rfl]
  refine fnM_same (h' := Hh k) rfl ?_ rfl fun _ => frz_bl
  show M24 (call (n + 4)) [some (mkI (hi a b)), some (wl a), some (wl b), some (.int (m : Int)), none, none, none, none, none, none] (Hh k) = _
  rw [M24_eq]
  obtain ⟨⟨p4, p5, p6, p7, p8, p9⟩, e⟩ := for_pass (src := srcRng 0 1 (m + 1)) (gg := mGName 4) (body := b1 (call (n + 4))) (h := Hh k) (xs := rngW 0 1 (m + 1)) (m := m + 1 + 1)
    (fun (z : Option W × Option W × Option W × Option W × Option W × Option W) => [some (mkI (hi a b)), some (wl a), some (wl b), some (.int (m : Int)), z.1, z.2.1, z.2.2.1, z.2.2.2.1, z.2.2.2.2.1, z.2.2.2.2.2]) (fun i hi => src_rng_at (by simpa using hi))
    (fun x z hx => by
      obtain ⟨s, hs, rfl⟩ := rngW_mem hx
      obtain ⟨p5, p6, p7, p8, p9, q⟩ := b1_ok (n := n) (k := k) ha hb (s := s) (by omega) h4 (o5 := z.2.1) (o6 := z.2.2.1) (o7 := z.2.2.2.1) (o8 := z.2.2.2.2.1) (o9 := z.2.2.2.2.2)
      exact ⟨_, rfl, (some (.int (s : Int)), p5, p6, p7, p8, p9), q⟩) (by simp) (none, none, none, none, none, none)
  have i0 : Fz.inR ((m : Int) + 1) = true := inR_of (by omega) (by omega)
  have tn : ((m : Int) + 1).toNat = m + 1 := by omega
  simp -implicitDefEqProofs [i0, tn]
  dsimp only at e
  rw [e]
  simp
end
theorem ap_notv' {a : ME} {ρ : EnvW} {h : List Cell} : mNotV a ρ h = (a ρ h).bind fun x h1 => match x with
  | .bl b => .ok (.bl (!b)) h1
  | _ => .bad := rfl
/-- the loop of the third way: numbers from 0 to 3 -/
theorem third_ok {n : Nat} {ds : List Int} {k : Nat} {w : Wy} (hw : OkW w) : ∃ w' k', OkW w' ∧ call (n + 3) 20 [.lst (ds.map .int), .loc 0, wl w] (cur k) = .ok (wl w') (cur k') := by
  rw [show call (n + 3) 20 = fnM true 5 3 (M20 (call (n + 2))) from by kernel_rfl]
  have t1 := take0 (n := n + 1) (ds := ds) (k := k) (size := 2) (by decide)
  generalize drw ds k 2 = r1 at *
  by_cases q1 : r1 = 1
  · obtain ⟨w', k', ow, ew⟩ := way_ok (n := n) (ds := ds) (k := k + 1)
    refine ⟨w', k', ow, fnM_same (h' := cur k') rfl ?_ rfl fun _ => frz_lst rfl⟩
    show M20 (call (n + 2)) [some (.lst (ds.map .int)), some (.loc 0), some (wl w), none, none] (cur k) = _
    unfold M20
    simp [t1, q1, ew]
  obtain ⟨h, o, s, e⟩ := w
  obtain ⟨h1, h2, h3, h4⟩ := hw
  dsimp only at h1 h2 h3 h4
  have sz : 4 ≤ sizeLine := by decide
  have f0 : ∀ z, fIx (wl ⟨h, o, s, e⟩) (.int 0) z = some (.int h) := fun _ => rfl
  have f1 : ∀ z, fIx (wl ⟨h, o, s, e⟩) (.int 1) z = some (.int o) := fun _ => rfl
  have f2 : ∀ z, fIx (wl ⟨h, o, s, e⟩) (.int 2) z = some (.int s) := fun _ => rfl
  have f3 : ∀ z, fIx (wl ⟨h, o, s, e⟩) (.int 3) z = some (.bl e) := fun _ => rfl
  have t2 : ∀ (k : Nat) (size : Int) (c : Cell), 0 < size → call (n + 2) 11 [.lst (ds.map .int), .loc 0, .int size] (cur2 k c) = .ok (.int (drw ds k size)) (cur2 (k + 1) c) := fun k size c hs => take2 hs
  have ix : ∀ z h o s e i, fIx (.loc 1) (.int i) [z, .lst [.int h, .int o, .int s, .bl e]] = atI [.int h, .int o, .int s, .bl e] i := fun z h o s e i => rfl
  -- the loop
  obtain ⟨ρ', h', el, x4, k2, h', o', s', rfl, rfl, ho1, ho2, ho3, ho4, ho5, ho6⟩ := for_inv (src := srcRng 0 1 3) (gg := mGName 4) (body := (mIfS (mTst (mOp fLt (mOp fIx (mVar 3) (mVar 4)) (mC (.int 3)))) (mAsgG (mOp fAdd (mOp fIx (mVar 3) (mVar 4)) (mCall (call (n + 2) 11) [] (mCons (mVar 0) (mCons (mVar 1) (mCons (mC (.int 2)) mNil))))) (mGSub (mVar 3) (mVar 4))) mSkip))
    (xs := rngW 0 1 3) (ρ := [some (.lst (ds.map .int)), some (.loc 0), some (wl ⟨h, o, s, e⟩), some (.loc 1), none]) (h := cur2 (k + 1) (.lst [.int h, .int o, .int s, .bl e])) (m := 4)
    (fun i ρ hp => ∃ (x4 : Option W) (k : Nat) (h' o' s' : Int), ρ = [some (.lst (ds.map .int)), some (.loc 0), some (wl ⟨h, o, s, e⟩), some (.loc 1), x4] ∧ hp = cur2 k (.lst [.int h', .int o', .int s', .bl e]) ∧ 0 ≤ h' ∧ h' ≤ 3 ∧ 0 ≤ o' ∧ o' ≤ 3 ∧ 0 ≤ s' ∧ s' ≤ 3)
    (fun i ρ hp hi _ => src_rng_at (by simpa using hi))
    (fun i x ρ hp ex ⟨x4, k, h', o', s', e1, e2, b1, b2, b3, b4, b5, b6⟩ => by
      subst e1 e2
      obtain ⟨hi, rfl⟩ := rngW_at ex
      have d1 := drw_nn (ds := ds) (k := k) (size := 2) (by decide)
      have d2 := drw_lt (ds := ds) (k := k) (size := 2) (by decide)
      have t := t2 k 2 (.lst [.int h', .int o', .int s', .bl e]) (by decide)
      generalize drw ds k 2 = r at *
      have ci : i = 0 ∨ i = 1 ∨ i = 2 := by omega
      rcases ci with rfl | rfl | rfl
      · by_cases q : h' < 3
        · refine ⟨_, _, _, cur2 (k + 1) (.lst [.int (h' + r), .int o', .int s', .bl e]), rfl, ?_, some (.int 0), k + 1, h' + r, o', s', rfl, rfl, by omega, by omega, b3, b4, b5, b6⟩
          have g : ∀ z y, mGSub (mVar 3) (mVar 4) (.int (h' + r)) [z, some (.loc 0), y, some (.loc 1), some (.int 0)] (cur2 (k + 1) (.lst [.int h', .int o', .int s', .bl e])) = .nx [z, some (.loc 0), y, some (.loc 1), some (.int 0)] (cur2 (k + 1) (.lst [.int (h' + r), .int o', .int s', .bl e])) := fun z y => mGSub_loc (j := 1) (l := [.int h', .int o', .int s', .bl e]) (t := 0) rfl rfl rfl rfl
          have a0 : atI [W.int h', .int o', .int s', .bl e] 0 = some (.int h') := rfl
          simp [ix, a0, q, t, g]
        · refine ⟨_, _, _, cur2 k (.lst [.int h', .int o', .int s', .bl e]), rfl, ?_, some (.int 0), k, h', o', s', rfl, rfl, b1, b2, b3, b4, b5, b6⟩
          have a0 : atI [W.int h', .int o', .int s', .bl e] 0 = some (.int h') := rfl
          simp [ix, a0, q]
      · by_cases q : o' < 3
        · refine ⟨_, _, _, cur2 (k + 1) (.lst [.int h', .int (o' + r), .int s', .bl e]), rfl, ?_, some (.int 1), k + 1, h', o' + r, s', rfl, rfl, b1, b2, by omega, by omega, b5, b6⟩
          have g : ∀ z y, mGSub (mVar 3) (mVar 4) (.int (o' + r)) [z, some (.loc 0), y, some (.loc 1), some (.int 1)] (cur2 (k + 1) (.lst [.int h', .int o', .int s', .bl e])) = .nx [z, some (.loc 0), y, some (.loc 1), some (.int 1)] (cur2 (k + 1) (.lst [.int h', .int (o' + r), .int s', .bl e])) := fun z y => mGSub_loc (j := 1) (l := [.int h', .int o', .int s', .bl e]) (t := 1) rfl rfl rfl rfl
          have a0 : atI [W.int h', .int o', .int s', .bl e] 1 = some (.int o') := rfl
          simp [ix, a0, q, t, g]
        · refine ⟨_, _, _, cur2 k (.lst [.int h', .int o', .int s', .bl e]), rfl, ?_, some (.int 1), k, h', o', s', rfl, rfl, b1, b2, b3, b4, b5, b6⟩
          have a0 : atI [W.int h', .int o', .int s', .bl e] 1 = some (.int o') := rfl
          simp [ix, a0, q]
      · by_cases q : s' < 3
        · refine ⟨_, _, _, cur2 (k + 1) (.lst [.int h', .int o', .int (s' + r), .bl e]), rfl, ?_, some (.int 2), k + 1, h', o', s' + r, rfl, rfl, b1, b2, b3, b4, by omega, by omega⟩
          have g : ∀ z y, mGSub (mVar 3) (mVar 4) (.int (s' + r)) [z, some (.loc 0), y, some (.loc 1), some (.int 2)] (cur2 (k + 1) (.lst [.int h', .int o', .int s', .bl e])) = .nx [z, some (.loc 0), y, some (.loc 1), some (.int 2)] (cur2 (k + 1) (.lst [.int h', .int o', .int (s' + r), .bl e])) := fun z y => mGSub_loc (j := 1) (l := [.int h', .int o', .int s', .bl e]) (t := 2) rfl rfl rfl rfl
          have a0 : atI [W.int h', .int o', .int s', .bl e] 2 = some (.int s') := rfl
          simp [ix, a0, q, t, g]
        · refine ⟨_, _, _, cur2 k (.lst [.int h', .int o', .int s', .bl e]), rfl, ?_, some (.int 2), k, h', o', s', rfl, rfl, b1, b2, b3, b4, b5, b6⟩
          have a0 : atI [W.int h', .int o', .int s', .bl e] 2 = some (.int s') := rfl
          simp [ix, a0, q])
    (by simp) ⟨none, k + 1, h, o, s, rfl, rfl, by omega, by omega, by omega, by omega, by omega, by omega⟩
  have u1 : ∀ c, call (n + 2) 11 [.lst (ds.map .int), .loc 0, .int 4] [.lst [.int (k2 : Int)], c] = .ok (.int (drw ds k2 4)) [.lst [.int ((k2 : Int) + 1)], c] := fun c => t2 k2 4 c (by decide)
  have u2 : ∀ c, call (n + 2) 11 [.lst (ds.map .int), .loc 0, .int 4] [.lst [.int ((k2 : Int) + 1)], c] = .ok (.int (drw ds (k2 + 1) 4)) [.lst [.int ((k2 : Int) + 1 + 1)], c] := fun c => t2 (k2 + 1) 4 c (by decide)
  generalize drw ds k2 4 = r2 at *
  generalize drw ds (k2 + 1) 4 = r3 at *
  have tl : ∀ (e' : Bool) (o'' : Int), 0 ≤ o'' → o'' ≤ 3 → ∃ w', OkW w' ∧ call (n + 2) 17 [.loc 1] [.lst [.int ((k2 : Int) + 1 + 1)], (.lst [.int h', .int o'', .int s', .bl e'])] = .ok (wl w') [.lst [.int ((k2 : Int) + 1 + 1)], (.lst [.int h', .int o'', .int s', .bl e'])] := by
    intro e' o'' p1 p2
    refine ⟨⟨if h' < o'' then o'' else h', o'', if s' < (if h' < o'' then o'' else h') then (if h' < o'' then o'' else h') else s', e'⟩, ?_, adj_ok⟩
    unfold OkW
    dsimp only
    split <;> split <;> omega
  have a1 : ∀ e', atI [W.int h', .int o', .int s', .bl e'] 1 = some (.int o') := fun _ => rfl
  have a3 : ∀ e', atI [W.int h', .int o', .int s', .bl e'] 3 = some (.bl e') := fun _ => rfl
  have i3 : Fz.inR 3 = true := by decide
  have g3 : ∀ z y x4, mGSub (mVar 3) (mC (.int 3)) (.bl !e) [z, some (.loc 0), y, some (.loc 1), x4] [.lst [.int ((k2 : Int) + 1)], (.lst [.int h', .int o', .int s', .bl e])] = .nx [z, some (.loc 0), y, some (.loc 1), x4] [.lst [.int ((k2 : Int) + 1)], (.lst [.int h', .int o', .int s', .bl !e])] := fun z y x4 => mGSub_loc (j := 1) (l := [.int h', .int o', .int s', .bl e]) (t := 3) rfl rfl rfl rfl
  have g1 : ∀ z y x4 e', mGSub (mVar 3) (mC (.int 1)) (.int (o' - 1)) [z, some (.loc 0), y, some (.loc 1), x4] [.lst [.int ((k2 : Int) + 1 + 1)], (.lst [.int h', .int o', .int s', .bl e'])] = .nx [z, some (.loc 0), y, some (.loc 1), x4] [.lst [.int ((k2 : Int) + 1 + 1)], (.lst [.int h', .int (o' - 1), .int s', .bl e'])] := fun z y x4 e' => mGSub_loc (j := 1) (l := [.int h', .int o', .int s', .bl e']) (t := 1) rfl rfl rfl rfl
  have fin : ∀ (e' : Bool) (o'' : Int) (w' : Wy), OkW w' → M20 (call (n + 2)) [some (.lst (ds.map .int)), some (.loc 0), some (wl ⟨h, o, s, e⟩), none, none] (cur k) = .rt (wl w') [.lst [.int ((k2 : Int) + 1 + 1)], (.lst [.int h', .int o'', .int s', .bl e'])] →
      ∃ w' k', OkW w' ∧ fnM true 5 3 (M20 (call (n + 2))) [.lst (ds.map .int), .loc 0, wl ⟨h, o, s, e⟩] (cur k) = .ok (wl w') (cur k') := by
    intro e' o'' w' ow em
    refine ⟨w', k2 + 2, ow, ?_⟩
    have e3 : fnB 5 3 (M20 (call (n + 2))) [.lst (ds.map .int), .loc 0, wl ⟨h, o, s, e⟩] (cur k) = .ok (wl w') [.lst [.int ((k2 : Int) + 1 + 1)], (.lst [.int h', .int o'', .int s', .bl e'])] := by
      show (M20 (call (n + 2)) [some (.lst (ds.map .int)), some (.loc 0), some (wl ⟨h, o, s, e⟩), none, none] (cur k)).toR = _
      rw [em]
      rfl
    unfold fnM
    rw [if_pos rfl, e3]
    unfold frzR
    rw [bind_ok, show frzW 8 (wl w') _ = some (wl w', _) from frz_lst rfl]
    rfl
  have el : forW (srcRng 0 1 3) (mGName 4) (mIfS (mTst (mOp fLt (mOp fIx (mVar 3) (mVar 4)) (mC (.int 3)))) (mAsgG (mOp fAdd (mOp fIx (mVar 3) (mVar 4)) (mCall (call (n + 2) 11) [] (mCons (mVar 0) (mCons (mVar 1) (mCons (mC (.int 2)) mNil))))) (mGSub (mVar 3) (mVar 4))) mSkip) 4 0 [some (.lst (ds.map .int)), some (.loc 0), some (wl ⟨h, o, s, e⟩), some (.loc 1), none] [.lst [.int ((k : Int) + 1)], .lst [.int h, .int o, .int s, .bl e]] =
    .nx [some (.lst (ds.map .int)), some (.loc 0), some (wl ⟨h, o, s, e⟩), some (.loc 1), x4] [.lst [.int (k2 : Int)], .lst [.int h', .int o', .int s', .bl e]] := el
  by_cases c2 : r2 = 3
  · by_cases c3 : r3 = 3
    · by_cases c4 : 0 < o'
      · obtain ⟨w', ow, ew⟩ := tl (!e) (o' - 1) (by omega) (by omega)
        refine fin (!e) (o' - 1) w' ow ?_
        unfold M20
        simp -implicitDefEqProofs [t1, q1, f0, f1, f2, f3, sz, i3, el, u1, u2, ap_notv', ix, a1, a3, g1, g3, c2, c3, c4, ew]
      · obtain ⟨w', ow, ew⟩ := tl (!e) o' (by omega) (by omega)
        refine fin (!e) o' w' ow ?_
        unfold M20
        simp -implicitDefEqProofs [t1, q1, f0, f1, f2, f3, sz, i3, el, u1, u2, ap_notv', ix, a1, a3, g1, g3, c2, c3, c4, ew]
    · obtain ⟨w', ow, ew⟩ := tl (!e) o' (by omega) (by omega)
      refine fin (!e) o' w' ow ?_
      unfold M20
      simp -implicitDefEqProofs [t1, q1, f0, f1, f2, f3, sz, i3, el, u1, u2, ap_notv', ix, a1, a3, g1, g3, c2, c3, ew]
  · by_cases c3 : r3 = 3
    · by_cases c4 : 0 < o'
      · obtain ⟨w', ow, ew⟩ := tl e (o' - 1) (by omega) (by omega)
        refine fin e (o' - 1) w' ow ?_
        unfold M20
        simp -implicitDefEqProofs [t1, q1, f0, f1, f2, f3, sz, i3, el, u1, u2, ap_notv', ix, a1, a3, g1, g3, c2, c3, c4, ew]
      · obtain ⟨w', ow, ew⟩ := tl e o' (by omega) (by omega)
        refine fin e o' w' ow ?_
        unfold M20
        simp -implicitDefEqProofs [t1, q1, f0, f1, f2, f3, sz, i3, el, u1, u2, ap_notv', ix, a1, a3, g1, g3, c2, c3, c4, ew]
    · obtain ⟨w', ow, ew⟩ := tl e o' (by omega) (by omega)
      refine fin e o' w' ow ?_
      unfold M20
      simp -implicitDefEqProofs [t1, q1, f0, f1, f2, f3, sz, i3, el, u1, u2, ap_notv', ix, a1, a3, g1, g3, c2, c3, ew]
def leB (a b : Wy) : Bool := !(b.e && !a.e) && (decide (b.h ≤ a.h) && (decide (b.o ≤ a.o) && decide (b.s ≤ a.s)))
theorem le_ok {n : Nat} {k : Int} {a b : Wy} (ha : OkW a) (hb : OkW b) : call (n + 2) 7 [mkI a, mkI b] [.lst [.int k]] = .ok (.bl (leB a b)) [.lst [.int k]] :=
  ways_all2 (f := fun a b => call (n + 2) 7 [mkI a, mkI b] [.lst [.int k]]) (g := fun a b => .ok (.bl (leB a b)) [.lst [.int k]]) (by kernel_rfl) ha hb
theorem eq_ok {n : Nat} {k : Int} {a b : Wy} (ha : OkW a) (hb : OkW b) : call (n + 2) 6 [mkI a, mkI b] [.lst [.int k]] = .ok (.bl (decide (a = b))) [.lst [.int k]] :=
  ways_all2 (f := fun a b => call (n + 2) 6 [mkI a, mkI b] [.lst [.int k]]) (g := fun a b => .ok (.bl (decide (a = b))) [.lst [.int k]]) (by kernel_rfl) ha hb
theorem same_ok {n : Nat} {k : Int} {a b : Wy} (ha : OkW a) (hb : OkW b) : call (n + 3) 12 [wl a, wl b] [.lst [.int k]] = .ok (.bl (decide (a = b))) [.lst [.int k]] :=
  ways_all2 (f := fun a b => call (n + 3) 12 [wl a, wl b] [.lst [.int k]]) (g := fun a b => .ok (.bl (decide (a = b))) [.lst [.int k]]) (by kernel_rfl) ha hb
theorem below_ok {n : Nat} {k : Int} {a b : Wy} (ha : OkW a) (hb : OkW b) : call (n + 1) 21 [wl a, wl b] [.lst [.int k]] = .ok (.bl (leB a b)) [.lst [.int k]] :=
  ways_all2 (f := fun a b => call (n + 1) 21 [wl a, wl b] [.lst [.int k]]) (g := fun a b => .ok (.bl (leB a b)) [.lst [.int k]]) (by kernel_rfl) ha hb
theorem higher_ok {n : Nat} {k : Int} {a b : Wy} (ha : OkW a) (hb : OkW b) : call (n + 1) 19 [wl a, wl b] [.lst [.int k]] = .ok (wl (hi a b)) [.lst [.int k]] :=
  ways_all2 (f := fun a b => call (n + 1) 19 [wl a, wl b] [.lst [.int k]]) (g := fun a b => .ok (wl (hi a b)) [.lst [.int k]]) (by kernel_rfl) ha hb
theorem and_ok {n : Nat} {k : Int} {a b : Wy} (ha : OkW a) (hb : OkW b) : call (n + 4) 9 [mkI a, mkI b] [.lst [.int k]] = .ok (mkI (hi a b)) [.lst [.int k]] :=
  ways_all2 (f := fun a b => call (n + 4) 9 [mkI a, mkI b] [.lst [.int k]]) (g := fun a b => .ok (mkI (hi a b)) [.lst [.int k]]) (by kernel_rfl) ha hb
/-! ### the plain order -/
theorem hi_comm {a b : Wy} : hi b a = hi a b := by
  obtain ⟨a1, a2, a3, a4⟩ := a
  obtain ⟨b1, b2, b3, b4⟩ := b
  unfold hi
  dsimp only
  have m : ∀ x y : Int, (if y < x then x else y) = if x < y then y else x := fun x y => by split <;> split <;> omega
  rw [m a1 b1, m a2 b2, m a3 b3, Bool.or_comm]
theorem hi_self {a : Wy} : hi a a = a := by
  obtain ⟨a1, a2, a3, a4⟩ := a
  unfold hi
  simp
theorem le_hi1 {a b : Wy} : leB (hi a b) a = true := by
  obtain ⟨a1, a2, a3, a4⟩ := a
  obtain ⟨b1, b2, b3, b4⟩ := b
  have m : ∀ x y : Int, (x ≤ if x < y then y else x) = True := fun x y => by apply eq_true; split <;> omega
  unfold leB hi
  simp only [m, decide_true]
  cases a4 <;> cases b4 <;> rfl
theorem le_hi2 {a b : Wy} : leB (hi a b) b = true := by
  rw [← hi_comm]
  exact le_hi1
theorem le_hi {a b c : Wy} : leB c (hi a b) = (leB c a && leB c b) := by
  obtain ⟨a1, a2, a3, a4⟩ := a
  obtain ⟨b1, b2, b3, b4⟩ := b
  obtain ⟨c1, c2, c3, c4⟩ := c
  have m : ∀ x y z : Int, decide ((if x < y then y else x) ≤ z) = (decide (x ≤ z) && decide (y ≤ z)) := fun x y z => by
    rw [← Bool.decide_and]
    exact decide_eq_decide.mpr (by split <;> omega)
  unfold leB hi
  simp only [m]
  cases a4 <;> cases b4 <;> cases c4 <;> cases decide (a1 ≤ c1) <;> cases decide (b1 ≤ c1) <;> cases decide (a2 ≤ c2) <;> cases decide (b2 ≤ c2) <;> cases decide (a3 ≤ c3) <;> cases decide (b3 ≤ c3) <;> rfl
theorem ap_opH {f : W → W → List Cell → Fz.R W} {ma mb : ME} {ρ : EnvW} {h : List Cell} : mOpH f ma mb ρ h = (ma ρ h).bind fun x h1 => (mb ρ h1).bind fun y h2 => f x y h2 := rfl
theorem fOwn_ok {g : Fn} {a b : Wy} {h h' : List Cell} {r : W} (e : g [mkI a, mkI b] h = .ok r h') : fOwn 0 g (mkI a) (mkI b) h = .ok r h' := by
  show noX (g [mkI a, mkI b] h) = _
  rw [e]
  rfl
theorem law_ok {ns : List Int} (hn : ns.length ≤ 63) : ∃ h, call 12 25 [.scr (ns.map .int)] [] = .ok (.bl true) h := by
  obtain ⟨ds, e0⟩ := draws_ok 10 hn
  obtain ⟨a, k1, ha, e2⟩ := way_ok (n := 9) (ds := ds) (k := 0)
  obtain ⟨b, k2, hb, e3⟩ := second_ok (n := 8) (ds := ds) (k := k1) ha
  have hab := hi_ok ha hb
  have e4 := higher_ok (n := 10) (k := k2) ha hb
  obtain ⟨c, k3, hc, e5⟩ := third_ok (n := 8) (ds := ds) (k := k2) hab
  have mk := fun w (hw : OkW w) => made_ok (n := 8) (k := k3) hw
  have mka := mk a ha
  have mkb := mk b hb
  have mkc := mk c hc
  clear mk
  have an := fun x y hx hy => fOwn_ok (and_ok (n := 7) (k := k3) (a := x) (b := y) hx hy)
  have an1 := an a b ha hb
  have an2 := an b a hb ha
  have an3 := an a a ha ha
  have an4 := an (hi a b) c hab hc
  rw [hi_comm] at an2
  rw [hi_self] at an3
  clear an
  have le := fun x y hx hy => fOwn_ok (le_ok (n := 9) (k := k3) (a := x) (b := y) hx hy)
  have le1 := le (hi a b) a hab ha
  have le2 := le (hi a b) b hab hb
  have le3 := le c (hi a b) hc hab
  have le4 := le c a hc ha
  have le5 := le c b hc hb
  rw [le_hi1] at le1
  rw [le_hi2] at le2
  rw [le_hi] at le3
  clear le
  have be1 := below_ok (n := 10) (k := k3) hc ha
  have be2 := below_ok (n := 10) (k := k3) hc hb
  have eq := fun x y hx hy => fOwn_ok (eq_ok (n := 9) (k := k3) (a := x) (b := y) hx hy)
  have eq1 := eq c (hi a b) hc hab
  have eq2 := eq (hi a b) (hi a b) hab hab
  have eq3 := eq a a ha ha
  rw [decide_eq_true rfl] at eq2 eq3
  clear eq
  have sm1 := same_ok (n := 8) (k := k3) hc hab
  have s := fun x y => sameB (n := 10) (k := k3) (x := x) (y := y)
  have fa := fields_ok (n := 8) (k := k3) ha
  have fb := fields_ok (n := 8) (k := k3) hb
  have fc := fields_ok (n := 8) (k := k3) hc
  have fd := fields_ok (n := 8) (k := k3) hab
  have ff := fields_ok (n := 8) (k := k3) (hi_ok hab hc)
  have wa := words_ok (n := 8) (k := k3) ha
  have wb := words_ok (n := 8) (k := k3) hb
  have wc := words_ok (n := 8) (k := k3) hc
  have wd := words_ok (n := 8) (k := k3) hab
  have wf := words_ok (n := 8) (k := k3) (hi_ok hab hc)
  have sa := sameF (n := 8) (k := k3) ha
  have sb := sameF (n := 8) (k := k3) hb
  have sc := sameF (n := 8) (k := k3) hc
  have sd := sameF (n := 8) (k := k3) hab
  have sf := sameF (n := 8) (k := k3) (hi_ok hab hc)
  have hg := higher_ok (n := 10) (k := k3) hab hc
  have e2 : call 11 13 [.lst (ds.map .int), .loc 0] [.lst [.int 0]] = .ok (wl a) (cur k1) := e2
  refine ⟨[], ?_⟩
  rw [show call 12 25 = fnM true 12 1 (M25 (call 11)) from by kernel_rfl]
  have e : M25 (call 11) [some (.scr (ns.map .int)), none, none, none, none, none, none, none, none, none, none, none] [] = .rt (.bl true) [.lst [.int (k3 : Int)]] := by
    obtain ⟨p, lp⟩ := for_pass (src := srcRng 0 1 5) (gg := mGName 11) (body := (mIfS (mNot (mTru (mCall (call 11 24) [] (mCons (mVar 10) (mCons (mVar 3) (mCons (mVar 4) (mCons (mVar 11) mNil))))))) (mRet (mC (.bl false))) mSkip)) (h := Hh k3) (xs := rngW 0 1 5) (m := 6)
      (fun (z : Option W) => [some (.scr (ns.map .int)), some (.lst (ds.map .int)), some (.loc 0), some (wl a), some (wl b), some (wl (hi a b)), some (wl c), some (mkI a), some (mkI b), some (mkI c), some (mkI (hi a b)), z]) (fun i hi => src_rng_at (by simpa using hi))
      (fun x z hx => by
        obtain ⟨m, hm, rfl⟩ := rngW_mem hx
        have q := both_ok (n := 6) (k := k3) ha hb hm
        exact ⟨_, rfl, some (.int (m : Int)), by simp -implicitDefEqProofs [q]⟩) (by simp) none
    unfold M25
    have sz : 1 ≤ sizeLine := by decide
    have i5 : Fz.inR 5 = true := by decide
    simp -implicitDefEqProofs only [ap_seq, ap_set, ap_call, ap_cons, ap_nil, var_s, var_0, bind_ok, toS_ok, thn_nx, e0, List.append_nil, List.set, ap_lstC, ap_c, List.length, sz, if_true, List.nil_append, Nat.zero_add, e2, e3, e4, e5, mka, mkb, mkc, ap_opH, an1, ap_ifS, ap_not, ap_tru, fd, wd, sd, truW_bl, ofO_some, Bool.not_true, Bool.false_eq_true, if_false, ap_skip, ap_for, ap_rng1, i5]
    have t5 : Int.toNat 5 = 5 := rfl
    rw [t5, lp, thn_nx]
    clear lp
    generalize leB c a = x at *
    generalize leB c b = y at *
    generalize decide (c = hi a b) = z at *
    clear e0 e2 e3 e4 e5
    cases x <;> cases y <;> cases z <;> simp -implicitDefEqProofs [ap_opH, ap_andv, an1, an2, an3, an4, le1, le2, le3, le4, le5, be1, be2, eq1, eq2, eq3, sm1, s, fa, fb, fc, fd, ff, wa, wb, wc, wd, wf, sa, sb, sc, sd, sf, hg]
  have e' : fnB 12 1 (M25 (call 11)) [.scr (ns.map .int)] [] = .ok (.bl true) [.lst [.int (k3 : Int)]] := by
    show (M25 (call 11) [some (.scr (ns.map .int)), none, none, none, none, none, none, none, none, none, none, none] []).toR = _
    rw [e]
    rfl
  unfold fnM
  rw [if_pos rfl, e']
  rfl
end K05

theorem PySem.Challenge.cw_finerlocks_k05_whole_way_meet_holds : PySem.Challenge.rw_finerlocks_k05_whole_way_meet.Holds := by
  exact K05.holds_of fun ns hl => K05.law_ok hl
