import PyProof.Rows.All
import Wide.All
import OpenK.AllK
import Wide.FinOn
import HandS.ForMost
import HandS.ForExc
import HandS.Walk
import HandS.IsInst
import HandS.Defaults
import HandS.MakeKw
import HandS.MakeKwOnly
import HandS.ExcInit
import HandS.ExcField
import HandS.HotCalls
import HandS.Nested
import KE.KExcIs
import KE.KExcSuper
import KE.GoesEnum
import KE.GoesMore
import HandS.Property
import KE.KStateDown
import HandS.Ends
import HandS.More
import HandS.Words
import HandS.WordsExc
import HandS.Head0
import HandS.Head1
import HandS.Head2
import HandS.HeadEnd
import HandS.HeadHook1
import HandS.HeadHook2
import HandS.Comp
import HandS.IterVal
import HandS.Dict
import HandS.Strs
import HandS.ClsMeth
import HandS.Deep
import HandS.Text
import HandS.Style
import HandS.Replace
import HandS.ReplaceLit
import HandS.ReplaceList
import HandS.ReplaceDef
import HandS.FStr
import HandS.RaiseMore
import HandS.HeadNt
import KE.KCallOwn
import PySem.Challenge.RW_finerlocks_k07_way_texts
set_option Elab.async false
set_option linter.all false
set_option maxRecDepth 100000
set_option maxHeartbeats 4000000
namespace Fz
open PySem PySem.Spec PyProof.Rows L2

/-- built-in types that are asked for -/
inductive BT where
  | int | str | bool | list | tuple | dict | none | verr
  deriving DecidableEq
def BT.name : BT → String
  | .int => "int"
  | .str => "str"
  | .bool => "bool"
  | .list => "list"
  | .tuple => "tuple"
  | .dict => "dict"
  | .none => "NoneType"
  | .verr => "ValueError"
/-- value trees: what is frozen stands as data, what is live as the number of its cell -/
inductive W where
  | non | bl (b : Bool) | int (i : Int) | str (s : Str)
  | tup (l : List W) | lst (l : List W)
  | ins (c : Nat) (vs : List W)
  | loc (n : Nat)
  | cls (c : Nat)
  | ty (n : BT)
  /-- the law's script -/
  | scr (l : List W)
  /-- a dict that changes no more -/
  | dk (ks : List Key) (vs : List W)
  | dt (ks : List (List Key)) (vs : List W)
  /-- an exception of the class c, its fields -/
  | exn (c : Nat) (vs : List W)

inductive Cell where
  | lst (l : List W) | dk (kvs : List (Key × W)) | dt (kvs : List (List Key × W)) | ins (c : Nat) (vs : List W) | dead

/-- the text's own classes by numbers -/
structure Tab where
  K : PySem.W.Frag
  ca : Nat → Addr
  /-- the fields of a class, in the order in which they are first stored -/
  fl : Nat → List Str
  /-- is there a written tuple of this length? (such a one is no key) -/
  kt : Nat → Bool := fun _ => true

inductive All2 {α β : Type} (R : α → β → Prop) : List α → List β → Prop
  | nil : All2 R [] []
  | cons {a b l m} : R a b → All2 R l m → All2 R (a :: l) (b :: m)
namespace All2
variable {α β : Type} {R S : α → β → Prop}
theorem imp (f : ∀ a b, R a b → S a b) : ∀ {l m}, All2 R l m → All2 S l m
  | _, _, .nil => .nil
  | _, _, .cons h t => .cons (f _ _ h) (imp f t)
theorem length : ∀ {l : List α} {m : List β}, All2 R l m → l.length = m.length
  | _, _, .nil => rfl
  | _, _, .cons _ t => congrArg (· + 1) (length t)
theorem append : ∀ {l l' : List α} {m m' : List β}, All2 R l m → All2 R l' m' → All2 R (l ++ l') (m ++ m')
  | _, _, _, _, .nil, s => s
  | _, _, _, _, .cons h t, s => .cons h (append t s)
theorem get : ∀ {l : List α} {m : List β} {i : Nat} {a : α}, All2 R l m → l[i]? = some a → ∃ b, m[i]? = some b ∧ R a b
  | _, _, 0, a, .cons h t, e => ⟨_, rfl, by simp at e; subst e; exact h⟩
  | _, _, i + 1, a, .cons h t, e => by
    obtain ⟨b, h1, h2⟩ := get (i := i) (a := a) t (by simpa using e)
    exact ⟨b, by simpa using h1, h2⟩
  | _, _, _, _, .nil, e => by simp at e
theorem get' : ∀ {l : List α} {m : List β} {i : Nat} {b : β}, All2 R l m → m[i]? = some b → ∃ a, l[i]? = some a ∧ R a b
  | _, _, 0, b, .cons h t, e => ⟨_, rfl, by simp at e; subst e; exact h⟩
  | _, _, i + 1, b, .cons h t, e => by
    obtain ⟨a, h1, h2⟩ := get' (i := i) (b := b) t (by simpa using e)
    exact ⟨a, by simpa using h1, h2⟩
  | _, _, _, _, .nil, e => by simp at e
theorem set {a : α} {b : β} (r : R a b) : ∀ {l : List α} {m : List β} (i : Nat), All2 R l m → All2 R (l.set i a) (m.set i b)
  | _, _, _, .nil => .nil
  | _, _, 0, .cons h t => .cons r t
  | _, _, i + 1, .cons h t => .cons h (set r i t)
theorem take : ∀ {l : List α} {m : List β} (n : Nat), All2 R l m → All2 R (l.take n) (m.take n)
  | _, _, 0, _ => .nil
  | _, _, _ + 1, .nil => .nil
  | _, _, n + 1, .cons h t => .cons h (take n t)
theorem drop : ∀ {l : List α} {m : List β} (n : Nat), All2 R l m → All2 R (l.drop n) (m.drop n)
  | _, _, 0, h => h
  | _, _, _ + 1, .nil => .nil
  | _, _, n + 1, .cons h t => drop n t
theorem reverse : ∀ {l : List α} {m : List β}, All2 R l m → All2 R l.reverse m.reverse
  | _, _, .nil => .nil
  | _, _, .cons h t => by simp only [List.reverse_cons]; exact (reverse t).append (.cons h .nil)
end All2

/-! ### what stands in the written part: nested tuples and lists of flat things -/
def KLs (K : PySem.W.Frag) (a : Addr) (xs : List V) : Prop := ∃ (o : Obj) (its : Array Value) (n : Nat), K.lookup a = some o ∧ o.cls = .type "list" ∧ o.dict = none ∧ o.data = .seq its n ∧ its.size ≤ sizeLine ∧ Vals xs its.toList
def KTp (K : PySem.W.Frag) (a : Addr) (xs : List V) : Prop := ∃ (o : Obj) (its : Array Value) (n : Nat), K.lookup a = some o ∧ o.cls = .type "tuple" ∧ o.data = .seq its n ∧ its.size ≤ sizeLine ∧ Vals xs its.toList
mutual
inductive KV (T : Tab) : W → V → Prop
  | non : KV T .non .non
  | bl {b} : KV T (.bl b) (.bl b)
  | int {i} : KV T (.int i) (.int i)
  | str {s} : KV T (.str s) (.str s)
  | cls {c} : KV T (.cls c) (.ref (T.ca c))
  | ty {n : BT} : KV T (.ty n) (.ty n.name)
  | tup {a vs l} : T.kt l.length = true → KTp T.K a vs → KVs T l vs → KV T (.tup l) (.ref a)
  | scr {a vs l} : KLs T.K a vs → KVs T l vs → KV T (.scr l) (.ref a)
inductive KVs (T : Tab) : List W → List V → Prop
  | nil : KVs T [] []
  | cons {x v l m} : KV T x v → KVs T l m → KVs T (x :: l) (v :: m)
end

/-! ### worlds -/
inductive FO where
  | lst (l : List W) | tup (l : List W) | ins (c : Nat) (vs : List W) | scr (l : List W) | dk (ks : List Key) (vs : List W) | dt (ks : List (List Key)) (vs : List W) | exn (c : Nat) (vs : List W)
structure Wd where
  cl : List Addr
  fz : Addr → Option FO
def VR (T : Tab) (w : Wd) : W → V → Prop
  | .non, v => v = .non
  | .bl b, v => v = .bl b
  | .int i, v => v = .int i
  | .str s, v => v = .str s
  | .tup l, v => (∃ a, v = .ref a ∧ w.fz a = some (.tup l)) ∨ KV T (.tup l) v
  | .lst l, v => ∃ a, v = .ref a ∧ w.fz a = some (.lst l)
  | .ins c vs, v => ∃ a, v = .ref a ∧ w.fz a = some (.ins c vs)
  | .loc n, v => ∃ a, v = .ref a ∧ w.cl[n]? = some a
  | .cls c, v => v = .ref (T.ca c)
  | .ty n, v => v = .ty n.name
  | .scr l, v => (∃ a, v = .ref a ∧ w.fz a = some (.scr l)) ∨ KV T (.scr l) v
  | .dk ks vs, v => ∃ a, v = .ref a ∧ w.fz a = some (.dk ks vs)
  | .dt ks vs, v => ∃ a, v = .ref a ∧ w.fz a = some (.dt ks vs)
  | .exn c vs, v => ∃ a, v = .ref a ∧ w.fz a = some (.exn c vs)
abbrev VRs (T : Tab) (w : Wd) : List W → List V → Prop := All2 (VR T w)
/-- at a: an exception of the class at C, its dict at d -/
def ErrAt (H : Hp) (a C : Addr) (d : Option Addr) : Prop := ∃ φ : Heap → Prop, H a = some (.ext φ) ∧ ∀ h, φ h → ∃ (oe : Obj) (vs : Array Value), h.get? a = some oe ∧ Zc (.ref C) d oe ∧ oe.data = .fields vs
/-- at d: an exception's dict -/
def XdAt (H : Hp) (d : Addr) (fs : List (Str × V)) : Prop := H d = some (.xd fs) ∨ H d = some (exd d fs)
theorem XdAt.some {H : Hp} {d : Addr} {fs : List (Str × V)} (x : XdAt H d fs) : H d ≠ none := by
  rcases x with x | x <;> rw [x] <;> exact fun z => nomatch z
def FOk (T : Tab) (w : Wd) (H : Hp) (a : Addr) : FO → Prop
  | .lst l => ∃ vs, H a = some (.lst vs) ∧ VRs T w l vs
  | .tup l => ∃ vs, H a = some (.tup vs) ∧ VRs T w l vs
  | .scr l => ∃ vs, Rd H a (.lst vs) ∧ VRs T w l vs
  | .ins c ws => ∃ dx vs, H a = some (.ins (T.ca c) dx ((T.fl c).zip vs)) ∧ VRs T w ws vs ∧ ws.length ≤ (T.fl c).length
  | .dk ks ws => ∃ vs, H a = some (.dK (ks.zip vs)) ∧ VRs T w ws vs ∧ ks.length = ws.length
  | .dt ks ws => ∃ vs, H a = some (.dT (ks.zip vs)) ∧ VRs T w ws vs ∧ ks.length = ws.length
  | .exn c ws => ∃ d vs, ErrAt H a (T.ca c) d ∧ VRs T w ws vs ∧ ((ws = [] ∧ d = none) ∨ ∃ dd, d = some dd ∧ XdAt H dd ((T.fl c).zip vs) ∧ ws.length = (T.fl c).length)
def DKs {κ : Type} (T : Tab) (w : Wd) : List (κ × W) → List (κ × V) → Prop := All2 fun p q => p.1 = q.1 ∧ VR T w p.2 q.2
def COk (T : Tab) (w : Wd) (H : Hp) (a : Addr) : Cell → Prop
  | .lst l => ∃ vs, H a = some (.lst vs) ∧ VRs T w l vs
  | .dk kvs => ∃ kvs', H a = some (.dK kvs') ∧ DKs T w kvs kvs'
  | .dt kvs => ∃ kvs', H a = some (.dT kvs') ∧ DKs T w kvs kvs'
  | .ins c ws => ∃ dx vs, H a = some (.ins (T.ca c) dx ((T.fl c).zip vs)) ∧ VRs T w ws vs ∧ ws.length ≤ (T.fl c).length
  | .dead => H a ≠ none
def Cell.live : Cell → Prop
  | .dead => False
  | _ => True
theorem COk.noXd {T : Tab} {w : Wd} {H : Hp} {a : Addr} {fs : List (Str × V)} : ∀ {c : Cell}, COk T w H a c → c.live → XdAt H a fs → False
  | .lst _, ⟨_, q, _⟩, _, x => by
    rcases x with x | x <;> rw [q] at x <;> have x := Option.some.inj x <;> unfold exd at * <;> cases x
  | .dk _, ⟨_, q, _⟩, _, x => by
    rcases x with x | x <;> rw [q] at x <;> have x := Option.some.inj x <;> unfold exd at * <;> cases x
  | .dt _, ⟨_, q, _⟩, _, x => by
    rcases x with x | x <;> rw [q] at x <;> have x := Option.some.inj x <;> unfold exd at * <;> cases x
  | .ins _ _, ⟨_, _, q, _⟩, _, x => by
    rcases x with x | x <;> rw [q] at x <;> have x := Option.some.inj x <;> unfold exd at * <;> cases x
  | .dead, _, l, _ => l.elim
structure StR (T : Tab) (w : Wd) (h : List Cell) (H : Hp) : Prop where
  fz : ∀ (a : Addr) (o : FO), w.fz a = some o → FOk T w H a o
  len : w.cl.length = h.length
  nd : w.cl.Nodup
  cel : ∀ (n : Nat) (c : Cell) (a : Addr), h[n]? = some c → w.cl[n]? = some a → COk T w H a c ∧ (c.live → w.fz a = none)
structure Le (w w' : Wd) : Prop where
  cl : ∃ more, w'.cl = w.cl ++ more
  fz : ∀ a o, w.fz a = some o → w'.fz a = some o
theorem Le.refl (w : Wd) : Le w w := ⟨⟨[], by simp⟩, fun _ _ h => h⟩
theorem Le.trans {a b c : Wd} (x : Le a b) (y : Le b c) : Le a c := by
  obtain ⟨m, hm⟩ := x.cl
  obtain ⟨n, hn⟩ := y.cl
  exact ⟨⟨m ++ n, by rw [hn, hm, List.append_assoc]⟩, fun a o h => y.fz a o (x.fz a o h)⟩
theorem Le.get {w w' : Wd} (x : Le w w') {n : Nat} {a : Addr} (h : w.cl[n]? = some a) : w'.cl[n]? = some a := by
  obtain ⟨m, hm⟩ := x.cl
  rw [hm, List.getElem?_append_left (List.getElem?_eq_some_iff.mp h).1]
  exact h
section
variable {T : Tab} {w w' : Wd} {h h' : List Cell} {H H' : Hp}
theorem VR.mono (e : Le w w') : ∀ {x : W} {v : V}, VR T w x v → VR T w' x v
  | .non, _, h => h
  | .bl _, _, h => h
  | .int _, _, h => h
  | .str _, _, h => h
  | .tup _, _, h => h.imp (fun ⟨a, q, r⟩ => ⟨a, q, e.fz _ _ r⟩) id
  | .lst _, _, ⟨a, q, r⟩ => ⟨a, q, e.fz _ _ r⟩
  | .ins _ _, _, ⟨a, q, r⟩ => ⟨a, q, e.fz _ _ r⟩
  | .loc _, _, ⟨a, q, r⟩ => ⟨a, q, e.get r⟩
  | .cls _, _, h => h
  | .ty _, _, h => h
  | .scr _, _, h => h.imp (fun ⟨a, q, r⟩ => ⟨a, q, e.fz _ _ r⟩) id
  | .dk _ _, _, ⟨a, q, r⟩ => ⟨a, q, e.fz _ _ r⟩
  | .dt _ _, _, ⟨a, q, r⟩ => ⟨a, q, e.fz _ _ r⟩
  | .exn _ _, _, ⟨a, q, r⟩ => ⟨a, q, e.fz _ _ r⟩
theorem VRs.mono (e : Le w w') {l : List W} {m : List V} (h : VRs T w l m) : VRs T w' l m := All2.imp (fun _ _ => VR.mono e) h
theorem KV.vr : ∀ {x : W} {v : V}, KV T x v → VR T w x v
  | _, _, .non => rfl
  | _, _, .bl => rfl
  | _, _, .int => rfl
  | _, _, .str => rfl
  | _, _, .cls => rfl
  | _, _, .ty => rfl
  | _, _, .tup z a b => .inr (.tup z a b)
  | _, _, .scr a b => .inr (.scr a b)
theorem KVs.vrs : ∀ {l : List W} {m : List V}, KVs T l m → VRs T w l m
  | _, _, .nil => .nil
  | _, _, .cons a b => .cons a.vr b.vrs
theorem DKs.mono {κ : Type} (e : Le w w') {l : List (κ × W)} {m : List (κ × V)} (h : DKs T w l m) : DKs T w' l m := All2.imp (fun _ _ q => ⟨q.1, q.2.mono e⟩) h
theorem FOk.mono (e : Le w w') {a : Addr} : ∀ {o : FO}, FOk T w H a o → FOk T w' H a o
  | .lst _, ⟨vs, q, r⟩ => ⟨vs, q, VRs.mono e r⟩
  | .tup _, ⟨vs, q, r⟩ => ⟨vs, q, VRs.mono e r⟩
  | .scr _, ⟨vs, q, r⟩ => ⟨vs, q, VRs.mono e r⟩
  | .ins _ _, ⟨dx, vs, q, r, z⟩ => ⟨dx, vs, q, VRs.mono e r, z⟩
  | .dk _ _, ⟨vs, q, r, z⟩ => ⟨vs, q, VRs.mono e r, z⟩
  | .dt _ _, ⟨vs, q, r, z⟩ => ⟨vs, q, VRs.mono e r, z⟩
  | .exn _ _, ⟨d, vs, q, r, z⟩ => ⟨d, vs, q, VRs.mono e r, z⟩
theorem COk.mono (e : Le w w') {a : Addr} : ∀ {o : Cell}, COk T w H a o → COk T w' H a o
  | .lst _, ⟨vs, q, r⟩ => ⟨vs, q, VRs.mono e r⟩
  | .dk _, ⟨vs, q, r⟩ => ⟨vs, q, DKs.mono e r⟩
  | .dt _, ⟨vs, q, r⟩ => ⟨vs, q, DKs.mono e r⟩
  | .ins _ _, ⟨dx, vs, q, r, z⟩ => ⟨dx, vs, q, VRs.mono e r, z⟩
  | .dead, q => q
theorem Rd.upd {a b : Addr} {o u : HO} (h : Rd H a u) (ne : a ≠ b) : Rd (L2.upd H b o) a u := by
  rcases h with h | ⟨x, h⟩
  · exact .inl (by rw [upd_ne ne]; exact h)
  · exact .inr ⟨x, by rw [upd_ne ne]; exact h⟩
theorem Rd.some {a : Addr} {u : HO} (h : Rd H a u) : H a ≠ none := by
  rcases h with h | ⟨x, h⟩ <;> · rw [h]; exact fun z => nomatch z
theorem FOk.upd {a b : Addr} {u : HO} (ne : a ≠ b) (nx : ∀ d fs, XdAt H d fs → d ≠ b) : ∀ {o : FO}, FOk T w H a o → FOk T w (L2.upd H b u) a o
  | .lst _, ⟨vs, q, r⟩ => ⟨vs, by rw [upd_ne ne]; exact q, r⟩
  | .tup _, ⟨vs, q, r⟩ => ⟨vs, by rw [upd_ne ne]; exact q, r⟩
  | .scr _, ⟨vs, q, r⟩ => ⟨vs, Rd.upd q ne, r⟩
  | .ins _ _, ⟨dx, vs, q, r⟩ => ⟨dx, vs, by rw [upd_ne ne]; exact q, r⟩
  | .dk _ _, ⟨vs, q, r⟩ => ⟨vs, by rw [upd_ne ne]; exact q, r⟩
  | .dt _ _, ⟨vs, q, r⟩ => ⟨vs, by rw [upd_ne ne]; exact q, r⟩
  | .exn _ _, ⟨d, vs, ⟨φ, q1, q2⟩, r, z⟩ => ⟨d, vs, ⟨φ, by rw [upd_ne ne]; exact q1, q2⟩, r, z.imp id fun ⟨dd, e1, e2, e3⟩ => ⟨dd, e1, by
    have hd := nx dd _ e2
    unfold XdAt
    rw [upd_ne hd]
    exact e2, e3⟩⟩
theorem FOk.some {a : Addr} : ∀ {o : FO}, FOk T w H a o → H a ≠ none
  | .lst _, ⟨vs, q, r⟩ => by rw [q]; exact fun z => nomatch z
  | .tup _, ⟨vs, q, r⟩ => by rw [q]; exact fun z => nomatch z
  | .scr _, ⟨vs, q, r⟩ => Rd.some q
  | .ins _ _, ⟨dx, vs, q, r⟩ => by rw [q]; exact fun z => nomatch z
  | .dk _ _, ⟨vs, q, r⟩ => by rw [q]; exact fun z => nomatch z
  | .dt _ _, ⟨vs, q, r⟩ => by rw [q]; exact fun z => nomatch z
  | .exn _ _, ⟨d, vs, ⟨φ, q, _⟩, _⟩ => by rw [q]; exact fun z => nomatch z
theorem COk.upd {a b : Addr} {u : HO} (ne : a ≠ b) : ∀ {o : Cell}, COk T w H a o → COk T w (L2.upd H b u) a o
  | .lst _, ⟨vs, q, r⟩ => ⟨vs, by rw [upd_ne ne]; exact q, r⟩
  | .dk _, ⟨vs, q, r⟩ => ⟨vs, by rw [upd_ne ne]; exact q, r⟩
  | .dt _, ⟨vs, q, r⟩ => ⟨vs, by rw [upd_ne ne]; exact q, r⟩
  | .ins _ _, ⟨dx, vs, q, r⟩ => ⟨dx, vs, by rw [upd_ne ne]; exact q, r⟩
  | .dead, q => by show L2.upd H b u a ≠ none; rw [upd_ne ne]; exact q
theorem COk.some {a : Addr} : ∀ {o : Cell}, COk T w H a o → H a ≠ none
  | .lst _, ⟨vs, q, r⟩ => by rw [q]; exact fun z => nomatch z
  | .dk _, ⟨vs, q, r⟩ => by rw [q]; exact fun z => nomatch z
  | .dt _, ⟨vs, q, r⟩ => by rw [q]; exact fun z => nomatch z
  | .ins _ _, ⟨dx, vs, q, r⟩ => by rw [q]; exact fun z => nomatch z
  | .dead, q => q
theorem StR.cl_some (s : StR T w h H) {a : Addr} (e : a ∈ w.cl) : H a ≠ none := by
  obtain ⟨n, hn⟩ := List.mem_iff_getElem?.mp e
  have hl : n < h.length := by rw [← s.len]; exact (List.getElem?_eq_some_iff.mp hn).1
  exact (s.cel n h[n] a (List.getElem?_eq_getElem hl) hn).1.some
/-- an object that nothing here speaks of is laid -/
theorem StR.other (s : StR T w h H) {p : Addr} {o : HO} (hp : H p = none) : StR T w h (upd H p o) where
  fz := fun a u e => (s.fz a u e).upd (fun z => (s.fz a u e).some (by rw [z]; exact hp)) (fun d fs x z => x.some (by rw [z]; exact hp))
  len := s.len
  nd := s.nd
  cel := fun n c a e1 e2 => ⟨(s.cel n c a e1 e2).1.upd (fun z => (s.cel n c a e1 e2).1.some (by rw [z]; exact hp)), (s.cel n c a e1 e2).2⟩
def Wd.addF (w : Wd) (p : Addr) (o : FO) : Wd := ⟨w.cl, fun a => if a = p then some o else w.fz a⟩
def Wd.addC (w : Wd) (p : Addr) : Wd := ⟨w.cl ++ [p], w.fz⟩
theorem Le.addF {p : Addr} {o : FO} (n : w.fz p = none) : Le w (w.addF p o) := ⟨⟨[], by simp [Wd.addF]⟩, fun a u e => by
  show (if a = p then some o else w.fz a) = some u
  rw [if_neg (fun z => by rw [z, n] at e; cases e)]
  exact e⟩
theorem Le.addC {p : Addr} : Le w (w.addC p) := ⟨⟨[p], rfl⟩, fun _ _ e => e⟩
theorem StR.fzn (s : StR T w h H) {p : Addr} (hp : H p = none) : w.fz p = none := by
  cases e : w.fz p with
  | none => rfl
  | some o => exact absurd hp (s.fz p o e).some
/-- a new frozen object -/
theorem StR.frozen (s : StR T w h H) {p : Addr} {o : FO} {u : HO} (hp : H p = none) (new : FOk T w (upd H p u) p o) : StR T (w.addF p o) h (upd H p u) ∧ Le w (w.addF p o) := by
  have le : Le w (w.addF p o) := Le.addF (s.fzn hp)
  refine ⟨⟨fun a x e => ?_, s.len, s.nd, fun n c a e1 e2 => ?_⟩, le⟩
  · by_cases ha : a = p
    · subst ha
      have : x = o := by
        have e' : (if a = a then some o else w.fz a) = some x := e
        rw [if_pos rfl] at e'
        exact (Option.some.inj e').symm
      rw [this]
      exact new.mono le
    · have e' : (if a = p then some o else w.fz a) = some x := e
      rw [if_neg ha] at e'
      exact ((s.fz a x e').upd ha (fun d fs x z => x.some (by rw [z]; exact hp))).mono le
  · have ha : a ≠ p := fun z => (s.cel n c a e1 e2).1.some (by rw [z]; exact hp)
    refine ⟨((s.cel n c a e1 e2).1.upd ha).mono le, fun lv => ?_⟩
    show (if a = p then some o else w.fz a) = none
    rw [if_neg ha]
    exact (s.cel n c a e1 e2).2 lv
/-- a new live cell -/
theorem StR.cell (s : StR T w h H) {p : Addr} {c : Cell} {u : HO} (hp : H p = none) (new : COk T w (upd H p u) p c) : StR T (w.addC p) (h ++ [c]) (upd H p u) := by
  have le : Le w (w.addC p) := Le.addC
  refine ⟨fun a x e => ((s.fz a x e).upd (fun z => (s.fz a x e).some (by rw [z]; exact hp)) (fun d fs x z => x.some (by rw [z]; exact hp))).mono le, ?_, ?_, fun n d a e1 e2 => ?_⟩
  · show (w.cl ++ [p]).length = (h ++ [c]).length
    rw [List.length_append, List.length_append, s.len]
    rfl
  · show (w.cl ++ [p]).Nodup
    rw [List.nodup_append]
    exact ⟨s.nd, by simp, fun a ha b hb => by
      rw [List.mem_singleton.mp hb]
      exact fun z => s.cl_some ha (by rw [z]; exact hp)⟩
  · have e2' : (w.cl ++ [p])[n]? = some a := e2
    by_cases hn : n < h.length
    · rw [List.getElem?_append_left hn] at e1
      rw [List.getElem?_append_left (by rw [s.len]; exact hn)] at e2'
      exact ⟨((s.cel n d a e1 e2').1.upd (fun z => (s.cel n d a e1 e2').1.some (by rw [z]; exact hp))).mono le, (s.cel n d a e1 e2').2⟩
    · have hl : n < (h ++ [c]).length := (List.getElem?_eq_some_iff.mp e1).1
      have : n = h.length := by simp at hl; omega
      subst this
      rw [List.getElem?_append_right (Nat.le_refl _)] at e1
      rw [List.getElem?_append_right (by rw [s.len]; exact Nat.le_refl _)] at e2'
      simp at e1
      simp [s.len] at e2'
      subst e1 e2'
      exact ⟨new.mono le, fun _ => s.fzn hp⟩
/-- a live cell is written -/
theorem StR.write (s : StR T w h H) {n : Nat} {a : Addr} {c d : Cell} {u : HO} (e1 : h[n]? = some c) (e2 : w.cl[n]? = some a) (lv : c.live) (new : COk T w (upd H a u) a d) : StR T w (h.set n d) (upd H a u) := by
  have nf := (s.cel n c a e1 e2).2 lv
  refine ⟨fun b x e => (s.fz b x e).upd (fun z => by rw [z, nf] at e; cases e) (fun d fs x z => (s.cel n c a e1 e2).1.noXd lv (z ▸ x)), by rw [List.length_set]; exact s.len, s.nd, fun m d' b q1 q2 => ?_⟩
  by_cases hm : m = n
  · subst hm
    rw [e2] at q2
    cases q2
    rw [List.getElem?_set_self (List.getElem?_eq_some_iff.mp e1).1] at q1
    cases q1
    exact ⟨new, fun _ => nf⟩
  · rw [List.getElem?_set_ne (Ne.symm hm)] at q1
    have hb : b ≠ a := fun z => hm (by
      subst z
      have h1 := List.getElem?_eq_some_iff.mp q2
      have h2 := List.getElem?_eq_some_iff.mp e2
      exact (List.getElem_inj s.nd).mp (h1.2.trans h2.2.symm))
    exact ⟨(s.cel m d' b q1 q2).1.upd hb, (s.cel m d' b q1 q2).2⟩
end
end Fz

namespace Fz
open PySem PySem.Spec PyProof.Rows L2

/-! ### results -/
inductive R (α : Type) where
  | ok (x : α) (h : List Cell)
  | exc (c : Nat) (vs : List W) (h : List Cell)
  | bad
def R.bind {α β : Type} (m : R α) (f : α → List Cell → R β) : R β := match m with
  | .ok x h => f x h
  | .exc c vs h => .exc c vs h
  | .bad => .bad
abbrev EnvW := List (Option W)
abbrev ME := EnvW → List Cell → R W
abbrev MT := EnvW → List Cell → R Bool
abbrev MA := EnvW → List Cell → R (List W)
/-- the payload of an exception in the heap: the class's own fields -/
def EOk (T : Tab) (w : Wd) (H : Hp) (c : Nat) (vs : List W) (d : Option Addr) : Prop :=
  (vs = [] ∧ d = none) ∨ ∃ dd us, d = some dd ∧ H dd = some (.xd ((T.fl c).zip us)) ∧ VRs T w vs us ∧ vs.length = (T.fl c).length
def Post {α β : Type} (T : Tab) (rel : Wd → α → β → Prop) (w : Wd) (Q : β → Hp → Prop) (E : XK) : R α → Prop
  | .ok x h' => ∀ w' H' v, Le w w' → StR T w' h' H' → rel w' x v → Q v H'
  | .exc c vs h' => ∀ w' H' d, Le w w' → StR T w' h' H' → EOk T w' H' c vs d → E (.ref (T.ca c)) d H'
  | .bad => False
theorem Post.mono {α β : Type} {T : Tab} {rel : Wd → α → β → Prop} {w w1 : Wd} {Q : β → Hp → Prop} {E : XK} (le : Le w w1) : ∀ {m : R α}, Post T rel w Q E m → Post T rel w1 Q E m
  | .ok _ _, h => fun w' H' v l s r => h w' H' v (le.trans l) s r
  | .exc _ _ _, h => fun w' H' d l s r => h w' H' d (le.trans l) s r
  | .bad, h => h
theorem Post.imp {α β : Type} {T : Tab} {rel : Wd → α → β → Prop} {w : Wd} {Q Q' : β → Hp → Prop} {E E' : XK} (k : ∀ v H, Q v H → Q' v H) (e : ∀ c d H, E c d H → E' c d H) : ∀ {m : R α}, Post T rel w Q E m → Post T rel w Q' E' m
  | .ok _ _, h => fun w' H' v l s r => k _ _ (h w' H' v l s r)
  | .exc _ _ _, h => fun w' H' d l s r => e _ _ _ (h w' H' d l s r)
  | .bad, h => h
theorem Post.bind {α β γ δ : Type} {T : Tab} {rel : Wd → α → β → Prop} {rel' : Wd → γ → δ → Prop} {w : Wd} {Q : δ → Hp → Prop} {Q' : β → Hp → Prop} {E : XK} {m : R α} {f : α → List Cell → R γ}
    (h : Post T rel' w Q E (m.bind f)) (k : ∀ x h1 w1 H1 v, Le w w1 → StR T w1 h1 H1 → rel w1 x v → Post T rel' w1 Q E (f x h1) → Q' v H1) : Post T rel w Q' E m := by
  cases m with
  | ok x h1 => exact fun w1 H1 v le s r => k x h1 w1 H1 v le s r (Post.mono le (show Post T rel' w Q E (f x h1) from h))
  | exc c vs h1 => exact h
  | bad => exact h
def OR (T : Tab) (w : Wd) : Option W → Option V → Prop := fun o s => ∀ x, o = some x → ∃ v, s = some v ∧ VR T w x v
abbrev EnvR (T : Tab) (w : Wd) : EnvW → L2.St → Prop := All2 (OR T w)
theorem EnvR.mono {T : Tab} {w w' : Wd} (e : Le w w') {ρ : EnvW} {σ : L2.St} (h : EnvR T w ρ σ) : EnvR T w' ρ σ := All2.imp (fun _ _ q x ex => by
  obtain ⟨v, h1, h2⟩ := q x ex
  exact ⟨v, h1, h2.mono e⟩) h
def relB (_ : Wd) (a b : Bool) : Prop := b = a
/-! ### readings -/
def teI (T : Tab) (E : WX) (m : ME) : TE := fun σ H Q => ∃ w ρ h, StR T w h H ∧ EnvR T w ρ σ ∧ Post T (VR T) w Q (fun c d H' => E c d σ H') (m ρ h)
def ttI (T : Tab) (E : WX) (m : MT) : TT := fun σ H Q => ∃ w ρ h, StR T w h H ∧ EnvR T w ρ σ ∧ Post T relB w Q (fun c d H' => E c d σ H') (m ρ h)
def taI (T : Tab) (E : WX) (m : MA) : TA := fun σ H Q => ∃ w ρ h, StR T w h H ∧ EnvR T w ρ σ ∧ Post T (VRs T) w Q (fun c d H' => E c d σ H') (m ρ h)
/-- where one stands -/
structure Gx (T : Tab) (X : Cx) (E : WX) (n : Nat) (gb : Bool) : Prop where
  K : X.K = T.K
  calmB : gb = true → X.calm = true
  nd : X.N.Nodup
  roomH : L2H.RoomH n X.A
  hdB : gb = true → X.A.handled = none
  tk : L2.Takes X E
  po : PassesOwn (model X.prog X.w) X.A X.env X.xe
/-- .. where nothing is handled -/
abbrev Gd (T : Tab) (X : Cx) (E : WX) (n : Nat) : Prop := Gx T X E n true
section
variable {T : Tab} {X : Cx} {E : WX} {n : Nat} {gb : Bool}
theorem Gx.calm (G : Gd T X E n) : X.calm = true := G.calmB rfl
theorem Gx.room (G : Gd T X E n) : Room n X.A := ⟨G.hdB rfl, G.roomH.dp, G.roomH.un⟩
theorem Gx.units (G : Gx T X E n gb) : X.A.units + 64 < cLine := by have := G.roomH.un; omega
theorem Gx.roomu (G : Gx T X E n gb) : X.A.units + 1 < cLine := by have := G.roomH.un; omega
theorem gd_mk (K : X.K = T.K) (calm : X.calm = true) (nd : X.N.Nodup) (room : Room n X.A) (tk : L2.Takes X E) (po : PassesOwn (model X.prog X.w) X.A X.env X.xe) : Gd T X E n := ⟨K, fun _ => calm, nd, ⟨room.dp, room.un⟩, fun _ => room.hd, tk, po⟩
end
section
variable {T : Tab} {X : Cx} {E : WX} {n : Nat} {a b c e : Expr} {ma mb mc : ME} {pos : Pos}
theorem PE.imp {e : Expr} {t t' : TE} (h : PE X e t) (k : ∀ σ H Q, t' σ H Q → t σ H Q) : PE X e t' := ⟨fun pins s σ H Q I q => h.run pins s σ H Q I (k σ H Q q)⟩
theorem PT.imp {e : Expr} {t t' : TT} (h : PT X e t) (k : ∀ σ H Q, t' σ H Q → t σ H Q) : PT X e t' := ⟨fun pins s σ H Q I q => h.run pins s σ H Q I (k σ H Q q)⟩
theorem PW.imp {e : Expr} {t t' : TT} (h : PW X e t) (k : ∀ σ H Q, t' σ H Q → t σ H Q) : PW X e t' := ⟨fun w pins s σ H Q I q => h.run w pins s σ H Q I (k σ H Q q)⟩
theorem PA.imp {e : List Expr} {t t' : TA} (h : PA X e t) (k : ∀ σ H Q, t' σ H Q → t σ H Q) : PA X e t' := ⟨fun w pins s σ H Q I q => h.run w pins s σ H Q I (k σ H Q q)⟩
theorem PS.imp {e : Stmt} {t t' : TS} (h : PS X e t) (k : ∀ D σ H, t' D σ H → t D σ H) : PS X e t' := ⟨fun pins s σ H D I q => h.run pins s σ H D I (k D σ H q)⟩
theorem PSs.imp {e : List Stmt} {t t' : TS} (h : PSs X e t) (k : ∀ D σ H, t' D σ H → t D σ H) : PSs X e t' := ⟨fun pins s σ H D I q => h.run pins s σ H D I (k D σ H q)⟩
abbrev IE (T : Tab) (X : Cx) (E : WX) (e : Expr) (m : ME) : Prop := PE X e (teI T E m)
abbrev IT (T : Tab) (X : Cx) (E : WX) (e : Expr) (m : MT) : Prop := PT X e (ttI T E m)
abbrev IW (T : Tab) (X : Cx) (E : WX) (e : Expr) (m : MT) : Prop := PW X e (ttI T E m)
abbrev IA (T : Tab) (X : Cx) (E : WX) (e : List Expr) (m : MA) : Prop := PA X e (taI T E m)

/-! ### names, constants -/
def mVar (i : Nat) : ME := fun ρ h => match ρ[i]? with
  | some (some x) => .ok x h
  | _ => .bad
def mC (x : W) : ME := fun _ h => .ok x h
theorem i_var (i : Nat) {x : Str} (hN : X.N[i]? = some x := by rfl) (hv : Vis X.env.scope x := by first | exact Or.inl rfl | exact Or.inr (Or.inl rfl) | exact Or.inr (Or.inr rfl)) (hd : (x == ("__debug__" : Str)) = false := by decide +kernel)
    (hcd : (x == ("__classdict__" : Str)) = false := by decide +kernel) : IE T X E (.Name x pos) (mVar i) := by
  refine PE.imp (pe_var hN hv hd hcd) fun σ H Q ⟨w, ρ, h, s, en, p⟩ => ?_
  unfold mVar at p
  cases q : ρ[i]? with
  | none => rw [q] at p; exact p.elim
  | some o =>
    cases o with
    | none => rw [q] at p; exact p.elim
    | some x =>
      rw [q] at p
      obtain ⟨v', h1, h2⟩ := en.get q
      obtain ⟨v, rfl, r⟩ := h2 x rfl
      exact ⟨v, h1, p w H v (Le.refl w) s r⟩
theorem i_c {t : TE} {x : W} {v : V} (hp : PE X e (tC v)) (k : ∀ w, VR T w x v) : IE T X E e (mC x) :=
  PE.imp hp fun _ H _ ⟨w, _, _, s, _, p⟩ => p w H v (Le.refl w) s (k w)
theorem i_int {i : Int} {j} : IE T X E (.Constant (.int i) j pos) (mC (.int i)) := i_c (t := tC (.int i)) pe_int fun _ => rfl
theorem i_bl {b : Bool} {j} : IE T X E (.Constant (.bool b) j pos) (mC (.bl b)) := i_c (t := tC (.bl b)) pe_bl fun _ => rfl
theorem i_non {j} : IE T X E (.Constant .none j pos) (mC .non) := i_c (t := tC .non) pe_non fun _ => rfl
theorem i_str {x : Str} {j} : IE T X E (.Constant (.str x) j pos) (mC (.str x)) := i_c (t := tC (.str x)) pe_str fun _ => rfl
/-- a module's constant -/
theorem i_glob {x : Str} {v : V} {u : Value} {z : W} (hm : X.mg x = some u) (r : RelV v u) (k : KV T z v) (hg : Gl X x := by rfl) (hd : (x == ("__debug__" : Str)) = false := by decide +kernel) : IE T X E (.Name x pos) (mC z) := i_c (t := tC v) (pe_glob hg hm r hd) fun _ => k.vr
theorem i_cls {x : Str} {c : Nat} (hm : X.mg x = some (.ref (T.ca c))) (hg : Gl X x := by rfl) (hd : (x == ("__debug__" : Str)) = false := by decide +kernel) : IE T X E (.Name x pos) (mC (.cls c)) := i_glob (v := .ref (T.ca c)) hm rfl .cls hg hd
theorem i_bty {x : Str} (n : BT) (hm : X.mg x = none) (hv : bootBuiltins x = some (.type n.name)) (hg : Gl X x := by rfl) (hn : x ≠ "__name__" := by decide +kernel) (hd : (x == ("__debug__" : Str)) = false := by decide +kernel) : IE T X E (.Name x pos) (mC (.ty n)) := i_c (t := tC (.ty n.name)) (pe_bltn (v := .ty n.name) hg hm hv rfl hn hd) fun _ => rfl

/-! ### operations on values -/
abbrev F2 := W → W → List Cell → Option W
def OpI (T : Tab) (f : F2) (r : R2) : Prop := ∀ (w : Wd) (h : List Cell) (H : Hp) (x y z : W) (v u : V) (Q : VK), StR T w h H → VR T w x v → VR T w y u → f x y h = some z →
  (∀ w' H' o, Le w w' → StR T w' h H' → VR T w' z o → Q o H') → r v u H Q
def R.ofO {α : Type} (o : Option α) (h : List Cell) : R α := match o with
  | some x => .ok x h
  | none => .bad
def mOp (f : F2) (ma mb : ME) : ME := fun ρ h => (ma ρ h).bind fun x h1 => (mb ρ h1).bind fun y h2 => R.ofO (f x y h2) h2
theorem tOp_of {f : F2} {r : R2} (o : OpI T f r) {σ : L2.St} {H : Hp} {Q : VK} (q : teI T E (mOp f ma mb) σ H Q) : tOp r (teI T E ma) (teI T E mb) σ H Q := by
  obtain ⟨w, ρ, h, s, en, p⟩ := q
  refine ⟨w, ρ, h, s, en, Post.bind p fun x h1 w1 H1 v le s1 r1 p1 => ⟨w1, ρ, h1, s1, en.mono le, Post.bind p1 fun y h2 w2 H2 u le2 s2 r2 p2 => ?_⟩⟩
  cases ez : f x y h2 with
  | none => rw [ez] at p2; exact p2.elim
  | some z =>
    rw [ez] at p2
    exact o w2 h2 H2 x y z v u Q s2 (r1.mono le2) r2 ez fun w' H' o l s' r' => p2 w' H' o l s' r'
theorem i_op {op : Operator} {f : F2} {r : R2} (ho : OpR X (binaryOp op) r) (o : OpI T f r) (ha : IE T X E a ma) (hb : IE T X E b mb) : IE T X E (.BinOp a op b pos) (mOp f ma mb) := PE.imp (pe_op ho ha hb) fun _ _ _ q => tOp_of o q
theorem i_cmp {op : CmpOp} {f : F2} {r : R2} (ho : OpR X (compareOp op) r) (o : OpI T f r) (hm : behindInMarks op b = false) (ha : IE T X E a ma) (hb : IE T X E b mb) : IE T X E (.Compare a [op] [b] pos) (mOp f ma mb) := PE.imp (pe_cmpR ho ha hb hm) fun _ _ _ q => tOp_of o q
/-- a comparison as a test -/
abbrev P2 := W → W → List Cell → Option Bool
def mTst (m : ME) : MT := fun ρ h => (m ρ h).bind fun x h1 => match x with
  | .bl b => .ok b h1
  | _ => .bad
theorem tTest_of {m : ME} {t : TE} (k : ∀ σ H Q, teI T E m σ H Q → t σ H Q) {σ : L2.St} {H : Hp} {Q : Bool → Hp → Prop} (q : ttI T E (mTst m) σ H Q) : tTest t σ H Q := by
  obtain ⟨w, ρ, h, s, en, p⟩ := q
  refine k σ H _ ⟨w, ρ, h, s, en, Post.bind p fun x h1 w1 H1 v le s1 r1 p1 => ?_⟩
  cases x with
  | bl b =>
    cases r1
    exact ⟨b, rfl, p1 w1 H1 b (Le.refl _) s1 rfl⟩
  | _ => exact p1.elim
theorem it_cmp {op : CmpOp} {f : F2} {r : R2} (ho : OpR X (compareOp op) r) (o : OpI T f r) (hm : behindInMarks op b = false) (ha : IE T X E a ma) (hb : IE T X E b mb) : IT T X E (.Compare a [op] [b] pos) (mTst (mOp f ma mb)) :=
  PT.imp (pt_cmpR ho ha hb hm) fun _ _ _ q => tTest_of (fun _ _ _ q => tOp_of o q) q
theorem OpI.or {f g : F2} {r r' : R2} (o : OpI T f r) (o' : OpI T g r') : OpI T (fun x y h => (f x y h).or (g x y h)) (fun x y H Q => r x y H Q ∨ r' x y H Q) := fun w h H x y z v u Q s r1 r2 e k => by
  have e : (f x y h).or (g x y h) = some z := e
  cases q : f x y h with
  | some z' =>
    rw [q] at e
    exact .inl (o w h H x y z v u Q s r1 r2 (q.trans e) k)
  | none =>
    rw [q] at e
    exact .inr (o' w h H x y z v u Q s r1 r2 e k)

/-! ### tests -/
def mAnd (a b : MT) : MT := fun ρ h => (a ρ h).bind fun x h1 => if x = true then b ρ h1 else .ok false h1
def mOr (a b : MT) : MT := fun ρ h => (a ρ h).bind fun x h1 => if x = true then .ok true h1 else b ρ h1
def mNot (a : MT) : MT := fun ρ h => (a ρ h).bind fun x h1 => .ok (!x) h1
variable {ta tb : MT} {rest : List Expr}
theorem iw_and1 (ha : IT T X E a ta) : IW T X E (.BoolOp .And [a] pos) ta := pw_and1 ha
theorem iw_or1 (ha : IT T X E a ta) : IW T X E (.BoolOp .Or [a] pos) ta := pw_or1 ha
theorem iw_and (ha : IT T X E a ta) (hb : IW T X E (.BoolOp .And (b :: rest) pos) tb) : IW T X E (.BoolOp .And (a :: b :: rest) pos) (mAnd ta tb) :=
  PW.imp (pw_and ha hb) fun σ H Q ⟨w, ρ, h, s, en, p⟩ => ⟨w, ρ, h, s, en, Post.bind p fun x h1 w1 H1 v le s1 r1 p1 => by
    cases r1
    cases x with
    | true => exact ⟨w1, ρ, h1, s1, en.mono le, p1⟩
    | false => exact p1 w1 H1 false (Le.refl _) s1 rfl⟩
theorem iw_or (ha : IT T X E a ta) (hb : IW T X E (.BoolOp .Or (b :: rest) pos) tb) : IW T X E (.BoolOp .Or (a :: b :: rest) pos) (mOr ta tb) :=
  PW.imp (pw_or ha hb) fun σ H Q ⟨w, ρ, h, s, en, p⟩ => ⟨w, ρ, h, s, en, Post.bind p fun x h1 w1 H1 v le s1 r1 p1 => by
    cases r1
    cases x with
    | false => exact ⟨w1, ρ, h1, s1, en.mono le, p1⟩
    | true => exact p1 w1 H1 true (Le.refl _) s1 rfl⟩
theorem it_w (h : IW T X E e ta) : IT T X E e ta := h.pt
theorem it_not (ha : IT T X E a ta) : IT T X E (.UnaryOp .Not a pos) (mNot ta) :=
  PT.imp (pt_not ha) fun σ H Q ⟨w, ρ, h, s, en, p⟩ => ⟨w, ρ, h, s, en, Post.bind p fun x h1 w1 H1 v le s1 r1 p1 => by
    cases r1
    exact p1 w1 H1 _ (Le.refl _) s1 rfl⟩
/-- as values, all True or False -/
def mAndV (a b : ME) : ME := fun ρ h => (a ρ h).bind fun x h1 => match x with
  | .bl true => b ρ h1
  | .bl false => .ok (.bl false) h1
  | _ => .bad
def mOrV (a b : ME) : ME := fun ρ h => (a ρ h).bind fun x h1 => match x with
  | .bl true => .ok (.bl true) h1
  | .bl false => b ρ h1
  | _ => .bad
def mNotV (a : ME) : ME := fun ρ h => (a ρ h).bind fun x h1 => match x with
  | .bl b => .ok (.bl (!b)) h1
  | _ => .bad
theorem i_one {op} {m : ME} (h : IE T X E a m) : IE T X E (.BoolOp op [a] pos) m := pe_one h
theorem i_and (ha : IE T X E a ma) (hb : IE T X E (.BoolOp .And (b :: rest) pos) mb) : IE T X E (.BoolOp .And (a :: b :: rest) pos) (mAndV ma mb) :=
  PE.imp (pe_and ha hb) fun σ H Q ⟨w, ρ, h, s, en, p⟩ => ⟨w, ρ, h, s, en, Post.bind p fun x h1 w1 H1 v le s1 r1 p1 => by
    cases x with
    | bl c =>
      cases r1
      refine ⟨c, rfl, ?_⟩
      cases c with
      | true => exact ⟨w1, ρ, h1, s1, en.mono le, p1⟩
      | false => exact p1 w1 H1 _ (Le.refl _) s1 rfl
    | _ => exact p1.elim⟩
theorem i_or (ha : IE T X E a ma) (hb : IE T X E (.BoolOp .Or (b :: rest) pos) mb) : IE T X E (.BoolOp .Or (a :: b :: rest) pos) (mOrV ma mb) :=
  PE.imp (pe_or ha hb) fun σ H Q ⟨w, ρ, h, s, en, p⟩ => ⟨w, ρ, h, s, en, Post.bind p fun x h1 w1 H1 v le s1 r1 p1 => by
    cases x with
    | bl c =>
      cases r1
      refine ⟨c, rfl, ?_⟩
      cases c with
      | false => exact ⟨w1, ρ, h1, s1, en.mono le, p1⟩
      | true => exact p1 w1 H1 _ (Le.refl _) s1 rfl
    | _ => exact p1.elim⟩
theorem i_not (ha : IE T X E a ma) : IE T X E (.UnaryOp .Not a pos) (mNotV ma) :=
  PE.imp (pe_not ha) fun σ H Q ⟨w, ρ, h, s, en, p⟩ => ⟨w, ρ, h, s, en, Post.bind p fun x h1 w1 H1 v le s1 r1 p1 => by
    cases x with
    | bl c =>
      cases r1
      exact ⟨c, rfl, p1 w1 H1 _ (Le.refl _) s1 rfl⟩
    | _ => exact p1.elim⟩
def mIf (c : MT) (a b : ME) : ME := fun ρ h => (c ρ h).bind fun x h1 => if x = true then a ρ h1 else b ρ h1
theorem i_ifExp (hc : IT T X E c ta) (ha : IE T X E a ma) (hb : IE T X E b mb) : IE T X E (.IfExp c a b pos) (mIf ta ma mb) :=
  PE.imp (pe_ifExp hc ha hb) fun σ H Q ⟨w, ρ, h, s, en, p⟩ => ⟨w, ρ, h, s, en, Post.bind p fun x h1 w1 H1 v le s1 r1 p1 => by
    cases r1
    cases x with
    | true => exact ⟨w1, ρ, h1, s1, en.mono le, p1⟩
    | false => exact ⟨w1, ρ, h1, s1, en.mono le, p1⟩⟩
end
end Fz

namespace Fz
open PySem PySem.Spec PyProof.Rows L2

section
variable {T : Tab} {w : Wd} {h : List Cell} {H : Hp} {v : V} {l : List W}
theorem lst_at (s : StR T w h H) (r : VR T w (.lst l) v) : ∃ a vs, v = .ref a ∧ H a = some (.lst vs) ∧ VRs T w l vs := by
  obtain ⟨a, rfl, q⟩ := r
  obtain ⟨vs, h1, h2⟩ := s.fz a _ q
  exact ⟨a, vs, rfl, h1, h2⟩
theorem scr_at (s : StR T w h H) (r : VR T w (.scr l) v) : ∃ a vs, v = .ref a ∧ SqL T.K H a vs ∧ VRs T w l vs := by
  rcases r with ⟨a, rfl, q⟩ | q
  · obtain ⟨vs, h1, h2⟩ := s.fz a _ q
    exact ⟨a, vs, rfl, .inl h1, h2⟩
  · cases q with
    | scr a b => exact ⟨_, _, rfl, .inr a, b.vrs⟩
theorem tup_at (s : StR T w h H) (r : VR T w (.tup l) v) : ∃ a vs, v = .ref a ∧ SqT T.K H a vs ∧ VRs T w l vs := by
  rcases r with ⟨a, rfl, q⟩ | q
  · obtain ⟨vs, h1, h2⟩ := s.fz a _ q
    exact ⟨a, vs, rfl, .inl (.inl h1), h2⟩
  · cases q with
    | tup _ a b => exact ⟨_, _, rfl, .inr a, b.vrs⟩
theorem loc_at (s : StR T w h H) {n : Nat} (r : VR T w (.loc n) v) {c : Cell} (e : h[n]? = some c) : ∃ a, v = .ref a ∧ w.cl[n]? = some a ∧ COk T w H a c := by
  obtain ⟨a, rfl, q⟩ := r
  exact ⟨a, rfl, q, (s.cel n c a e q).1⟩
/-- what may be read as a list -/
def rdL (h : List Cell) : W → Option (List W)
  | .lst l => some l
  | .scr l => some l
  | .loc n => match h[n]? with
    | some (.lst l) => some l
    | _ => none
  | _ => none
def rdT : W → Option (List W)
  | .tup l => some l
  | _ => none
theorem rdL_at {x : W} (s : StR T w h H) (r : VR T w x v) (e : rdL h x = some l) : ∃ a vs, v = .ref a ∧ SqL T.K H a vs ∧ VRs T w l vs := by
  cases x with
  | lst l' =>
    cases e
    obtain ⟨a, vs, rfl, h1, h2⟩ := lst_at s r
    exact ⟨a, vs, rfl, .of h1, h2⟩
  | scr l' =>
    cases e
    exact scr_at s r
  | loc n =>
    unfold rdL at e
    dsimp only at e
    cases q : h[n]? with
    | none => rw [q] at e; cases e
    | some c =>
      rw [q] at e
      cases c with
      | lst l' =>
        cases e
        obtain ⟨a, rfl, _, vs, h1, h2⟩ := loc_at s r q
        exact ⟨a, vs, rfl, .of h1, h2⟩
      | _ => cases e
  | _ => cases e
theorem rdT_at {x : W} (s : StR T w h H) (r : VR T w x v) (e : rdT x = some l) : ∃ a vs, v = .ref a ∧ SqT T.K H a vs ∧ VRs T w l vs := by
  cases x with
  | tup l' =>
    cases e
    exact tup_at s r
  | _ => cases e
/-- a list that stands in the heap itself -/
def rdM (h : List Cell) : W → Option (List W)
  | .lst l => some l
  | .loc n => match h[n]? with
    | some (.lst l) => some l
    | _ => none
  | _ => none
theorem rdM_at {x : W} (s : StR T w h H) (r : VR T w x v) (e : rdM h x = some l) : ∃ a vs, v = .ref a ∧ H a = some (.lst vs) ∧ VRs T w l vs := by
  cases x with
  | lst l' =>
    cases e
    exact lst_at s r
  | loc n =>
    unfold rdM at e
    dsimp only at e
    cases q : h[n]? with
    | none => rw [q] at e; cases e
    | some c =>
      rw [q] at e
      cases c with
      | lst l' =>
        cases e
        obtain ⟨a, rfl, _, vs, h1, h2⟩ := loc_at s r q
        exact ⟨a, vs, rfl, h1, h2⟩
      | _ => cases e
  | _ => cases e
theorem atI_all {α β : Type} {R : α → β → Prop} {l : List α} {m : List β} (r : All2 R l m) {i : Int} {x : α} (e : atI l i = some x) : ∃ y, atI m i = some y ∧ R x y := by
  unfold atI at e ⊢
  rw [← r.length]
  cases q : ixN l.length i with
  | none => rw [q] at e; cases e
  | some j =>
    rw [q] at e
    exact r.get e
end

/-! ### arithmetic -/
section
variable {T : Tab}
def fI (g : Int → Int → Option W) : F2 := fun x y _ => match x, y with
  | .int i, .int j => g i j
  | _, _ => none
theorem oI {C : Int → Int → Prop} {g : Int → Int → V} {f : Int → Int → Option W} (k : ∀ i j z, f i j = some z → C i j ∧ ∀ w, VR T w z (g i j)) : OpI T (fI f) (rI C g) := fun w h H x y z v u Q s r1 r2 e q => by
  cases x with
  | int i =>
    cases y with
    | int j =>
      cases r1
      cases r2
      obtain ⟨c, r⟩ := k i j z e
      exact ⟨i, j, rfl, rfl, c, q w H _ (Le.refl w) s (r w)⟩
    | _ => cases e
  | _ => cases e
theorem oI0 {g : Int → Int → V} {f : Int → Int → Option W} (k : ∀ i j z, f i j = some z → ∀ w, VR T w z (g i j)) : OpI T (fI f) (rI0 g) := fun w h H x y z v u Q s r1 r2 e q => by
  cases x with
  | int i =>
    cases y with
    | int j =>
      cases r1
      cases r2
      exact ⟨i, j, rfl, rfl, q w H _ (Le.refl w) s (k i j z e w)⟩
    | _ => cases e
  | _ => cases e
abbrev fAddI : F2 := fI fun i j => some (.int (i + j))
abbrev fSubI : F2 := fI fun i j => some (.int (i - j))
def smallI (i : Int) : Bool := decide (-(2 ^ 64) < i ∧ i < 2 ^ 64)
abbrev fMulI : F2 := fI fun i j => if smallI i || smallI j then some (.int (i * j)) else none
abbrev fDivI : F2 := fI fun i j => if 0 < j ∧ j < 1073741824 then some (.int (i / j)) else none
abbrev fModI : F2 := fI fun i j => if 0 < j then some (.int (i % j)) else none
abbrev fPowI : F2 := fI fun i j => if 0 ≤ j ∧ j ≤ 1000000 ∧ i.natAbs < 2 ^ 64 then some (.int (i ^ j.toNat)) else none
theorem o_addI : OpI T fAddI (rI0 fun i j => .int (i + j)) := oI0 fun i j z e w => by cases e; rfl
theorem o_subI : OpI T fSubI (rI0 fun i j => .int (i - j)) := oI0 fun i j z e w => by cases e; rfl
theorem o_mulI : OpI T fMulI (rI CMul fun i j => .int (i * j)) := oI fun i j z e => by
  split at e
  · rename_i hc
    cases e
    refine ⟨?_, fun _ => rfl⟩
    rw [Bool.or_eq_true] at hc
    exact hc.imp (fun q => of_decide_eq_true q) fun q => of_decide_eq_true q
  · cases e
theorem o_divI : OpI T fDivI (rI CDiv fun i j => .int (i / j)) := oI fun i j z e => by
  split at e
  · rename_i hc
    cases e
    exact ⟨hc, fun _ => rfl⟩
  · cases e
theorem o_modI : OpI T fModI (rI (fun _ j => 0 < j) fun i j => .int (i % j)) := oI fun i j z e => by
  split at e
  · rename_i hc
    cases e
    exact ⟨hc, fun _ => rfl⟩
  · cases e
theorem o_powI : OpI T fPowI (rI CPow fun i j => .int (i ^ j.toNat)) := oI fun i j z e => by
  split at e
  · rename_i hc
    cases e
    exact ⟨hc, fun _ => rfl⟩
  · cases e
/-! ### texts, lists, tuples under + -/
def fAddS : F2 := fun x y _ => match x, y with
  | .str a, .str b => if a.length + b.length ≤ sizeLine then some (.str (a ++ b)) else none
  | _, _ => none
theorem o_addS : OpI T fAddS (fun x y H Q => ∃ i j, x = .str i ∧ y = .str j ∧ i.length + j.length ≤ sizeLine ∧ Q (.str (i ++ j)) H) := fun w h H x y z v u Q s r1 r2 e q => by
  cases x with
  | str i =>
    cases y with
    | str j =>
      cases r1
      cases r2
      unfold fAddS at e
      dsimp only at e
      split at e
      · rename_i hc
        cases e
        exact ⟨i, j, rfl, rfl, hc, q w H _ (Le.refl w) s rfl⟩
      · cases e
    | _ => cases e
  | _ => cases e
def fAddL : F2 := fun x y h => match rdM h x, rdM h y with
  | some a, some b => if a.length + b.length ≤ sizeLine then some (.lst (a ++ b)) else none
  | _, _ => none
theorem o_addL : OpI T fAddL rCat := fun w h H x y z v u Q s r1 r2 e q => by
  unfold fAddL at e
  cases ex : rdM h x with
  | none => rw [ex] at e; cases e
  | some a =>
    cases ey : rdM h y with
    | none => rw [ex, ey] at e; cases e
    | some b =>
      rw [ex, ey] at e
      dsimp only at e
      split at e
      · rename_i hc
        cases e
        obtain ⟨p, vs, rfl, h1, q1⟩ := rdM_at s r1 ex
        obtain ⟨p2, us, rfl, h2, q2⟩ := rdM_at s r2 ey
        refine ⟨p, p2, vs, us, rfl, rfl, h1, h2, by rw [← q1.length, ← q2.length]; exact hc, fun t ht => ?_⟩
        obtain ⟨s', le⟩ := s.frozen (o := .lst (a ++ b)) (u := .lst (vs ++ us)) ht ⟨vs ++ us, upd_same, q1.append q2⟩
        exact q _ _ _ le s' ⟨t, rfl, if_pos rfl⟩
      · cases e
def fAddT : F2 := fun x y _ => match x, y with
  | .tup a, .tup b => if a.isEmpty then none else if a.length + b.length ≤ sizeLine then some (.tup (a ++ b)) else none
  | _, _ => none
theorem o_addT : OpI T fAddT (rCatT T.K) := fun w h H x y z v u Q s r1 r2 e q => by
  cases x with
  | tup a =>
    cases y with
    | tup b =>
      unfold fAddT at e
      dsimp only at e
      cases a with
      | nil => cases e
      | cons a0 a =>
        rw [if_neg (by simp)] at e
        split at e
        · rename_i hc
          cases e
          obtain ⟨p, vs, rfl, h1, q1⟩ := tup_at s r1
          obtain ⟨p2, us, rfl, h2, q2⟩ := tup_at s r2
          refine ⟨p, p2, vs, us, rfl, rfl, h1, h2, fun z => ?_, by rw [← q1.length, ← q2.length]; exact hc, fun z => ?_, fun _ t ht => ?_⟩
          · have := q1.length
            rw [z] at this
            cases this
          · have hb : b = [] := List.length_eq_zero_iff.mp (by rw [q2.length, z]; rfl)
            subst hb
            rw [List.append_nil] at q
            exact q w H _ (Le.refl w) s r1
          · obtain ⟨s', le⟩ := s.frozen (o := .tup (a0 :: a ++ b)) (u := .tup (vs ++ us)) ht ⟨vs ++ us, upd_same, q1.append q2⟩
            exact q _ _ _ le s' (.inl ⟨t, rfl, if_pos rfl⟩)
        · cases e
    | _ => cases e
  | _ => cases e
/-- + by its arguments -/
def fAdd : F2 := fun x y h => match x with
  | .int _ => fAddI x y h
  | .str _ => fAddS x y h
  | .tup _ => fAddT x y h
  | _ => fAddL x y h
def rAddA (K : PySem.W.Frag) : R2 := fun x y H Q => (rI0 fun i j => .int (i + j)) x y H Q ∨ (∃ i j, x = .str i ∧ y = .str j ∧ i.length + j.length ≤ sizeLine ∧ Q (.str (i ++ j)) H) ∨ rCatT K x y H Q ∨ rCat x y H Q
theorem op_addA {X : Cx} : OpR X (binaryOp .Add) (rAddA X.K) := op_add.or (op_add_str.or (op_catT.or op_cat))
theorem o_add : OpI T fAdd (rAddA T.K) := fun w h H x y z v u Q s r1 r2 e q => by
  cases x with
  | int i => exact .inl (o_addI w h H _ y z v u Q s r1 r2 e q)
  | str i => exact .inr (.inl (o_addS w h H _ y z v u Q s r1 r2 e q))
  | tup i => exact .inr (.inr (.inl (o_addT w h H _ y z v u Q s r1 r2 e q)))
  | _ => exact .inr (.inr (.inr (o_addL w h H _ y z v u Q s r1 r2 e q)))
/-- list * int -/
def fMulL : F2 := fun x y h => match rdM h x, y with
  | some a, .int k => if -(2 ^ 63) ≤ k ∧ k < 2 ^ 63 ∧ a.length * k.toNat ≤ sizeLine then some (.lst (List.replicate k.toNat a).flatten) else none
  | _, _ => none
theorem rep_all {α β : Type} {R : α → β → Prop} {l : List α} {m : List β} (r : All2 R l m) : ∀ k : Nat, All2 R (List.replicate k l).flatten (List.replicate k m).flatten
  | 0 => .nil
  | k + 1 => by
    rw [List.replicate_succ, List.replicate_succ, List.flatten_cons, List.flatten_cons]
    exact r.append (rep_all r k)
theorem o_mulL : OpI T fMulL rRep := fun w h H x y z v u Q s r1 r2 e q => by
  unfold fMulL at e
  cases ex : rdM h x with
  | none => rw [ex] at e; cases e
  | some a =>
    rw [ex] at e
    cases y with
    | int k =>
      dsimp only at e
      split at e
      · rename_i hc
        cases e
        cases r2
        obtain ⟨p, vs, rfl, h1, q1⟩ := rdM_at s r1 ex
        refine ⟨p, k, vs, rfl, rfl, h1, hc.1, hc.2.1, by rw [← q1.length]; exact hc.2.2, fun t ht => ?_⟩
        obtain ⟨s', le⟩ := s.frozen (o := .lst (List.replicate k.toNat a).flatten) (u := .lst (List.replicate k.toNat vs).flatten) ht ⟨_, upd_same, rep_all q1 _⟩
        exact q _ _ _ le s' ⟨t, rfl, if_pos rfl⟩
      · cases e
    | _ => cases e
def fMul : F2 := fun x y h => match x with
  | .int _ => fMulI x y h
  | _ => fMulL x y h
theorem o_mul : OpI T fMul (fun x y H Q => (rI CMul fun i j => .int (i * j)) x y H Q ∨ rRep x y H Q) := fun w h H x y z v u Q s r1 r2 e q => by
  cases x with
  | int i => exact .inl (o_mulI w h H _ y z v u Q s r1 r2 e q)
  | _ => exact .inr (o_mulL w h H _ y z v u Q s r1 r2 e q)
end

/-! ### comparisons -/
section
variable {T : Tab}
def scalW : W → W → Option Bool
  | .non, .non => some true
  | .non, .int _ => some false
  | .int _, .non => some false
  | .non, .bl _ => some false
  | .bl _, .non => some false
  | .non, .str _ => some false
  | .str _, .non => some false
  | .int i, .int j => some (decide (i = j))
  | .bl i, .bl j => some (decide (i = j))
  | .str i, .str j => some (decide (i = j))
  | .int _, .str _ => some false
  | .str _, .int _ => some false
  | .bl _, .str _ => some false
  | .str _, .bl _ => some false
  | _, _ => none
theorem scalW_ok {w : Wd} {x y : W} {v u : V} {b : Bool} (r1 : VR T w x v) (r2 : VR T w y u) (e : scalW x y = some b) : scal v u = true ∧ decide (v = u) = b := by
  cases x <;> cases y <;> first | (cases e; done) | skip
  all_goals (cases r1; cases r2; cases e; refine ⟨rfl, ?_⟩)
  all_goals first | rfl | (simp; done) | skip
mutual
def toD : W → Option PyData
  | .non => some .none
  | .bl b => some (.bool b)
  | .int i => some (.int i)
  | .str s => some (.str s)
  | .tup l => match toDs l with
    | some ds => some (.tuple ds)
    | none => none
  | .lst l => match toDs l with
    | some ds => some (.list ds)
    | none => none
  | .scr l => match toDs l with
    | some ds => some (.list ds)
    | none => none
  | .ins _ _ => none
  | .loc _ => none
  | .cls _ => none
  | .ty _ => none
  | .dk _ _ => none
  | .dt _ _ => none
  | .exn _ _ => none
def toDs : List W → Option (List PyData)
  | [] => some []
  | x :: r => match toD x, toDs r with
    | some d, some ds => some (d :: ds)
    | _, _ => none
end
mutual
theorem toD_ok {w : Wd} {h : List Cell} {H : Hp} (s : StR T w h H) : ∀ (x : W) {v : V} {d : PyData}, VR T w x v → toD x = some d → Dp T.K H v d
  | .non, _, _, r, e => by cases e; cases r; exact .non
  | .bl b, _, _, r, e => by cases e; cases r; exact .bl b
  | .int i, _, _, r, e => by cases e; cases r; exact .int i
  | .str x, _, _, r, e => by cases e; cases r; exact .str x
  | .tup l, v, d, r, e => by
    unfold toD at e
    cases q : toDs l with
    | none => rw [q] at e; cases e
    | some ds =>
      rw [q] at e
      cases e
      obtain ⟨a, vs, rfl, h1, h2⟩ := tup_at s r
      exact .tup h1 (toDs_ok s l h2 q)
  | .lst l, v, d, r, e => by
    unfold toD at e
    cases q : toDs l with
    | none => rw [q] at e; cases e
    | some ds =>
      rw [q] at e
      cases e
      obtain ⟨a, vs, rfl, h1, h2⟩ := lst_at s r
      exact .lst (.of h1) (toDs_ok s l h2 q)
  | .scr l, v, d, r, e => by
    unfold toD at e
    cases q : toDs l with
    | none => rw [q] at e; cases e
    | some ds =>
      rw [q] at e
      cases e
      obtain ⟨a, vs, rfl, h1, h2⟩ := scr_at s r
      exact .lst h1 (toDs_ok s l h2 q)
  | .ins _ _, _, _, _, e => by cases e
  | .dk _ _, _, _, _, e => by cases e
  | .dt _ _, _, _, _, e => by cases e
  | .exn _ _, _, _, _, e => by cases e
  | .loc _, _, _, _, e => by cases e
  | .cls _, _, _, _, e => by cases e
  | .ty _, _, _, _, e => by cases e
theorem toDs_ok {w : Wd} {h : List Cell} {H : Hp} (s : StR T w h H) : ∀ (l : List W) {vs : List V} {ds : List PyData}, VRs T w l vs → toDs l = some ds → DpAll T.K H vs ds
  | [], _, _, r, e => by cases e; cases r; exact .nil
  | x :: l, _, _, r, e => by
    unfold toDs at e
    cases q : toD x with
    | none => rw [q] at e; cases e
    | some d =>
      cases q2 : toDs l with
      | none => rw [q, q2] at e; cases e
      | some ds =>
        rw [q, q2] at e
        cases e
        cases r with
        | cons r1 r2 => exact .cons (toD_ok s x r1 q) (toDs_ok s l r2 q2)
end
def toDH (h : List Cell) (x : W) : Option PyData := match x with
  | .loc n => (match h[n]? with
    | some (.lst l) => (match toDs l with
      | some ds => some (.list ds)
      | none => none)
    | _ => none)
  | _ => toD x
theorem toDH_ok {w : Wd} {h : List Cell} {H : Hp} (s : StR T w h H) {x : W} {v : V} {d : PyData} (r : VR T w x v) (e : toDH h x = some d) : Dp T.K H v d := by
  unfold toDH at e
  cases x with
  | loc n =>
    dsimp only at e
    cases q : h[n]? with
    | none => rw [q] at e; cases e
    | some c =>
      rw [q] at e
      cases c with
      | lst l =>
        dsimp only at e
        cases q2 : toDs l with
        | none => rw [q2] at e; cases e
        | some ds =>
          rw [q2] at e
          cases e
          obtain ⟨a, rfl, _, vs, h1, h2⟩ := loc_at s r q
          exact .lst (.of h1) (toDs_ok s l h2 q2)
      | _ => cases e
  | _ => exact toD_ok s _ r e
def eqD (h : List Cell) (x y : W) : Option Bool := match toDH h x, toDH h y with
  | some d, some e => if SeqAt.shaped d && SeqAt.shaped e then some (PyData.eqv d e) else none
  | _, _ => none
theorem eqD_ok {w : Wd} {h : List Cell} {H : Hp} (s : StR T w h H) {x y : W} {v u : V} {b : Bool} (r1 : VR T w x v) (r2 : VR T w y u) (e : eqD h x y = some b) :
    ∃ d d', Dp T.K H v d ∧ Dp T.K H u d' ∧ SeqAt.shaped d = true ∧ SeqAt.shaped d' = true ∧ PyData.eqv d d' = b := by
  unfold eqD at e
  cases q : toDH h x with
  | none => rw [q] at e; cases e
  | some d =>
    cases q2 : toDH h y with
    | none => rw [q, q2] at e; cases e
    | some d' =>
      rw [q, q2] at e
      dsimp only at e
      split at e
      · rename_i hc
        rw [Bool.and_eq_true] at hc
        cases e
        exact ⟨d, d', toDH_ok s r1 q, toDH_ok s r2 q2, hc.1, hc.2, rfl⟩
      · cases e
/-- x == y -/
def eqW (h : List Cell) (x y : W) : Option Bool := match scalW x y with
  | some b => some b
  | none => eqD h x y
def fEq : F2 := fun x y h => (eqW h x y).map .bl
def fNe : F2 := fun x y h => (eqW h x y).map fun b => .bl (!b)
def rEqA (K : PySem.W.Frag) : R2 := fun x y H Q => rEq x y H Q ∨ rEqD K x y H Q
def rNeA (K : PySem.W.Frag) : R2 := fun x y H Q => rNe x y H Q ∨ rNeD K x y H Q
theorem op_eqA {X : Cx} (hu : X.A.units + 64 < cLine) : OpR X (compareOp .Eq) (rEqA X.K) := op_eq.or (op_eqD hu)
theorem op_neA {X : Cx} (hu : X.A.units + 64 < cLine) : OpR X (compareOp .NotEq) (rNeA X.K) := op_ne.or (op_neD hu)
theorem o_eq : OpI T fEq (rEqA T.K) := fun w h H x y z v u Q s r1 r2 e q => by
  unfold fEq eqW at e
  cases es : scalW x y with
  | some b =>
    rw [es] at e
    cases e
    obtain ⟨h1, h2⟩ := scalW_ok r1 r2 es
    exact .inl ⟨h1, q w H _ (Le.refl w) s (by show V.bl _ = V.bl b; rw [h2])⟩
  | none =>
    rw [es] at e
    dsimp only at e
    cases ed : eqD h x y with
    | none => rw [ed] at e; cases e
    | some b =>
      rw [ed] at e
      cases e
      obtain ⟨d, d', h1, h2, h3, h4, h5⟩ := eqD_ok s r1 r2 ed
      exact .inr ⟨d, d', h1, h2, h3, h4, q w H _ (Le.refl w) s (by show V.bl _ = V.bl b; rw [h5])⟩
theorem o_ne : OpI T fNe (rNeA T.K) := fun w h H x y z v u Q s r1 r2 e q => by
  unfold fNe eqW at e
  cases es : scalW x y with
  | some b =>
    rw [es] at e
    cases e
    obtain ⟨h1, h2⟩ := scalW_ok r1 r2 es
    exact .inl ⟨h1, q w H _ (Le.refl w) s (by show V.bl _ = V.bl (!b); rw [h2])⟩
  | none =>
    rw [es] at e
    dsimp only at e
    cases ed : eqD h x y with
    | none => rw [ed] at e; cases e
    | some b =>
      rw [ed] at e
      cases e
      obtain ⟨d, d', h1, h2, h3, h4, h5⟩ := eqD_ok s r1 r2 ed
      exact .inr ⟨d, d', h1, h2, h3, h4, q w H _ (Le.refl w) s (by show V.bl _ = V.bl (!b); rw [h5])⟩
abbrev fLt : F2 := fI fun i j => some (.bl (decide (i < j)))
abbrev fLe : F2 := fI fun i j => some (.bl (decide (i ≤ j)))
abbrev fGt : F2 := fI fun i j => some (.bl (decide (j < i)))
abbrev fGe : F2 := fI fun i j => some (.bl (decide (j ≤ i)))
theorem o_lt : OpI T fLt (rI0 fun i j => .bl (decide (i < j))) := oI0 fun i j z e w => by cases e; rfl
theorem o_le : OpI T fLe (rI0 fun i j => .bl (decide (i ≤ j))) := oI0 fun i j z e w => by cases e; rfl
theorem o_gt : OpI T fGt (rI0 fun i j => .bl (decide (j < i))) := oI0 fun i j z e w => by cases e; rfl
theorem o_ge : OpI T fGe (rI0 fun i j => .bl (decide (j ≤ i))) := oI0 fun i j z e w => by cases e; rfl
/-- x is None, x is not None -/
def isNon : W → Bool
  | .non => true
  | _ => false
theorem isNon_ok {w : Wd} {x : W} {v : V} (r : VR T w x v) : decide (v = .non) = isNon x := by
  cases x with
  | non => cases r; rfl
  | tup l =>
    rcases r with ⟨a, rfl, _⟩ | r
    · rfl
    · cases r; rfl
  | scr l =>
    rcases r with ⟨a, rfl, _⟩ | r
    · rfl
    · cases r; rfl
  | lst l => obtain ⟨a, rfl, _⟩ := r; rfl
  | ins c vs => obtain ⟨a, rfl, _⟩ := r; rfl
  | loc n => obtain ⟨a, rfl, _⟩ := r; rfl
  | dk ks vs => obtain ⟨a, rfl, _⟩ := r; rfl
  | dt ks vs => obtain ⟨a, rfl, _⟩ := r; rfl
  | exn c vs => obtain ⟨a, rfl, _⟩ := r; rfl
  | _ => cases r; rfl
def fIsN : F2 := fun x y _ => match y with
  | .non => some (.bl (isNon x))
  | _ => none
def fNotN : F2 := fun x y _ => match y with
  | .non => some (.bl (!isNon x))
  | _ => none
theorem o_isN : OpI T fIsN (fun x y H Q => y = .non ∧ Q (.bl (decide (x = .non))) H) := fun w h H x y z v u Q s r1 r2 e q => by
  cases y with
  | non =>
    cases e
    exact ⟨r2, q w H _ (Le.refl w) s (by show V.bl _ = V.bl _; rw [isNon_ok r1])⟩
  | _ => cases e
theorem o_notN : OpI T fNotN (fun x y H Q => y = .non ∧ Q (.bl (!decide (x = .non))) H) := fun w h H x y z v u Q s r1 r2 e q => by
  cases y with
  | non =>
    cases e
    exact ⟨r2, q w H _ (Le.refl w) s (by show V.bl _ = V.bl _; rw [isNon_ok r1])⟩
  | _ => cases e
/-- x in a list or tuple of flat things -/
def flatW : W → Option V
  | .non => some .non
  | .bl b => some (.bl b)
  | .int i => some (.int i)
  | .str s => some (.str s)
  | _ => none
def flatWs : List W → Option (List V)
  | [] => some []
  | x :: r => match flatW x, flatWs r with
    | some v, some vs => some (v :: vs)
    | _, _ => none
theorem flatW_ok {w : Wd} {x : W} {v v' : V} (r : VR T w x v) (e : flatW x = some v') : v' = v ∧ flatV v = true := by
  cases x <;> first | (cases e; done) | (cases e; cases r; exact ⟨rfl, rfl⟩)
theorem flatWs_ok {w : Wd} : ∀ {l : List W} {vs vs' : List V}, VRs T w l vs → flatWs l = some vs' → vs' = vs ∧ vs.all flatV = true
  | [], _, _, r, e => by cases e; cases r; exact ⟨rfl, rfl⟩
  | x :: l, _, _, r, e => by
    unfold flatWs at e
    cases q : flatW x with
    | none => rw [q] at e; cases e
    | some d =>
      cases q2 : flatWs l with
      | none => rw [q, q2] at e; cases e
      | some ds =>
        rw [q, q2] at e
        cases e
        cases r with
        | cons r1 r2 =>
          obtain ⟨rfl, f1⟩ := flatW_ok r1 q
          obtain ⟨rfl, f2⟩ := flatWs_ok r2 q2
          exact ⟨rfl, by rw [List.all_cons, f1, f2]; rfl⟩
/-- the items of a list or a tuple -/
def rdS (h : List Cell) (x : W) : Option (List W) := match x with
  | .tup l => some l
  | _ => rdL h x
def inW (h : List Cell) (x y : W) : Option Bool := match flatW x, rdS h y with
  | some v, some l => (match flatWs l with
    | some vs => some (inV v vs)
    | none => none)
  | _, _ => none
theorem rdS_at {w : Wd} {h : List Cell} {H : Hp} {v : V} {l : List W} {x : W} (s : StR T w h H) (r : VR T w x v) (e : rdS h x = some l) : ∃ a vs, v = .ref a ∧ (SqL T.K H a vs ∨ SqT T.K H a vs) ∧ VRs T w l vs := by
  cases x with
  | tup l' =>
    cases e
    obtain ⟨a, vs, rfl, h1, h2⟩ := tup_at s r
    exact ⟨a, vs, rfl, .inr h1, h2⟩
  | _ =>
    obtain ⟨a, vs, rfl, h1, h2⟩ := rdL_at s r e
    exact ⟨a, vs, rfl, .inl h1, h2⟩
theorem inW_ok {w : Wd} {h : List Cell} {H : Hp} (s : StR T w h H) {x y : W} {v u : V} {b : Bool} (r1 : VR T w x v) (r2 : VR T w y u) (e : inW h x y = some b) :
    ∃ p xs, u = .ref p ∧ (SqL T.K H p xs ∨ SqT T.K H p xs) ∧ flatV v = true ∧ xs.all flatV = true ∧ inV v xs = b := by
  unfold inW at e
  cases q : flatW x with
  | none => rw [q] at e; cases e
  | some v' =>
    cases q2 : rdS h y with
    | none => rw [q, q2] at e; cases e
    | some l =>
      rw [q, q2] at e
      dsimp only at e
      cases q3 : flatWs l with
      | none => rw [q3] at e; cases e
      | some vs' =>
        rw [q3] at e
        cases e
        obtain ⟨rfl, f1⟩ := flatW_ok r1 q
        obtain ⟨a, vs, rfl, h1, h2⟩ := rdS_at s r2 q2
        obtain ⟨rfl, f2⟩ := flatWs_ok h2 q3
        exact ⟨a, _, rfl, h1, f1, f2, rfl⟩
def fIn : F2 := fun x y h => (inW h x y).map .bl
def fNotIn : F2 := fun x y h => (inW h x y).map fun b => .bl (!b)
theorem o_in : OpI T fIn (rIn T.K false) := fun w h H x y z v u Q s r1 r2 e q => by
  unfold fIn at e
  cases es : inW h x y with
  | none => rw [es] at e; cases e
  | some b =>
    rw [es] at e
    cases e
    obtain ⟨p, xs, rfl, h1, h2, h3, h4⟩ := inW_ok s r1 r2 es
    exact ⟨p, xs, rfl, h1, h2, h3, q w H _ (Le.refl w) s (by show V.bl _ = V.bl b; rw [h4]; rfl)⟩
theorem o_notIn : OpI T fNotIn (rIn T.K true) := fun w h H x y z v u Q s r1 r2 e q => by
  unfold fNotIn at e
  cases es : inW h x y with
  | none => rw [es] at e; cases e
  | some b =>
    rw [es] at e
    cases e
    obtain ⟨p, xs, rfl, h1, h2, h3, h4⟩ := inW_ok s r1 r2 es
    exact ⟨p, xs, rfl, h1, h2, h3, q w H _ (Le.refl w) s (by show V.bl _ = V.bl (!b); rw [h4]; rfl)⟩
end
end Fz

namespace Fz
open PySem PySem.Spec PyProof.Rows L2

section
variable {T : Tab} {X : Cx} {E : WX} {n : Nat} {a b c e : Expr} {ma mb mc m : ME} {pos : Pos} {ta tb : MT}
/-! ### the operators as rules -/
theorem i_add (ha : IE T X E a ma) (hb : IE T X E b mb) {gb : Bool} (G : Gx T X E n gb) : IE T X E (.BinOp a .Add b pos) (mOp fAdd ma mb) := i_op op_addA (G.K ▸ o_add) ha hb
theorem i_sub (ha : IE T X E a ma) (hb : IE T X E b mb) : IE T X E (.BinOp a .Sub b pos) (mOp fSubI ma mb) := i_op op_sub o_subI ha hb
theorem i_mul (ha : IE T X E a ma) (hb : IE T X E b mb) : IE T X E (.BinOp a .Mult b pos) (mOp fMul ma mb) := i_op (op_mul.or op_rep) o_mul ha hb
theorem i_fdiv (ha : IE T X E a ma) (hb : IE T X E b mb) : IE T X E (.BinOp a .FloorDiv b pos) (mOp fDivI ma mb) := i_op op_fdiv o_divI ha hb
theorem i_mod (ha : IE T X E a ma) (hb : IE T X E b mb) : IE T X E (.BinOp a .Mod b pos) (mOp fModI ma mb) := i_op op_mod o_modI ha hb
theorem i_pow (ha : IE T X E a ma) (hb : IE T X E b mb) : IE T X E (.BinOp a .Pow b pos) (mOp fPowI ma mb) := i_op op_pow o_powI ha hb
theorem i_lt (ha : IE T X E a ma) (hb : IE T X E b mb) : IE T X E (.Compare a [.Lt] [b] pos) (mOp fLt ma mb) := i_cmp op_lt o_lt (nomark _) ha hb
theorem i_le (ha : IE T X E a ma) (hb : IE T X E b mb) : IE T X E (.Compare a [.LtE] [b] pos) (mOp fLe ma mb) := i_cmp op_le o_le (nomark _) ha hb
theorem i_gt (ha : IE T X E a ma) (hb : IE T X E b mb) : IE T X E (.Compare a [.Gt] [b] pos) (mOp fGt ma mb) := i_cmp op_gt o_gt (nomark _) ha hb
theorem i_ge (ha : IE T X E a ma) (hb : IE T X E b mb) : IE T X E (.Compare a [.GtE] [b] pos) (mOp fGe ma mb) := i_cmp op_ge o_ge (nomark _) ha hb
theorem i_eq (ha : IE T X E a ma) (hb : IE T X E b mb) {gb : Bool} (G : Gx T X E n gb) : IE T X E (.Compare a [.Eq] [b] pos) (mOp fEq ma mb) := i_cmp (op_eqA G.units) (G.K ▸ o_eq) (nomark _) ha hb
theorem i_ne (ha : IE T X E a ma) (hb : IE T X E b mb) {gb : Bool} (G : Gx T X E n gb) : IE T X E (.Compare a [.NotEq] [b] pos) (mOp fNe ma mb) := i_cmp (op_neA G.units) (G.K ▸ o_ne) (nomark _) ha hb
theorem i_isN (ha : IE T X E a ma) (hb : IE T X E b mb) : IE T X E (.Compare a [.Is] [b] pos) (mOp fIsN ma mb) := i_cmp op_isN o_isN (nomark _) ha hb
theorem i_notN (ha : IE T X E a ma) (hb : IE T X E b mb) : IE T X E (.Compare a [.IsNot] [b] pos) (mOp fNotN ma mb) := i_cmp op_notN o_notN (nomark _) ha hb
theorem i_in (ha : IE T X E a ma) (hb : IE T X E b mb) {gb : Bool} (G : Gx T X E n gb) (hm : behindInMarks .In b = false := by rfl) : IE T X E (.Compare a [.In] [b] pos) (mOp fIn ma mb) := i_cmp op_in_seq (G.K ▸ o_in) hm ha hb
theorem i_notIn (ha : IE T X E a ma) (hb : IE T X E b mb) {gb : Bool} (G : Gx T X E n gb) (hm : behindInMarks .NotIn b = false := by rfl) : IE T X E (.Compare a [.NotIn] [b] pos) (mOp fNotIn ma mb) := i_cmp op_notIn_seq (G.K ▸ o_notIn) hm ha hb
theorem it_lt (ha : IE T X E a ma) (hb : IE T X E b mb) : IT T X E (.Compare a [.Lt] [b] pos) (mTst (mOp fLt ma mb)) := it_cmp op_lt o_lt (nomark _) ha hb
theorem it_le (ha : IE T X E a ma) (hb : IE T X E b mb) : IT T X E (.Compare a [.LtE] [b] pos) (mTst (mOp fLe ma mb)) := it_cmp op_le o_le (nomark _) ha hb
theorem it_gt (ha : IE T X E a ma) (hb : IE T X E b mb) : IT T X E (.Compare a [.Gt] [b] pos) (mTst (mOp fGt ma mb)) := it_cmp op_gt o_gt (nomark _) ha hb
theorem it_ge (ha : IE T X E a ma) (hb : IE T X E b mb) : IT T X E (.Compare a [.GtE] [b] pos) (mTst (mOp fGe ma mb)) := it_cmp op_ge o_ge (nomark _) ha hb
theorem it_eq (ha : IE T X E a ma) (hb : IE T X E b mb) {gb : Bool} (G : Gx T X E n gb) : IT T X E (.Compare a [.Eq] [b] pos) (mTst (mOp fEq ma mb)) := it_cmp (op_eqA G.units) (G.K ▸ o_eq) (nomark _) ha hb
theorem it_ne (ha : IE T X E a ma) (hb : IE T X E b mb) {gb : Bool} (G : Gx T X E n gb) : IT T X E (.Compare a [.NotEq] [b] pos) (mTst (mOp fNe ma mb)) := it_cmp (op_neA G.units) (G.K ▸ o_ne) (nomark _) ha hb
theorem it_isN (ha : IE T X E a ma) (hb : IE T X E b mb) : IT T X E (.Compare a [.Is] [b] pos) (mTst (mOp fIsN ma mb)) := it_cmp op_isN o_isN (nomark _) ha hb
theorem it_notN (ha : IE T X E a ma) (hb : IE T X E b mb) : IT T X E (.Compare a [.IsNot] [b] pos) (mTst (mOp fNotN ma mb)) := it_cmp op_notN o_notN (nomark _) ha hb
theorem it_in (ha : IE T X E a ma) (hb : IE T X E b mb) {gb : Bool} (G : Gx T X E n gb) (hm : behindInMarks .In b = false := by rfl) : IT T X E (.Compare a [.In] [b] pos) (mTst (mOp fIn ma mb)) := it_cmp op_in_seq (G.K ▸ o_in) hm ha hb
theorem it_notIn (ha : IE T X E a ma) (hb : IE T X E b mb) {gb : Bool} (G : Gx T X E n gb) (hm : behindInMarks .NotIn b = false := by rfl) : IT T X E (.Compare a [.NotIn] [b] pos) (mTst (mOp fNotIn ma mb)) := it_cmp op_notIn_seq (G.K ▸ o_notIn) hm ha hb
/-- a op b op' c -/
def mChain (f g : F2) (ma mb mc : ME) : ME := fun ρ h => (ma ρ h).bind fun x h1 => (mb ρ h1).bind fun y h2 => match f x y h2 with
  | some (.bl true) => (mc ρ h2).bind fun z h3 => R.ofO (g y z h3) h3
  | some (.bl false) => .ok (.bl false) h2
  | _ => .bad
theorem chain_of {f g : F2} {r r' : R2} (o : OpI T f r) (o' : OpI T g r') {σ : L2.St} {H : Hp} {Q : VK} (q : teI T E (mChain f g ma mb mc) σ H Q) : tChain r r' (teI T E ma) (teI T E mb) (teI T E mc) σ H Q := by
  obtain ⟨w, ρ, h, s, en, p⟩ := q
  refine ⟨w, ρ, h, s, en, Post.bind p fun x h1 w1 H1 v le s1 r1 p1 => ⟨w1, ρ, h1, s1, en.mono le, Post.bind p1 fun y h2 w2 H2 u le2 s2 r2 p2 => ?_⟩⟩
  cases ez : f x y h2 with
  | none => rw [ez] at p2; exact p2.elim
  | some z =>
    rw [ez] at p2
    refine o w2 h2 H2 x y z v u _ s2 (r1.mono le2) r2 ez fun w3 H3 o3 l3 s3 r3 => ?_
    cases z with
    | bl k =>
      cases r3
      refine ⟨k, rfl, ?_⟩
      cases k with
      | true =>
        refine ⟨w3, ρ, h2, s3, en.mono (le.trans (le2.trans l3)), Post.bind (Post.mono l3 p2) fun z h4 w4 H4 v4 le4 s4 r4 p4 => ?_⟩
        cases eg : g y z h4 with
        | none => rw [eg] at p4; exact p4.elim
        | some z' =>
          rw [eg] at p4
          exact o' w4 h4 H4 y z z' u v4 Q s4 (r2.mono (l3.trans le4)) r4 eg fun w' H' o l s' r' => p4 w' H' o l s' r'
      | false => exact p2 w3 H3 _ l3 s3 rfl
    | _ => exact p2.elim
theorem it_chain {op op' : CmpOp} {f g : F2} {r r' : R2} (ho : OpR X (compareOp op) r) (ho' : OpR X (compareOp op') r') (o : OpI T f r) (o' : OpI T g r') (ha : IE T X E a ma) (hb : IE T X E b mb) (hc : IE T X E c mc)
    (hm : lastMarks [op, op'] [b, c] = false := by with_unfolding_all rfl) : IT T X E (.Compare a [op, op'] [b, c] pos) (mTst (mChain f g ma mb mc)) := PT.imp (pt_chain ho ho' ha hb hc hm) fun _ _ _ q => tTest_of (fun _ _ _ q => chain_of o o' q) q
theorem i_chain {op op' : CmpOp} {f g : F2} {r r' : R2} (ho : OpR X (compareOp op) r) (ho' : OpR X (compareOp op') r') (o : OpI T f r) (o' : OpI T g r') (ha : IE T X E a ma) (hb : IE T X E b mb) (hc : IE T X E c mc)
    (hm : lastMarks [op, op'] [b, c] = false := by with_unfolding_all rfl) : IE T X E (.Compare a [op, op'] [b, c] pos) (mChain f g ma mb mc) := PE.imp (pe_chain ho ho' ha hb hc hm) fun _ _ _ q => chain_of o o' q
/-- -a -/
def mNeg (m : ME) : ME := fun ρ h => (m ρ h).bind fun x h1 => match x with
  | .int i => .ok (.int (-i)) h1
  | _ => .bad
theorem i_neg (ha : IE T X E a ma) : IE T X E (.UnaryOp .USub a pos) (mNeg ma) :=
  PE.imp (pe_un un_neg ha) fun σ H Q ⟨w, ρ, h, s, en, p⟩ => ⟨w, ρ, h, s, en, Post.bind p fun x h1 w1 H1 v le s1 r1 p1 => by
    cases x with
    | int i =>
      cases r1
      exact ⟨i, rfl, p1 w1 H1 _ (Le.refl _) s1 rfl⟩
    | _ => exact p1.elim⟩

/-! ### subscripts -/
def fIx : F2 := fun x y h => match y with
  | .int i => (match x with
    | .tup l => atI l i
    | .str s => if s.length ≤ sizeLine then (match atI s.cps.toList i with
      | some c => some (.str ⟨#[c]⟩)
      | none => none) else none
    | _ => (match rdL h x with
      | some l => atI l i
      | none => none))
  | _ => none
theorem o_ix : OpI T fIx (rIx T.K) := fun w h H x y z v u Q s r1 r2 e q => by
  cases y with
  | int i =>
    cases r2
    have lst : ∀ {x : W}, VR T w x v → (match rdL h x with | some l => atI l i | none => none) = some z → rIx T.K v (.int i) H Q := fun {x} r1 e => by
      cases ex : rdL h x with
      | none => rw [ex] at e; cases e
      | some l =>
        rw [ex] at e
        obtain ⟨a, vs, rfl, h1, h2⟩ := rdL_at s r1 ex
        obtain ⟨z', e1, r⟩ := atI_all h2 e
        exact .inl ⟨a, vs, i, z', rfl, rfl, h1, e1, q w H _ (Le.refl w) s r⟩
    cases x with
    | tup l =>
      obtain ⟨a, vs, rfl, h1, h2⟩ := tup_at s r1
      obtain ⟨z', e1, r⟩ := atI_all h2 (show atI l i = some z from e)
      exact .inr (.inl ⟨a, vs, i, z', rfl, rfl, h1, e1, q w H _ (Le.refl w) s r⟩)
    | str t =>
      cases r1
      unfold fIx at e
      dsimp only at e
      split at e
      · rename_i hc
        cases ea : atI t.cps.toList i with
        | none => rw [ea] at e; cases e
        | some k =>
          rw [ea] at e
          cases e
          exact .inr (.inr ⟨t, i, k, rfl, rfl, hc, ea, q w H _ (Le.refl w) s rfl⟩)
      · cases e
    | _ => exact lst r1 e
  | _ => cases e
theorem i_ix (ha : IE T X E a ma) (hb : IE T X E b mb) {gb : Bool} (G : Gx T X E n gb) (hs : PlainIx b := by exact fun _ _ => rfl) : IE T X E (.Subscript a b pos) (mOp fIx ma mb) := PE.imp (pe_ix ix_seq ha hb hs) fun _ _ _ q => by
  rw [G.K]
  exact tOp_of o_ix q
/-- a part of a slice -/
abbrev MO := EnvW → List Cell → R (Option Int)
def relO (_ : Wd) (a b : Option Int) : Prop := b = a
def toI (T : Tab) (E : WX) (m : MO) : TO := fun σ H Q => ∃ w ρ h, StR T w h H ∧ EnvR T w ρ σ ∧ Post T relO w Q (fun c d H' => E c d σ H') (m ρ h)
def mNoP : MO := fun _ h => .ok none h
def mPart (m : ME) : MO := fun ρ h => (m ρ h).bind fun x h1 => match x with
  | .int i => .ok (some i) h1
  | _ => .bad
theorem PO.imp {e : Option Expr} {t t' : TO} (h : PO X e t) (k : ∀ σ H Q, t' σ H Q → t σ H Q) : PO X e t' := ⟨fun pins s σ H Q I q => h.run pins s σ H Q I (k σ H Q q)⟩
theorem io_none : PO X none (toI T E mNoP) := PO.imp po_none fun σ H Q ⟨w, ρ, h, s, en, p⟩ => p w H none (Le.refl w) s rfl
theorem io_some (ha : IE T X E a ma) : PO X (some a) (toI T E (mPart ma)) := PO.imp (po_some ha) fun σ H Q ⟨w, ρ, h, s, en, p⟩ => ⟨w, ρ, h, s, en, Post.bind p fun x h1 w1 H1 v le s1 r1 p1 => by
    cases x with
    | int i =>
      cases r1
      exact ⟨i, rfl, p1 w1 H1 _ (Le.refl _) s1 rfl⟩
    | _ => exact p1.elim⟩
def cutW (l : List W) (lo hi : Option Int) : List W := (l.drop (HT.sIx l.length 0 lo)).take (HT.sIx l.length l.length hi - HT.sIx l.length 0 lo)
theorem cut_all {w : Wd} {l : List W} {vs : List V} (r : VRs T w l vs) (lo hi : Option Int) : VRs T w (cutW l lo hi) (cutV vs lo hi) := by
  unfold cutW cutV
  rw [← r.length]
  exact (r.drop _).take _
/-- x[lo:hi]: of a list a new one, of a text, of a tuple -/
def fSl (h : List Cell) (x : W) (lo hi : Option Int) : Option W := match x with
  | .str s => if s.length ≤ sizeLine then some (.str (cutS s lo hi)) else none
  | .tup l => if HT.sIx l.length 0 lo = 0 ∧ HT.sIx l.length l.length hi = l.length then none else some (.tup (cutW l lo hi))
  | _ => match rdL h x with
    | some l => some (.lst (cutW l lo hi))
    | none => none
def rSl (K : PySem.W.Frag) : V → Option Int → Option Int → Hp → VK → Prop := fun x lo hi H Q => rSlL K x lo hi H Q ∨ rSlT K x lo hi H Q ∨ rSlS x lo hi H Q
theorem sl_any : SlR X (rSl X.K) := sl_list.or (sl_tup.or sl_str)
theorem fSl_ok {w : Wd} {h : List Cell} {H : Hp} {x z : W} {v : V} {lo hi : Option Int} {Q : VK} (s : StR T w h H) (r : VR T w x v) (e : fSl h x lo hi = some z) (q : ∀ w' H' o, Le w w' → StR T w' h H' → VR T w' z o → Q o H') : rSl T.K v lo hi H Q := by
  have lst : ∀ {x : W}, VR T w x v → (match rdL h x with | some l => some (W.lst (cutW l lo hi)) | none => none) = some z → rSl T.K v lo hi H Q := fun {x} r1 e => by
    cases ex : rdL h x with
    | none => rw [ex] at e; cases e
    | some l =>
      rw [ex] at e
      cases e
      obtain ⟨a, vs, rfl, h1, h2⟩ := rdL_at s r1 ex
      refine .inl ⟨a, vs, rfl, h1, fun p hp => ?_⟩
      obtain ⟨s', le⟩ := s.frozen (o := .lst (cutW l lo hi)) (u := .lst (cutV vs lo hi)) hp ⟨_, upd_same, cut_all h2 lo hi⟩
      exact q _ _ _ le s' ⟨p, rfl, if_pos rfl⟩
  cases x with
  | str t =>
    cases r
    unfold fSl at e
    dsimp only at e
    split at e
    · rename_i hc
      cases e
      exact .inr (.inr ⟨t, rfl, hc, q w H _ (Le.refl w) s rfl⟩)
    · cases e
  | tup l =>
    unfold fSl at e
    dsimp only at e
    split at e
    · cases e
    · rename_i hc
      cases e
      obtain ⟨a, vs, rfl, h1, h2⟩ := tup_at s r
      refine .inr (.inl ⟨a, vs, rfl, h1, by rw [← h2.length]; exact hc, fun p hp => ?_⟩)
      obtain ⟨s', le⟩ := s.frozen (o := .tup (cutW l lo hi)) (u := .tup (cutV vs lo hi)) hp ⟨_, upd_same, cut_all h2 lo hi⟩
      exact q _ _ _ le s' (.inl ⟨p, rfl, if_pos rfl⟩)
  | _ => exact lst r e
def mSl (m : ME) (ml mh : MO) : ME := fun ρ h => (m ρ h).bind fun x h1 => (ml ρ h1).bind fun lo h2 => (mh ρ h2).bind fun hi h3 => R.ofO (fSl h3 x lo hi) h3
theorem i_sl {lo hi : Option Expr} {ml mh : MO} {p2 : Pos} {gb : Bool} (G : Gx T X E n gb) (ha : IE T X E a ma) (hl : PO X lo (toI T E ml)) (hh : PO X hi (toI T E mh)) : IE T X E (.Subscript a (.Slice lo hi none p2) pos) (mSl ma ml mh) :=
  PE.imp (pe_slice sl_any ha hl hh) fun σ H Q ⟨w, ρ, h, s, en, p⟩ => ⟨w, ρ, h, s, en, Post.bind p fun x h1 w1 H1 v le s1 r1 p1 => ⟨w1, ρ, h1, s1, en.mono le, Post.bind p1 fun o1 h2 w2 H2 o1' le2 s2 q2 p2 =>
    ⟨w2, ρ, h2, s2, en.mono (le.trans le2), Post.bind p2 fun o2 h3 w3 H3 o2' le3 s3 q3 p3 => by
      cases q2
      cases q3
      rw [G.K]
      cases ez : fSl h3 x o1 o2 with
      | none => rw [ez] at p3; exact p3.elim
      | some z =>
        rw [ez] at p3
        exact fSl_ok s3 (r1.mono (le2.trans le3)) ez fun w' H' o l s' r' => p3 w' H' o l s' r'⟩⟩⟩

/-! ### argument lists, displays -/
def mNil : MA := fun _ h => .ok [] h
def mCons (m : ME) (mr : MA) : MA := fun ρ h => (m ρ h).bind fun x h1 => (mr ρ h1).bind fun l h2 => .ok (x :: l) h2
variable {es : List Expr} {mr : MA}
theorem ia_nil : IA T X E [] mNil := PA.imp pa_nil fun σ H Q ⟨w, ρ, h, s, en, p⟩ => p w H [] (Le.refl w) s .nil
theorem ia_cons (ha : IE T X E a ma) (hr : IA T X E es mr) (hs : starEach (a :: es) X.env = (false, eval a X.env) :: starEach es X.env := by rfl) : IA T X E (a :: es) (mCons ma mr) :=
  PA.imp (pa_cons ha hr hs) fun σ H Q ⟨w, ρ, h, s, en, p⟩ => ⟨w, ρ, h, s, en, Post.bind p fun x h1 w1 H1 v le s1 r1 p1 => ⟨w1, ρ, h1, s1, en.mono le, Post.bind p1 fun l h2 w2 H2 vs le2 s2 r2 p2 =>
    p2 w2 H2 _ (Le.refl _) s2 (.cons (r1.mono le2) r2)⟩⟩
def mTup (mr : MA) : ME := fun ρ h => (mr ρ h).bind fun l h1 => if l.length ≤ sizeLine then .ok (.tup l) h1 else .bad
/-- a list that stays as it is -/
def mLst (mr : MA) : ME := fun ρ h => (mr ρ h).bind fun l h1 => if l.length ≤ sizeLine then .ok (.lst l) h1 else .bad
/-- a list that will change -/
def mLstC (mr : MA) : ME := fun ρ h => (mr ρ h).bind fun l h1 => if l.length ≤ sizeLine then .ok (.loc h1.length) (h1 ++ [.lst l]) else .bad
theorem i_tup {x1} (hr : IA T X E es mr) : IE T X E (.Tuple es x1 pos) (mTup mr) := PE.imp (pe_tup hr) fun σ H Q ⟨w, ρ, h, s, en, p⟩ => ⟨w, ρ, h, s, en, Post.bind p fun l h1 w1 H1 vs le s1 r1 p1 => by
  split at p1
  · rename_i hc
    refine ⟨by rw [← r1.length]; exact hc, fun t ht => ?_⟩
    obtain ⟨s', le'⟩ := s1.frozen (o := .tup l) (u := .tup vs) ht ⟨_, upd_same, r1⟩
    exact p1 _ _ _ le' s' (.inl ⟨t, rfl, if_pos rfl⟩)
  · exact p1.elim⟩
theorem i_lst (hr : IA T X E es mr) : IE T X E (.List es pos) (mLst mr) := PE.imp (pe_lst hr) fun σ H Q ⟨w, ρ, h, s, en, p⟩ => ⟨w, ρ, h, s, en, Post.bind p fun l h1 w1 H1 vs le s1 r1 p1 => by
  split at p1
  · rename_i hc
    refine ⟨by rw [← r1.length]; exact hc, fun t ht => ?_⟩
    obtain ⟨s', le'⟩ := s1.frozen (o := .lst l) (u := .lst vs) ht ⟨_, upd_same, r1⟩
    exact p1 _ _ _ le' s' ⟨t, rfl, if_pos rfl⟩
  · exact p1.elim⟩
theorem new_loc {w : Wd} {h : List Cell} {H : Hp} {p : Addr} (s : StR T w h H) : VR T (w.addC p) (.loc h.length) (.ref p) := ⟨p, rfl, by
  show (w.cl ++ [p])[h.length]? = some p
  rw [← s.len, List.getElem?_append_right (Nat.le_refl _)]
  simp⟩
theorem i_lstC (hr : IA T X E es mr) : IE T X E (.List es pos) (mLstC mr) := PE.imp (pe_lst hr) fun σ H Q ⟨w, ρ, h, s, en, p⟩ => ⟨w, ρ, h, s, en, Post.bind p fun l h1 w1 H1 vs le s1 r1 p1 => by
  split at p1
  · rename_i hc
    refine ⟨by rw [← r1.length]; exact hc, fun t ht => ?_⟩
    exact p1 _ _ _ Le.addC (s1.cell (c := .lst l) (u := .lst vs) ht ⟨_, upd_same, r1⟩) (new_loc s1)
  · exact p1.elim⟩

/-! ### calls of built-ins -/
abbrev FA := List W → List Cell → Option W
def CallI (T : Tab) (f : FA) (r : List V → Hp → VK → Prop) : Prop := ∀ (w : Wd) (h : List Cell) (H : Hp) (xs : List W) (vs : List V) (z : W) (Q : VK), StR T w h H → VRs T w xs vs → f xs h = some z →
  (∀ w' H' o, Le w w' → StR T w' h H' → VR T w' z o → Q o H') → r vs H Q
def mCB (f : FA) (mr : MA) : ME := fun ρ h => (mr ρ h).bind fun l h1 => R.ofO (f l h1) h1
theorem cb_of {f : FA} {r : List V → Hp → VK → Prop} (c : CallI T f r) {σ : L2.St} {H : Hp} {Q : VK} (q : teI T E (mCB f mr) σ H Q) : tCB r (taI T E mr) σ H Q := by
  obtain ⟨w, ρ, h, s, en, p⟩ := q
  refine ⟨w, ρ, h, s, en, Post.bind p fun l h1 w1 H1 vs le s1 r1 p1 => ?_⟩
  cases ez : f l h1 with
  | none => rw [ez] at p1; exact p1.elim
  | some z =>
    rw [ez] at p1
    exact c w1 h1 H1 l vs z Q s1 r1 ez fun w' H' o l s' r' => p1 w' H' o l s' r'
theorem i_cb {id : String} {x : Str} {p : Pos} {f : FA} {r : List V → Hp → VK → Prop} (c : CallI T f r) (hc : CallR X (.builtin id) r) (hg : Gl X x) (hm : X.mg x = none) (hv : bootBuiltins x = some (.builtin id)) (ha : IA T X E (e :: es) mr)
    (hn : x ≠ "__name__" := by decide +kernel) (hdb : (x == ("__debug__" : Str)) = false := by decide +kernel)
    (he : starEach (e :: es) X.env = (false, eval e X.env) :: starEach es X.env := by rfl) (hpl : (backTo pos (starEach es X.env)).any (·.1) = false := by rfl) : IE T X E (.Call (.Name x p) (e :: es) [] pos) (mCB f mr) :=
  PE.imp (pe_callB hc hg hm hv ha hn hdb he hpl) fun _ _ _ q => cb_of c q
theorem i_cty {id : String} {x : Str} {p : Pos} {f : FA} {r : List V → Hp → VK → Prop} (c : CallI T f r) (hc : CallR X (.type id) r) (hg : Gl X x) (hm : X.mg x = none) (hv : bootBuiltins x = some (.type id)) (ha : IA T X E (e :: es) mr)
    (hn : x ≠ "__name__" := by decide +kernel) (hdb : (x == ("__debug__" : Str)) = false := by decide +kernel)
    (he : starEach (e :: es) X.env = (false, eval e X.env) :: starEach es X.env := by rfl) (hpl : (backTo pos (starEach es X.env)).any (·.1) = false := by rfl) : IE T X E (.Call (.Name x p) (e :: es) [] pos) (mCB f mr) :=
  PE.imp (pe_callTy hc hg hm hv ha hn hdb he hpl) fun _ _ _ q => cb_of c q
theorem all1 {α β : Type} {R : α → β → Prop} {x : α} {m : List β} (r : All2 R [x] m) : ∃ y, m = [y] ∧ R x y := by
  cases r with
  | cons h t => cases t; exact ⟨_, rfl, h⟩
theorem all2 {α β : Type} {R : α → β → Prop} {x y : α} {m : List β} (r : All2 R [x, y] m) : ∃ x' y', m = [x', y'] ∧ R x x' ∧ R y y' := by
  cases r with
  | cons h t => cases t with | cons h2 t2 => cases t2; exact ⟨_, _, rfl, h, h2⟩
def lenW (h : List Cell) : W → Option Nat
  | .str s => if s.length ≤ sizeLine then some s.length else none
  | .tup l => some l.length
  | x => match rdL h x with
    | some l => some l.length
    | none => none
def fLen : FA := fun xs h => match xs with
  | [x] => (match lenW h x with
    | some k => some (.int (k : Int))
    | none => none)
  | _ => none
theorem lenW_ok {w : Wd} {h : List Cell} {H : Hp} (s : StR T w h H) {x : W} {v : V} {k : Nat} (r : VR T w x v) (e : lenW h x = some k) : LenV T.K v H k := by
  have lst : ∀ {x : W}, VR T w x v → (match rdL h x with | some l => some l.length | none => none) = some k → LenV T.K v H k := fun {x} r1 e => by
    cases ex : rdL h x with
    | none => rw [ex] at e; cases e
    | some l =>
      rw [ex] at e
      cases e
      obtain ⟨a, vs, rfl, h1, h2⟩ := rdL_at s r1 ex
      exact .inl ⟨vs, h1, h2.length⟩
  cases x with
  | str t =>
    cases r
    have e : (if t.length ≤ sizeLine then some t.length else none) = some k := e
    split at e
    · rename_i hc
      cases e
      exact ⟨hc, rfl⟩
    · cases e
  | tup l =>
    cases e
    obtain ⟨a, vs, rfl, h1, h2⟩ := tup_at s r
    exact .inr ⟨vs, h1, h2.length⟩
  | _ => exact lst r e
theorem c_len : CallI T fLen (fun xs H Q => ∃ x n, xs = [x] ∧ LenV T.K x H n ∧ Q (.int n) H) := fun w h H xs vs z Q s r e q => by
  unfold fLen at e
  split at e
  · rename_i x
    cases ex : lenW h x with
    | none => rw [ex] at e; cases e
    | some k =>
      rw [ex] at e
      cases e
      obtain ⟨v, rfl, r1⟩ := all1 r
      exact ⟨v, k, rfl, lenW_ok s r1 ex, q w H _ (Le.refl w) s rfl⟩
  · cases e
theorem i_len {gb : Bool} (G : Gx T X E n gb) {p : Pos} (ha : IE T X E a ma) (hm : X.mg "len" = none) (hg : Gl X "len" := by rfl) (hs : starEach [a] X.env = (false, eval a X.env) :: starEach [] X.env := by rfl) : IE T X E (.Call (.Name "len" p) [a] [] pos) (mCB fLen (mCons ma mNil)) :=
  i_cb (c_len (T := T)) (G.K ▸ call_len) hg hm boot_len (ia_cons ha ia_nil hs) (by decide +kernel) (by decide +kernel) hs rfl
def fInt : FA := fun xs _ => match xs with
  | [.int i] => some (.int i)
  | [.bl k] => some (.int (if k then 1 else 0))
  | _ => none
theorem c_int : CallI T fInt (fun xs H Q => (∃ i, xs = [.int i] ∧ Q (.int i) H) ∨ ∃ k, xs = [.bl k] ∧ Q (.int (if k then 1 else 0)) H) := fun w h H xs vs z Q s r e q => by
  unfold fInt at e
  split at e
  · cases e
    obtain ⟨v, rfl, r1⟩ := all1 r
    cases r1
    exact .inl ⟨_, rfl, q w H _ (Le.refl w) s rfl⟩
  · cases e
    obtain ⟨v, rfl, r1⟩ := all1 r
    cases r1
    exact .inr ⟨_, rfl, q w H _ (Le.refl w) s rfl⟩
  · cases e
theorem i_int1 {p : Pos} (ha : IE T X E a ma) (hm : X.mg "int" = none) (hg : Gl X "int" := by rfl) (hs : starEach [a] X.env = (false, eval a X.env) :: starEach [] X.env := by rfl) : IE T X E (.Call (.Name "int" p) [a] [] pos) (mCB fInt (mCons ma mNil)) :=
  i_cty (c_int (T := T)) call_int1 hg hm boot_int (ia_cons ha ia_nil hs) (by decide +kernel) (by decide +kernel) hs rfl
/-- list(x), a list that stays as it is; tuple(x) -/
def fList : FA := fun xs h => match xs with
  | [x] => (match rdS h x with
    | some l => some (.lst l)
    | none => none)
  | _ => none
theorem c_list : CallI T fList (fun xs H Q => ∃ p ys, xs = [.ref p] ∧ (SqL T.K H p ys ∨ SqT T.K H p ys) ∧ ∀ l, H l = none → Q (.ref l) (upd H l (.lst ys))) := fun w h H xs vs z Q s r e q => by
  unfold fList at e
  split at e
  · rename_i x
    cases ex : rdS h x with
    | none => rw [ex] at e; cases e
    | some l =>
      rw [ex] at e
      cases e
      obtain ⟨v, rfl, r1⟩ := all1 r
      obtain ⟨p, us, rfl, h1, h2⟩ := rdS_at s r1 ex
      refine ⟨p, us, rfl, h1, fun t ht => ?_⟩
      obtain ⟨s', le⟩ := s.frozen (o := .lst l) (u := .lst us) ht ⟨_, upd_same, h2⟩
      exact q _ _ _ le s' ⟨t, rfl, if_pos rfl⟩
  · cases e
def fTuple : FA := fun xs h => match xs with
  | [.tup l] => some (.tup l)
  | [x] => (match rdL h x with
    | some l => some (.tup l)
    | none => none)
  | _ => none
theorem c_tuple : CallI T fTuple (fun xs H Q => ∃ p ys, xs = [.ref p] ∧ ((SqL T.K H p ys ∧ ∀ l, H l = none → Q (.ref l) (upd H l (.tup ys))) ∨ (SqT T.K H p ys ∧ Q (.ref p) H))) := fun w h H xs vs z Q s r e q => by
  unfold fTuple at e
  split at e
  · cases e
    obtain ⟨v, rfl, r1⟩ := all1 r
    obtain ⟨p, us, rfl, h1, h2⟩ := tup_at s r1
    exact ⟨p, us, rfl, .inr ⟨h1, q w H _ (Le.refl w) s r1⟩⟩
  · rename_i x _
    cases ex : rdL h x with
    | none => rw [ex] at e; cases e
    | some l =>
      rw [ex] at e
      cases e
      obtain ⟨v, rfl, r1⟩ := all1 r
      obtain ⟨p, us, rfl, h1, h2⟩ := rdL_at s r1 ex
      refine ⟨p, us, rfl, .inl ⟨h1, fun t ht => ?_⟩⟩
      obtain ⟨s', le⟩ := s.frozen (o := .tup l) (u := .tup us) ht ⟨_, upd_same, h2⟩
      exact q _ _ _ le s' (.inl ⟨t, rfl, if_pos rfl⟩)
  · cases e
theorem i_list1 {gb : Bool} (G : Gx T X E n gb) {p : Pos} (ha : IE T X E a ma) (hm : X.mg "list" = none) (hg : Gl X "list" := by rfl) (hs : starEach [a] X.env = (false, eval a X.env) :: starEach [] X.env := by rfl) : IE T X E (.Call (.Name "list" p) [a] [] pos) (mCB fList (mCons ma mNil)) :=
  i_cty (c_list (T := T)) (G.K ▸ call_list_of) hg hm (by decide +kernel) (ia_cons ha ia_nil hs) (by decide +kernel) (by decide +kernel) hs rfl
theorem i_tuple1 {gb : Bool} (G : Gx T X E n gb) {p : Pos} (ha : IE T X E a ma) (hm : X.mg "tuple" = none) (hg : Gl X "tuple" := by rfl) (hs : starEach [a] X.env = (false, eval a X.env) :: starEach [] X.env := by rfl) : IE T X E (.Call (.Name "tuple" p) [a] [] pos) (mCB fTuple (mCons ma mNil)) :=
  i_cty (c_tuple (T := T)) (G.K ▸ call_tuple_of) hg hm (by decide +kernel) (ia_cons ha ia_nil hs) (by decide +kernel) (by decide +kernel) hs rfl
/-- list(x), a list that will change -/
def mListC (m : ME) : ME := fun ρ h => (m ρ h).bind fun x h1 => match rdS h1 x with
  | some l => .ok (.loc h1.length) (h1 ++ [.lst l])
  | none => .bad
theorem i_list1C {gb : Bool} (G : Gx T X E n gb) {p : Pos} (ha : IE T X E a ma) (hm : X.mg "list" = none) (hg : Gl X "list" := by rfl) (hs : starEach [a] X.env = (false, eval a X.env) :: starEach [] X.env := by rfl) : IE T X E (.Call (.Name "list" p) [a] [] pos) (mListC ma) :=
  PE.imp (pe_callTy (r := fun xs H Q => ∃ p ys, xs = [.ref p] ∧ (SqL T.K H p ys ∨ SqT T.K H p ys) ∧ ∀ l, H l = none → Q (.ref l) (upd H l (.lst ys))) (G.K ▸ call_list_of) hg hm (by decide +kernel) (pa_cons ha pa_nil hs) (by decide +kernel) (by decide +kernel) hs rfl)
    fun σ H Q ⟨w, ρ, h, s, en, p⟩ => ⟨w, ρ, h, s, en, Post.bind p fun x h1 w1 H1 v le s1 r1 p1 => by
      cases ex : rdS h1 x with
      | none => rw [ex] at p1; exact p1.elim
      | some l =>
        rw [ex] at p1
        obtain ⟨p, us, rfl, q1, q2⟩ := rdS_at s1 r1 ex
        exact ⟨p, us, rfl, q1, fun t ht => p1 _ _ _ Le.addC (s1.cell (c := .lst l) (u := .lst us) ht ⟨_, upd_same, q2⟩) (new_loc s1)⟩⟩

/-! ### truth -/
def truW (h : List Cell) : W → Option Bool
  | .non => some false
  | .bl b => some b
  | .int i => some (i != 0)
  | .str s => if s.length ≤ sizeLine then some ((s.length : Int) != 0) else none
  | .tup l => some (!l.isEmpty)
  | .loc n => match h[n]? with
    | some (.lst l) => some (!l.isEmpty)
    | some (.dk l) => some (!l.isEmpty)
    | _ => none
  | x => match rdL h x with
    | some l => some (!l.isEmpty)
    | none => none
theorem All2.isEmpty {α β : Type} {R : α → β → Prop} {l : List α} {m : List β} (r : All2 R l m) : (!l.isEmpty) = !m.isEmpty := by cases r <;> rfl
theorem truW_ok {w : Wd} {h : List Cell} {H : Hp} (s : StR T w h H) {x : W} {v : V} {k : Bool} (r : VR T w x v) (e : truW h x = some k) : TruV T.K v H k := by
  have lst : ∀ {x : W}, VR T w x v → (match rdL h x with | some l => some (!l.isEmpty) | none => none) = some k → TruV T.K v H k := fun {x} r1 e => by
    cases ex : rdL h x with
    | none => rw [ex] at e; cases e
    | some l =>
      rw [ex] at e
      cases e
      obtain ⟨a, vs, rfl, h1, h2⟩ := rdL_at s r1 ex
      exact .inl ⟨vs, h1, h2.isEmpty⟩
  cases x with
  | non => cases r; cases e; rfl
  | bl b => cases r; cases e; rfl
  | int i => cases r; cases e; rfl
  | str t =>
    cases r
    have e : (if t.length ≤ sizeLine then some ((t.length : Int) != 0) else none) = some k := e
    split at e
    · rename_i hc
      cases e
      exact ⟨hc, rfl⟩
    · cases e
  | tup l =>
    cases e
    obtain ⟨a, vs, rfl, h1, h2⟩ := tup_at s r
    exact .inr (.inl ⟨vs, h1, h2.isEmpty⟩)
  | loc j =>
    unfold truW at e
    dsimp only at e
    cases q : h[j]? with
    | none => rw [q] at e; cases e
    | some c =>
      rw [q] at e
      cases c with
      | lst l =>
        cases e
        obtain ⟨a, rfl, _, vs, h1, h2⟩ := loc_at s r q
        exact .inl ⟨vs, .of h1, h2.isEmpty⟩
      | dk l =>
        cases e
        obtain ⟨a, rfl, _, vs, h1, h2⟩ := loc_at s r q
        exact .inr (.inr ⟨vs, h1, h2.isEmpty⟩)
      | _ => cases e
  | _ => exact lst r e
def mTru (m : ME) : MT := fun ρ h => (m ρ h).bind fun x h1 => R.ofO (truW h1 x) h1
theorem it_tru {gb : Bool} (G : Gx T X E n gb) (ha : IE T X E a ma) (he : ∀ whole, isTrue a X.env whole = (do let v ← whole; standAt a.pos; holding [v] (truthy v)) := by intro _; rfl) : IT T X E a (mTru ma) :=
  PT.imp (pt_truth ha he) fun σ H Q ⟨w, ρ, h, s, en, p⟩ => ⟨w, ρ, h, s, en, Post.bind p fun x h1 w1 H1 v le s1 r1 p1 => by
    rw [G.K]
    cases ez : truW h1 x with
    | none => rw [ez] at p1; exact p1.elim
    | some k =>
      rw [ez] at p1
      exact ⟨k, truW_ok s1 r1 ez, p1 w1 H1 _ (Le.refl _) s1 rfl⟩⟩
end
end Fz

namespace Fz
open PySem PySem.Spec PyProof.Rows L2

/-! ### statements -/
inductive RS where
  | nx (ρ : EnvW) (h : List Cell) | rt (x : W) (h : List Cell) | bk (ρ : EnvW) (h : List Cell) | ct (ρ : EnvW) (h : List Cell)
  | exc (c : Nat) (vs : List W) (ρ : EnvW) (h : List Cell)
  | bad
abbrev MS := EnvW → List Cell → RS
def R.toS {α : Type} (m : R α) (ρ : EnvW) (k : α → List Cell → RS) : RS := match m with
  | .ok x h => k x h
  | .exc c vs h => .exc c vs ρ h
  | .bad => .bad
def PostS (T : Tab) (w : Wd) (D : Ends) (E : WX) : RS → Prop
  | .nx ρ h => ∀ w' σ' H', Le w w' → StR T w' h H' → EnvR T w' ρ σ' → D.nx σ' H'
  | .rt x h => ∀ w' H' v, Le w w' → StR T w' h H' → VR T w' x v → D.rt v H'
  | .bk ρ h => ∀ w' σ' H', Le w w' → StR T w' h H' → EnvR T w' ρ σ' → D.bk σ' H'
  | .ct ρ h => ∀ w' σ' H', Le w w' → StR T w' h H' → EnvR T w' ρ σ' → D.ct σ' H'
  | .exc c vs ρ h => ∀ w' σ' H' d, Le w w' → StR T w' h H' → EnvR T w' ρ σ' → EOk T w' H' c vs d → E (.ref (T.ca c)) d σ' H'
  | .bad => False
def tsI (T : Tab) (E : WX) (m : MS) : TS := fun D σ H => ∃ w ρ h, StR T w h H ∧ EnvR T w ρ σ ∧ PostS T w D E (m ρ h)
section
variable {T : Tab} {E : WX} {w w1 : Wd} {D D' : Ends}
theorem PostS.mono (le : Le w w1) : ∀ {m : RS}, PostS T w D E m → PostS T w1 D E m
  | .nx _ _, h => fun w' σ' H' l s r => h w' σ' H' (le.trans l) s r
  | .rt _ _, h => fun w' H' v l s r => h w' H' v (le.trans l) s r
  | .bk _ _, h => fun w' σ' H' l s r => h w' σ' H' (le.trans l) s r
  | .ct _ _, h => fun w' σ' H' l s r => h w' σ' H' (le.trans l) s r
  | .exc _ _ _ _, h => fun w' σ' H' d l s r => h w' σ' H' d (le.trans l) s r
  | .bad, h => h
theorem PostS.of {α β : Type} {rel : Wd → α → β → Prop} {Q : β → Hp → Prop} {m : R α} {ρ : EnvW} {σ : L2.St} {k : α → List Cell → RS} (en : EnvR T w ρ σ) (h : PostS T w D E (m.toS ρ k))
    (f : ∀ x h1 w1 H1 v, Le w w1 → StR T w1 h1 H1 → rel w1 x v → PostS T w1 D E (k x h1) → Q v H1) : Post T rel w Q (fun c d H' => E c d σ H') m := by
  cases m with
  | ok x h1 => exact fun w1 H1 v le s r => f x h1 w1 H1 v le s r (PostS.mono le (show PostS T w D E (k x h1) from h))
  | exc c vs h1 => exact fun w' H' d l s e => h w' σ H' d l s (en.mono l) e
  | bad => exact h
end
section
variable {T : Tab} {X : Cx} {E : WX} {n : Nat} {a b e : Expr} {ma mb m : ME} {pos : Pos} {st : Stmt} {rest : List Stmt} {s1 s2 : MS}
abbrev IS (T : Tab) (X : Cx) (E : WX) (s : Stmt) (m : MS) : Prop := PS X s (tsI T E m)
abbrev ISs (T : Tab) (X : Cx) (E : WX) (s : List Stmt) (m : MS) : Prop := PSs X s (tsI T E m)
def mSkip : MS := fun ρ h => .nx ρ h
def mSeq (a b : MS) : MS := fun ρ h => match a ρ h with
  | .nx ρ1 h1 => b ρ1 h1
  | r => r
theorem seq_of {D : Ends} {σ : L2.St} {H : Hp} (q : tsI T E (mSeq s1 s2) D σ H) : tSeq (tsI T E s1) (tsI T E s2) D σ H := by
  obtain ⟨w, ρ, h, s, en, p⟩ := q
  refine ⟨w, ρ, h, s, en, ?_⟩
  unfold mSeq at p
  cases q1 : s1 ρ h with
  | nx ρ1 h1 =>
    rw [q1] at p
    exact fun w' σ' H' l s' r => ⟨w', ρ1, h1, s', r, PostS.mono l p⟩
  | rt x h1 => rw [q1] at p; exact p
  | bk ρ1 h1 => rw [q1] at p; exact p
  | ct ρ1 h1 => rw [q1] at p; exact p
  | exc c vs ρ1 h1 => rw [q1] at p; exact p
  | bad => rw [q1] at p; exact p
theorem is_nil : ISs T X E [] mSkip := PSs.imp pss_nil fun D σ H ⟨w, ρ, h, s, en, p⟩ => p w σ H (Le.refl w) s en
theorem is_cons (h1 : IS T X E st s1) (h2 : ISs T X E rest s2) : ISs T X E (st :: rest) (mSeq s1 s2) := PSs.imp (pss_cons h1 h2) fun D σ H q => seq_of q
theorem is_one (h1 : IS T X E st s1) : ISs T X E [st] s1 := pss_one h1
theorem is_pass : IS T X E (.Pass pos) mSkip := PS.imp ps_pass fun D σ H ⟨w, ρ, h, s, en, p⟩ => p w σ H (Le.refl w) s en
def mBrk : MS := fun ρ h => .bk ρ h
def mCnt : MS := fun ρ h => .ct ρ h
theorem is_break : IS T X E (.Break pos) mBrk := PS.imp ps_break fun D σ H ⟨w, ρ, h, s, en, p⟩ => p w σ H (Le.refl w) s en
theorem is_continue : IS T X E (.Continue pos) mCnt := PS.imp ps_continue fun D σ H ⟨w, ρ, h, s, en, p⟩ => p w σ H (Le.refl w) s en
def mNever : MS := fun _ _ => .bad
theorem is_never : IS T X E st mNever := PS.imp ps_never fun D σ H ⟨w, ρ, h, s, en, p⟩ => p.elim
theorem iss_never : ISs T X E rest mNever := PSs.imp pss_never fun D σ H ⟨w, ρ, h, s, en, p⟩ => p.elim
theorem is_doc {x j pos'} : IS T X E (.Expr (.Constant (.str x) j pos) pos') mSkip := PS.imp ps_doc fun D σ H ⟨w, ρ, h, s, en, p⟩ => p w σ H (Le.refl w) s en
def mExp (m : ME) : MS := fun ρ h => (m ρ h).toS ρ fun _ h1 => .nx ρ h1
theorem is_expr (he : IE T X E e m) (hs : swapsWith e none pos.line X.env = pure false := by rfl) : IS T X E (.Expr e pos) (mExp m) :=
  PS.imp (ps_expr he hs) fun D σ H ⟨w, ρ, h, s, en, p⟩ => ⟨w, ρ, h, s, en, PostS.of en p fun x h1 w1 H1 v le s1 r1 p1 => p1 w1 σ H1 (Le.refl _) s1 (en.mono le)⟩
def mRet (m : ME) : MS := fun ρ h => (m ρ h).toS ρ fun x h1 => .rt x h1
theorem is_ret (he : IE T X E e m) : IS T X E (.Return (some e) pos) (mRet m) :=
  PS.imp (ps_ret he) fun D σ H ⟨w, ρ, h, s, en, p⟩ => ⟨w, ρ, h, s, en, PostS.of en p fun x h1 w1 H1 v le s1 r1 p1 => p1 w1 H1 v (Le.refl _) s1 r1⟩
def mRetN : MS := fun _ h => .rt .non h
theorem is_retN : IS T X E (.Return none pos) mRetN := PS.imp ps_retN fun D σ H ⟨w, ρ, h, s, en, p⟩ => p w H .non (Le.refl w) s rfl
def mIfS (c : MT) (a b : MS) : MS := fun ρ h => (c ρ h).toS ρ fun x h1 => if x = true then a ρ h1 else b ρ h1
theorem is_if {c : Expr} {xs ys : List Stmt} {mc : MT} (hc : IT T X E c mc) (ha : ISs T X E xs s1) (hb : ISs T X E ys s2) : IS T X E (.If c xs ys pos) (mIfS mc s1 s2) :=
  PS.imp (ps_if hc ha hb) fun D σ H ⟨w, ρ, h, s, en, p⟩ => ⟨w, ρ, h, s, en, PostS.of en p fun x h1 w1 H1 v le s1 r1 p1 => by
    cases r1
    cases x with
    | true => exact ⟨w1, ρ, h1, s1, en.mono le, p1⟩
    | false => exact ⟨w1, ρ, h1, s1, en.mono le, p1⟩⟩

/-! ### targets -/
abbrev MG := W → EnvW → List Cell → RS
abbrev MGs := List W → EnvW → List Cell → RS
def gEnds (Q : L2.St → Hp → Prop) : Ends := { nx := Q, rt := fun _ _ => False }
def tgI (T : Tab) (E : WX) (m : MG) : TG := fun v σ H Q => ∃ w ρ h x, StR T w h H ∧ EnvR T w ρ σ ∧ VR T w x v ∧ PostS T w (gEnds Q) E (m x ρ h)
def tgsI (T : Tab) (E : WX) (m : MGs) : TGs := fun vs σ H Q => ∃ w ρ h xs, StR T w h H ∧ EnvR T w ρ σ ∧ VRs T w xs vs ∧ PostS T w (gEnds Q) E (m xs ρ h)
abbrev IG (T : Tab) (X : Cx) (E : WX) (e : Expr) (m : MG) : Prop := PG X e (tgI T E m)
abbrev IGs (T : Tab) (X : Cx) (E : WX) (e : List Expr) (m : MGs) : Prop := PGs X e (tgsI T E m)
theorem PG.imp {e : Expr} {t t' : TG} (h : PG X e t) (k : ∀ v σ H Q, t' v σ H Q → t v σ H Q) : PG X e t' := ⟨fun pins s σ H v u Q I r q => h.run pins s σ H v u Q I r (k v σ H Q q)⟩
theorem PG.or {e : Expr} {t t' : TG} (h : PG X e t) (h' : PG X e t') : PG X e (fun v σ H Q => t v σ H Q ∨ t' v σ H Q) := ⟨fun pins s σ H v u Q I r q => q.elim (h.run pins s σ H v u Q I r) (h'.run pins s σ H v u Q I r)⟩
theorem PGs.imp {e : List Expr} {t t' : TGs} (h : PGs X e t) (k : ∀ v σ H Q, t' v σ H Q → t v σ H Q) : PGs X e t' := ⟨fun pins s σ H v u Q I r q => h.run pins s σ H v u Q I r (k v σ H Q q)⟩
def mGName (i : Nat) : MG := fun x ρ h => .nx (ρ.set i (some x)) h
theorem EnvR.set {w : Wd} {ρ : EnvW} {σ : L2.St} (en : EnvR T w ρ σ) {x : W} {v : V} (r : VR T w x v) (i : Nat) : EnvR T w (ρ.set i (some x)) (σ.set i (some v)) :=
  All2.set (fun y e => by cases e; exact ⟨v, rfl, r⟩) i en
theorem ig_name (i : Nat) {x : Str} {gb : Bool} (G : Gx T X E n gb) (hi : X.N[i]? = some x := by rfl) (hx : Loc X.env.scope x := by first | exact Or.inl rfl | exact Or.inr rfl) (hf : X.fn x = true ∨ X.env.scope.names.lookup x = some .local := by first | exact .inl rfl | exact .inr rfl) : IG T X E (.Name x pos) (mGName i) :=
  PG.imp (pg_name G.nd hi hx hf) fun v σ H Q ⟨w, ρ, h, x, s, en, r, p⟩ => p w _ H (Le.refl w) s (en.set r i)
def mGNil : MGs := fun xs ρ h => match xs with
  | [] => .nx ρ h
  | _ => .bad
def mGCons (g : MG) (gs : MGs) : MGs := fun xs ρ h => match xs with
  | x :: r => (match g x ρ h with
    | .nx ρ1 h1 => gs r ρ1 h1
    | z => z)
  | [] => .bad
theorem igs_nil : IGs T X E [] mGNil := PGs.imp pgs_nil fun vs σ H Q ⟨w, ρ, h, xs, s, en, r, p⟩ => by
  cases xs with
  | nil => cases r; exact ⟨rfl, p w σ H (Le.refl w) s en⟩
  | cons x l => exact p.elim
theorem igs_cons {e : Expr} {es : List Expr} {g : MG} {gs : MGs} (h1 : IG T X E e g) (h2 : IGs T X E es gs) (hs : (assignEach (e :: es) X.env).map (·.2) = assign e X.env :: (assignEach es X.env).map (·.2) := by rfl) : IGs T X E (e :: es) (mGCons g gs) :=
  PGs.imp (pgs_cons h1 h2 hs) fun vs σ H Q ⟨w, ρ, h, xs, s, en, r, p⟩ => by
    cases xs with
    | nil => exact p.elim
    | cons x l =>
      cases r with
      | cons r1 r2 =>
        refine ⟨_, _, rfl, w, ρ, h, x, s, en, r1, ?_⟩
        unfold mGCons at p
        dsimp only at p
        cases q1 : g x ρ h with
        | nx ρ1 h1 =>
          rw [q1] at p
          exact fun w' σ' H' le s' en' => ⟨w', ρ1, h1, l, s', en', VRs.mono le r2, PostS.mono le p⟩
        | rt x h1 => rw [q1] at p; exact p
        | bk ρ1 h1 => rw [q1] at p; exact p
        | ct ρ1 h1 => rw [q1] at p; exact p
        | exc c vs ρ1 h1 => rw [q1] at p; exact p
        | bad => rw [q1] at p; exact p
def mGTup (k : Nat) (gs : MGs) : MG := fun x ρ h => match rdS h x with
  | some l => if l.length = k then gs l ρ h else .bad
  | none => .bad
theorem ig_tup {es : List Expr} {k : Nat} {gs : MGs} (G : Gd T X E n) (h : IGs T X E es gs) (hn : (assignEach es X.env).length = es.length := by rfl) (hst : (assignEach es X.env).findIdx? (·.1) = none := by rfl) : IG T X E (.Tuple es k pos) (mGTup es.length gs) :=
  PG.imp (PG.or (pg_tup (n := es.length) G.calm h hn hst) (pg_lst (n := es.length) G.calm h hn hst)) fun v σ H Q ⟨w, ρ, h, x, s, en, r, p⟩ => by
    unfold mGTup at p
    cases q : rdS h x with
    | none => rw [q] at p; exact p.elim
    | some l =>
      rw [q] at p
      dsimp only at p
      split at p
      · rename_i hl
        obtain ⟨a, vs, rfl, h1, h2⟩ := rdS_at s r q
        rw [G.K]
        rcases h1 with h1 | h1
        · exact .inr ⟨a, vs, rfl, h1, by rw [← h2.length]; exact hl, w, ρ, h, l, s, en, h2, p⟩
        · exact .inl ⟨a, vs, rfl, h1, by rw [← h2.length]; exact hl, w, ρ, h, l, s, en, h2, p⟩
      · exact p.elim
/-- o[i] = .., o a list that changes -/
def mGSub (mo mi : ME) : MG := fun x ρ h => (mo ρ h).toS ρ fun o h1 => (mi ρ h1).toS ρ fun i h2 => match o, i with
  | .loc j, .int k => (match h2[j]? with
    | some (.lst l) => (match ixN l.length k with
      | some t => .nx ρ (h2.set j (.lst (l.set t x)))
      | none => .bad)
    | _ => .bad)
  | _, _ => .bad
theorem ig_sub {o i : Expr} {mo mi : ME} (ho : IE T X E o mo) (hi : IE T X E i mi) (ha : ∀ v, assign (.Subscript o i pos) X.env v = (do
      let ov ← holding [v] (eval o X.env)
      let iv ← holding [v, ov] (eval i X.env)
      standAt pos
      holding [v, ov, iv] (setItem ov iv v)
      release [v, ov, iv] []) := by intro _; rfl) : IG T X E (.Subscript o i pos) (mGSub mo mi) :=
  PG.imp (pg_sub ho hi set_list ha) fun v σ H Q ⟨w, ρ, h, x, s, en, r, p⟩ => ⟨w, ρ, h, s, en, PostS.of en p fun o h1 w1 H1 ov le s1 r1 p1 => ⟨w1, ρ, h1, s1, en.mono le, PostS.of (en.mono le) p1 fun i h2 w2 H2 iv le2 s2 r2 p2 => by
    cases o with
    | loc j =>
      cases i with
      | int k =>
        dsimp only at p2
        cases q : h2[j]? with
        | none => rw [q] at p2; exact p2.elim
        | some c =>
          rw [q] at p2
          cases c with
          | lst l =>
            dsimp only at p2
            cases q3 : ixN l.length k with
            | none => rw [q3] at p2; exact p2.elim
            | some t =>
              rw [q3] at p2
              cases r2
              obtain ⟨a, rfl, e2, vs, e3, e4⟩ := loc_at s2 (r1.mono le2) q
              refine ⟨a, vs, k, t, rfl, rfl, e3, by rw [← e4.length]; exact q3, ?_⟩
              have rv := (r.mono (le.trans le2))
              have s3 := s2.write (c := .lst l) (d := .lst (l.set t x)) (u := .lst (vs.set t v)) q e2 trivial ⟨_, upd_same, e4.set rv t⟩
              exact p2 w2 σ _ (Le.refl _) s3 (en.mono (le.trans le2))
          | _ => exact p2.elim
      | _ => exact p2.elim
    | _ => exact p2.elim⟩⟩
def mAsg (m : ME) (g : MG) : MS := fun ρ h => (m ρ h).toS ρ fun x h1 => g x ρ h1
theorem gends_of {w : Wd} {D : Ends} {m : RS} (k : ∀ ρ h, m ≠ .bk ρ h ∧ m ≠ .ct ρ h) (kr : ∀ x h, m ≠ .rt x h) (p : PostS T w D E m) : PostS T w (gEnds D.nx) E m := by
  cases m with
  | nx ρ h => exact p
  | rt x h => exact absurd rfl (kr x h)
  | bk ρ h => exact absurd rfl (k ρ h).1
  | ct ρ h => exact absurd rfl (k ρ h).2
  | exc c vs ρ h => exact p
  | bad => exact p
/-- a target's result made plain -/
def gOnly : RS → RS
  | .nx ρ h => .nx ρ h
  | .exc c vs ρ h => .exc c vs ρ h
  | _ => .bad
def mAsgG (m : ME) (g : MG) : MS := fun ρ h => (m ρ h).toS ρ fun x h1 => gOnly (g x ρ h1)
theorem gOnly_of {w : Wd} {D : Ends} {m : RS} (p : PostS T w D E (gOnly m)) : PostS T w (gEnds D.nx) E m := by
  cases m with
  | nx ρ h => exact p
  | exc c vs ρ h => exact p
  | _ => exact p.elim
theorem is_asg {tg : Expr} {g : MG} (he : IE T X E e m) (hg : IG T X E tg g) (hs : swapsWithSole [tg] e pos.line X.env = pure false := by rfl) (hw : swappedStores [tg] e X.env = pure none := by rfl)
    (h1 : (assignEach [tg] X.env).map (·.2) = [assign tg X.env] := by rfl) : IS T X E (.Assign [tg] e pos) (mAsgG m g) :=
  PS.imp (ps_asg he hg hs hw h1) fun D σ H ⟨w, ρ, h, s, en, p⟩ => ⟨w, ρ, h, s, en, PostS.of en p fun x h1 w1 H1 v le s1 r1 p1 => ⟨w1, ρ, h1, x, s1, en.mono le, r1, gOnly_of p1⟩⟩
def mSet (i : Nat) (m : ME) : MS := fun ρ h => (m ρ h).toS ρ fun x h1 => .nx (ρ.set i (some x)) h1
theorem is_set (i : Nat) {x : Str} {pos' : Pos} {gb : Bool} (G : Gx T X E n gb) (he : IE T X E e m) (hi : X.N[i]? = some x := by rfl) (hx : Loc X.env.scope x := by first | exact Or.inl rfl | exact Or.inr rfl) (hs : swapsWith e (some (.Name x pos')) pos.line X.env = pure false := by rfl)
    (hf : X.fn x = true ∨ X.env.scope.names.lookup x = some .local := by first | exact .inl rfl | exact .inr rfl) : IS T X E (.Assign [.Name x pos'] e pos) (mSet i m) :=
  PS.imp (ps_set G.nd hi hx he hs hf) fun D σ H ⟨w, ρ, h, s, en, p⟩ => ⟨w, ρ, h, s, en, PostS.of en p fun x h1 w1 H1 v le s1 r1 p1 => p1 w1 _ H1 (Le.refl _) s1 ((en.mono le).set r1 i)⟩
/-- x op= e -/
def mAug (i : Nat) (f : F2) (m : ME) : MS := fun ρ h => match ρ[i]? with
  | some (some x) => (m ρ h).toS ρ fun y h1 => (match f x y h1 with
    | some z => .nx (ρ.set i (some z)) h1
    | none => .bad)
  | _ => .bad
theorem is_aug (i : Nat) {x : Str} {op : Operator} {f : F2} {r : R2} {pos' : Pos} (o : OpI T f r) (ho : OpR X (inplaceOp op) r) {gb : Bool} (G : Gx T X E n gb) (he : IE T X E e m) (hi : X.N[i]? = some x := by rfl) (hx : Loc X.env.scope x := by first | exact Or.inl rfl | exact Or.inr rfl)
    (hf : X.fn x = true ∨ X.env.scope.names.lookup x = some .local := by first | exact .inl rfl | exact .inr rfl) : IS T X E (.AugAssign (.Name x pos') op e pos) (mAug i f m) :=
  PS.imp (ps_aug G.nd hi hx he ho hf) fun D σ H ⟨w, ρ, h, s, en, p⟩ => by
    unfold mAug at p
    cases q : ρ[i]? with
    | none => rw [q] at p; exact p.elim
    | some o1 =>
      cases o1 with
      | none => rw [q] at p; exact p.elim
      | some x =>
        rw [q] at p
        obtain ⟨v', e1, e2⟩ := en.get q
        obtain ⟨v, rfl, rv⟩ := e2 x rfl
        refine ⟨v, e1, w, ρ, h, s, en, PostS.of en p fun y h1 w1 H1 u le s1 r1 p1 => ?_⟩
        cases ez : f x y h1 with
        | none => rw [ez] at p1; exact p1.elim
        | some z =>
          rw [ez] at p1
          exact o w1 h1 H1 x y z v u _ s1 (rv.mono le) r1 ez fun w' H' o' l s' r' => p1 w' _ H' l s' ((en.mono (le.trans l)).set r' i)
/-- xs.append(e) -/
def mApp (mo m : ME) : MS := fun ρ h => (mo ρ h).toS ρ fun o h1 => match o with
  | .loc j => (match h1[j]? with
    | some (.lst _) => (m ρ h1).toS ρ fun x h2 => (match h2[j]? with
      | some (.lst l) => if l.length < sizeLine then .nx ρ (h2.set j (.lst (l ++ [x]))) else .bad
      | _ => .bad)
    | _ => .bad)
  | _ => .bad
theorem is_app {o : Expr} {mo : ME} {apos cpos : Pos} {gb : Bool} (G : Gx T X E n gb) (ho : IE T X E o mo) (he : IE T X E e m) (hbase : attributeBase o "append" X.env (eval o X.env) = eval o X.env := by rfl)
    (hfew : ((backTo cpos (starEach [e] X.env)).all (fun x => !x.1) && (backToKw cpos (keywordEach [] X.env)).all (fun x => x.1.isSome)
      && decide ([e].length + ([] : List Keyword).length + (if ([] : List Keyword).isEmpty then 0 else 1) < 30)) = true := by rfl)
    (hline : (apos.endLine == cpos.line) = true := by rfl) (hs : starEach [e] X.env = (false, eval e X.env) :: starEach [] X.env := by rfl) (hplain : (backTo cpos (starEach [] X.env)).any (·.1) = false := by rfl)
    (hsw : swapsWith (.Call (.Attribute o "append" apos) [e] [] cpos) none pos.line X.env = pure false := by rfl) : IS T X E (.Expr (.Call (.Attribute o "append" apos) [e] [] cpos) pos) (mApp mo m) :=
  PS.imp (ps_expr (pe_bm PySem.F.plainAttrs_list PySem.F.slot_list_append PySem.F.type_list_append mt_append ho (pa_cons he pa_nil hs) hbase hfew hline hs hplain) hsw) fun D σ H ⟨w, ρ, h, s, en, p⟩ =>
    ⟨w, ρ, h, s, en, PostS.of en p fun o h1 w1 H1 ov le s1 r1 p1 => by
      cases o with
      | loc j =>
        dsimp only at p1
        cases hc : h1[j]? with
        | none => rw [hc] at p1; exact p1.elim
        | some c =>
          rw [hc] at p1
          cases c with
          | lst l0 =>
            obtain ⟨a, rfl, ea, vs0, g1, g2⟩ := loc_at s1 r1 hc
            refine ⟨.inl ⟨rfl, vs0, by rw [G.K]; exact .of g1⟩, w1, ρ, h1, s1, en.mono le, PostS.of (en.mono le) p1 fun x h2 w2 H2 u le2 s2 r2 p2 => ?_⟩
            cases q : h2[j]? with
            | none => rw [q] at p2; exact p2.elim
            | some c =>
              rw [q] at p2
              cases c with
              | lst l =>
                dsimp only at p2
                split at p2
                · rename_i hz
                  obtain ⟨a', e0, e2, vs, e3, e4⟩ := loc_at s2 (⟨a, rfl, le2.get ea⟩ : VR T w2 (.loc j) (.ref a)) q
                  cases e0
                  refine ⟨a, vs, u, rfl, rfl, e3, by rw [← e4.length]; exact hz, ?_⟩
                  have s3 := s2.write (c := .lst l) (d := .lst (l ++ [x])) (u := .lst (vs ++ [u])) q e2 trivial ⟨_, upd_same, e4.append (.cons r2 .nil)⟩
                  exact p2 w2 σ _ (Le.refl _) s3 (en.mono (le.trans le2))
                · exact p2.elim
              | _ => exact p2.elim
          | _ => exact p1.elim
      | _ => exact p1.elim⟩
end
end Fz

/-! ### enumerate(tuple) -/
namespace Fz
open PySem PySem.Spec PyProof.Rows L2
open Sem (wp)
open AutoSeq1 (wpAny_loadPart')
theorem meets_enumT (l : Addr) (items : Array Value) :
    Meets (Builtin.«enumerate.__new__» ⟨[.type "enumerate", .ref l], []⟩) (fun _ R s => s.heap.IsTuple l items ∧
      R (.ok (.ret (.ref (s.heap.push { cls := .type "tuple_iterator", data := .fields #[.ref l, .int 0 0] }).objs.size)))
        { s with heap := (s.heap.push { cls := .type "tuple_iterator", data := .fields #[.ref l, .int 0 0] }).push { cls := .type "enumerate", data := .fields #[.none, .bool false, .ref s.heap.objs.size, rawInt 0, .none, .none] } }) :=
  .of_wp fun prog w A R s h => by
    obtain ⟨hp, g, d, tk, os⟩ := s
    obtain ⟨hl, h⟩ := h
    have hsub := sub_enumerate
    have q1 : ∀ {A' : Around} {E : Value → Shared → Prop} {Q : Value → Shared → Prop}, Q (.ref hp.objs.size) ⟨hp.push { cls := .type "tuple_iterator", data := .fields #[.ref l, .int 0 0] }, g, d, tk, os⟩ → wpAny (model prog w) A' (pyIter (.ref l)) Q E ⟨hp, g, d, tk, os⟩ :=
      fun q => wpAny_pyIter_tuple hl q
    wp_walk using q1
    refine wpAny_stack_any fun st => wpAny_pure ?_
    split
    · rename_i c _ _ _ _ _
      cases (c == Value.type "enumerate")
      · wp_walk using q1
        exact ⟨_, rfl, h⟩
      · wp_walk using q1
        exact ⟨_, rfl, h⟩
    · wp_walk using q1
      exact ⟨_, rfl, h⟩
theorem call_enumT {prog : Program} {w : World} {A : Around} {E : Value → Shared → Prop} {s : Shared} {l : Addr} {items : Array Value} {Q : Value → Shared → Prop} (hL : s.heap.IsTuple l items)
    (h : ∀ h', IsEnum h' (s.heap.objs.size + 1) s.heap.objs.size 0 .none → h'.IsTupleIter s.heap.objs.size l 0 → h'.objs.size = s.heap.objs.size + 2 →
      (∀ b o, s.heap.get? b = some o → h'.get? b = some o) → Q (.ref (s.heap.objs.size + 1)) { s with heap := h' }) :
    wpAny (model prog w) A (call (.type "enumerate") [.ref l]) Q E s := by
  refine callType_new F.called_enumerate (by decide) (F.typeCall_enumerate_1 _) (F.newCall_enumerate_1 _) (fun obj => F.args_object_init_2 obj _) F.entry_enumerate_new
    (meets_enumT l items) ⟨hL, ?_⟩
  have hz : (s.heap.push { cls := .type "tuple_iterator", data := .fields #[.ref l, .int 0 0] }).objs.size = s.heap.objs.size + 1 := Heap.size_push ..
  show _ ∧ _
  rw [hz]
  have he : IsEnum ((s.heap.push { cls := .type "tuple_iterator", data := .fields #[.ref l, .int 0 0] }).push
      { cls := .type "enumerate", data := .fields #[.none, .bool false, .ref s.heap.objs.size, rawInt 0, .none, .none] }) (s.heap.objs.size + 1) s.heap.objs.size 0 .none := by
    have := Heap.get?_push_size (s.heap.push { cls := .type "tuple_iterator", data := .fields #[.ref l, .int 0 0] })
      (o := { cls := .type "enumerate", data := .fields #[.none, .bool false, .ref s.heap.objs.size, rawInt 0, .none, .none] }) rfl
    rw [hz] at this; exact this
  refine ⟨⟨_, he, rfl⟩, h _ he ⟨_, Heap.get?_push_of_some _ (Heap.get?_push_size _ rfl), rfl, rfl⟩ (by rw [Heap.size_push, hz]) fun b o x => Heap.get?_push_of_some _ (Heap.get?_push_of_some _ x)⟩
theorem enumT_end {prog : Program} {w : World} {A : Around} {E : Value → Shared → Prop} {s : Shared} {e it l : Addr} {i : Nat} {items : Array Value} {old : Value} {Q : Option Value → Shared → Prop} (hh : A.handled = none)
    (he : IsEnum s.heap e it i old) (hit : s.heap.IsTupleIter it l i) (hl : s.heap.IsTuple l items) (hx : items[i]? = none)
    (hQ : ∀ h', Heap.ExtBut it s.heap h' → Q none { s with heap := h' }) : wpAny (model prog w) A (pyNext (.ref e)) Q E s := by
  have hT : s.TypeIs (.ref e) "enumerate" := ⟨_, he, rfl⟩
  unfold pyNext
  refine wpAny_bind (wpAny_attempt (wpAny_callSpecial?_slot (name := Str.ofString "__next__") hT F.slot_enumerate_next
    (wpAny_call_entry F.slot_enumerate_next hT F.entry_enumerate_next ?_ (F.args_enumerate_next_1 _))))
  show wpAny _ _ (field (.ref e) 2 >>= _) _ _ _
  refine wpAny_bind (wpAny_field he rfl (x := .ref it) rfl ?_)
  refine wpAny_bind (wpAny_nextOf_tuple_end hh hit hl hx fun h' x he' hx' => ?_)
  obtain ⟨o, ho, hc⟩ := hx'
  refine wpAny_bind (wpAny_isInstance (T := "StopIteration") (b := true) ⟨o, ho, hc⟩ isSubtype_stop ?_)
  exact wpAny_pure (hQ _ he')
def IteT (K : PySem.W.Frag) (a : Addr) : It :=
  ⟨fun i H => ∃ (xs : List V) (x : V), SqT K H a xs ∧ xs[i]? = some x, fun i H v H' => ∃ T x, v = .ref T ∧ H T = none ∧ H' = upd H T (.tup [.int (i : Nat), x]) ∧ ∀ xs, SqT K H a xs → xs[i]? = some x, fun i H => ∃ xs : List V, SqT K H a xs ∧ xs.length ≤ i⟩
theorem turn_enumT {P : Program} {w : World} {K : PySem.W.Frag} {elts : List Expr} {kk : Nat} {tpos : Pos} (a e it : Addr) (hae : a ≠ e) (hai : a ≠ it) :
    Turn P w K (.Tuple elts kk tpos) (IteT K a) [e, it] e (fun i h => (∃ old, IsEnum h e it ((i : Nat) : Int) old) ∧ h.IsTupleIter it a i ∧ e ≠ it) where
  mem := by simp
  obj := fun i h st b hb => by
    obtain ⟨⟨old, he⟩, ⟨o, ho, hc, hd⟩, _⟩ := st
    have e' : b = e ∨ b = it := by simpa using hb
    rcases e' with z | z
    · rw [z]; exact ⟨_, he, fun v q => nomatch q⟩
    · rw [z]; exact ⟨o, ho, fun v q => by rw [hd] at q; cases q⟩
  keep := fun i h h' st k => let ⟨⟨old, he⟩, hi, hne⟩ := st; ⟨⟨old, k e (by simp) _ he⟩, hi.at fun o q => k it (by simp) o q, hne⟩
  item := by
    intro X hP hw hK hc i pins s σ H E I hf st hg
    subst hP hw hK
    obtain ⟨⟨old, he⟩, hit, hne⟩ := st
    obtain ⟨xs, x, hq, hx⟩ := hg
    obtain ⟨its, rv, p, hz⟩ := I.tuple hq
    obtain ⟨u, hu, ru⟩ := rv.get hx
    have hel : e < s.heap.objs.size := Heap.lt_size he
    have hil : it < s.heap.objs.size := by obtain ⟨_, q, _⟩ := hit; exact Heap.lt_size q
    have ht : s.heap.IsTuple a its.toArray := by
      obtain ⟨o, h1, h2, k, h3⟩ := p
      exact ⟨o, h1, h2, k, h3⟩
    have hlt : i < its.toArray.size := by
      have := (List.getElem?_eq_some_iff.mp hu).1
      simpa using this
    refine wpAny_pyNext_enum_itemC (Draws.tuple (A := X.A.in1) (I.ok.hd hc) it a hai its.toArray) he ⟨hit, ht⟩ hlt hne (by simp; exact ⟨hne, Ne.symm hae⟩) fun x' h' tk hx' ho st' hT hsz hk => ?_
    have hxx : x' = u := by
      have : its.toArray[i]? = some u := by simpa using hu
      rw [this] at hx'
      exact (Option.some.inj hx').symm
    subst hxx
    refine ⟨_, rfl, wpAny_letOwnedTupleGo_enum (s := { s with heap := h', toks := tk + 1 }) ho fun h'' he' sb => ?_⟩
    have hT2 : h''.get? s.heap.objs.size = some { cls := .type "tuple", data := .seq #[.int i tk, x'] } := (sb.2 _ (Nat.ne_of_gt hel)).trans hT
    have new : ObjOk X.prog X.w (upd H s.heap.objs.size (.tup [.int (i : Nat), x])) h'' s.heap.objs.size (.tup [.int (i : Nat), x]) :=
      ⟨by show 2 ≤ sizeLine; decide, [.int i tk, x'], .cons ⟨_, rfl⟩ (.cons ru .nil), ⟨_, hT2, rfl, _, rfl⟩⟩
    have I1 : Inv X pins σ (upd H s.heap.objs.size (.tup [.int (i : Nat), x])) { s with heap := h'', toks := tk + 1 } :=
      I.turnedNew (ch := [e, it]) (fun b ob hb q => (sb.2 b (fun z => hb (by simp [z]))).trans (hk b ob (fun z => hb (by simp [z])) (fun z => hb (by simp [z])) q)) hf (Nat.le_refl _) new
    refine ⟨.ref s.heap.objs.size, _, I1, rfl, ⟨_, x, rfl, I.hok.fresh (Nat.le_refl _), rfl, fun ys hy => by rw [I.tuple_inj hy hq]; exact hx⟩, ⟨⟨x', ?_⟩, st'.1.at fun o q => (sb.2 it (Ne.symm hne)).trans q, hne⟩, fun b hb => ?_⟩
    · have e1 : ((i + 1 : Nat) : Int) = (i : Int) + 1 := by omega
      rw [e1]; exact he'
    · have hb' : b < s.heap.objs.size := by
        have e' : b = e ∨ b = it := by simpa using hb
        rcases e' with z | z
        · rw [z]; exact hel
        · rw [z]; exact hil
      rw [upd_ne (Nat.ne_of_lt hb')]
      exact (hf b hb).1
  done := by
    intro X hP hw hK hc i pins s σ H E I hf st hg
    subst hP hw hK
    obtain ⟨⟨old, he⟩, hit, hne⟩ := st
    obtain ⟨xs, hq, hx⟩ := hg
    obtain ⟨its, rv, p, hz⟩ := I.tuple hq
    obtain ⟨f0, f1, f2, f3, f4, f5⟩ := hf it (by simp)
    have hl := rv.length
    have ht : s.heap.IsTuple a its.toArray := by
      obtain ⟨o, h1, h2, k, h3⟩ := p
      exact ⟨o, h1, h2, k, h3⟩
    exact enumT_end (I.ok.hd hc) he hit ht (by simp; omega) fun h' eb => ⟨rfl, I.turned (t' := s.toks) (fun b o hb q => eb b o hb q) f0 f1 f3 f4 f5⟩
  self := fun A i s Q E st h => let ⟨⟨_, he⟩, _⟩ := st; wpAny_pyIter_enum he h
def iEnumT (K : PySem.W.Frag) (ta : TA) : TI := fun σ H R => ta σ H fun vs H1 => ∃ a xs, vs = [.ref a] ∧ SqT K H1 a xs ∧ R (IteT K a) H1
theorem pi_enumT {X : Cx} {e : Expr} {ta : TA} {p pos tpos : Pos} {elts : List Expr} {kk : Nat} (hg : Gl X "enumerate") (hm : X.mg "enumerate" = none) (ha : PA X [e] ta) (hs : starEach [e] X.env = [(false, eval e X.env)] := by rfl) :
    PI X (.Tuple elts kk tpos) (.Call (.Name "enumerate" p) [e] [] pos) (iEnumT X.K ta) := by
  refine ⟨fun pins s σ H R I h => ?_⟩
  refine Call_ (ld_blt I hg hm boot_enumerate (PyProof.Rows.callWith_type1 (thn (ha.run pos pins s σ H _ I h) fun us s1 ⟨vs, H1, I1, r1, q1⟩ => ?_) hs rfl))
  obtain ⟨a, xs, ex, hq, q⟩ := q1
  subst ex
  cases r1 with
  | cons r rr =>
    cases rr
    cases r
    obtain ⟨its, rv, p', hz⟩ := I1.tuple hq
    have ht : s1.heap.IsTuple a its.toArray := by
      obtain ⟨o, h1, h2, k, h3⟩ := p'
      exact ⟨o, h1, h2, k, h3⟩
    have hal : a < s1.heap.objs.size := by obtain ⟨o, h1, _⟩ := p'; exact Heap.lt_size h1
    refine call_enumT ht fun h' he hit hsz hk => wpAny_pyIter_enum he ?_
    have I2 : Inv X pins σ H1 { s1 with heap := h' } := I1.kept (t' := s1.toks) hk
    refine ⟨s1.heap.objs.size + 1, [s1.heap.objs.size + 1, s1.heap.objs.size], _, _, H1, rfl, I2, turn_enumT a (s1.heap.objs.size + 1) s1.heap.objs.size (Nat.ne_of_lt (Nat.lt_succ_of_lt hal)) (Nat.ne_of_lt hal), ⟨⟨.none, he⟩, hit, Nat.succ_ne_self _⟩, fun b hb => ?_, q⟩
    have e' : b = s1.heap.objs.size + 1 ∨ b = s1.heap.objs.size := by simpa using hb
    have hle : s1.heap.objs.size ≤ b := by
      rcases e' with z | z
      · rw [z]; exact Nat.le_add_right _ _
      · rw [z]; exact Nat.le_refl _
    exact I1.fpOk hle (I1.hok.fresh hle)

/-! ### what a loop goes over -/
/-- at turn i in the heap as it stands: nothing known, the end, an item -/
abbrev Src := Nat → List Cell → Option (Option W)
/-- the source and a number that the turns lie below -/
abbrev MI := EnvW → List Cell → R (Src × Nat)
def SrcOk (T : Tab) (w : Wd) (src : Src) (J : It) : Prop := ∀ (i : Nat) (w' : Wd) (h' : List Cell) (H' : Hp), Le w w' → StR T w' h' H' →
  (src i h' = some none → J.stop i H') ∧ ∀ y, src i h' = some (some y) → J.go i H' ∧ ∀ x H'', J.yld i H' x H'' → ∃ w'', Le w' w'' ∧ StR T w'' h' H'' ∧ VR T w'' y x
def relI (T : Tab) (w : Wd) (s : Src × Nat) (J : It) : Prop := SrcOk T w s.1 J
def tiI (T : Tab) (E : WX) (m : MI) : TI := fun σ H RR => ∃ w ρ h, StR T w h H ∧ EnvR T w ρ σ ∧ Post T (relI T) w (fun J H' => RR J H') (fun c d H' => E c d σ H') (m ρ h)
abbrev II (T : Tab) (X : Cx) (E : WX) (tg iter : Expr) (m : MI) : Prop := PI X tg iter (tiI T E m)
section
variable {T : Tab} {X : Cx} {E : WX} {n : Nat} {tg a b c e iter : Expr} {ma mb m : ME} {pos : Pos}
theorem PI.imp {t t' : TI} (h : PI X tg iter t) (k : ∀ σ H R, t' σ H R → t σ H R) : PI X tg iter t' := ⟨fun pins s σ H R I q => h.run pins s σ H R I (k σ H R q)⟩
theorem PI.or {t t' : TI} (h : PI X tg iter t) (h' : PI X tg iter t') : PI X tg iter (fun σ H R => t σ H R ∨ t' σ H R) := ⟨fun pins s σ H R I q => q.elim (h.run pins s σ H R I) (h'.run pins s σ H R I)⟩
/-- a list, a tuple, a text -/
def srcSeq (x : W) : Src := fun i h => match x with
  | .str s => some ((s.cps[i]?).map fun c => .str ⟨#[c]⟩)
  | _ => match rdS h x with
    | some l => some l[i]?
    | none => none
def seqLen (h : List Cell) (x : W) : Option Nat := match x with
  | .str s => some s.cps.size
  | _ => match rdS h x with
    | some l => some l.length
    | none => none
def mISeq (m : ME) : MI := fun ρ h => (m ρ h).bind fun x h1 => match seqLen h1 x with
  | some k => .ok (srcSeq x, k + 1) h1
  | none => .bad
theorem src_list {w : Wd} {x : W} {a : Addr} (hx : ∀ s, x ≠ .str s) (r : VR T w x (.ref a)) (nt : ∀ l, x ≠ .tup l) : SrcOk T w (srcSeq x) (Itl T.K a) := by
  intro i w' h' H' le s
  have e0 : srcSeq x i h' = (match rdL h' x with | some l => some l[i]? | none => none) := by
    cases x with
    | str s => exact absurd rfl (hx s)
    | tup l => exact absurd rfl (nt l)
    | _ => rfl
  rw [e0]
  cases q : rdL h' x with
  | none => exact ⟨(fun z => by cases z), (fun y z => by cases z)⟩
  | some l =>
    obtain ⟨a', vs, ea, h1, h2⟩ := rdL_at s (r.mono le) q
    cases ea
    refine ⟨fun z => ⟨vs, h1, ?_⟩, fun y z => ?_⟩
    · have z : l[i]? = none := Option.some.inj z
      rw [← h2.length]
      exact List.getElem?_eq_none_iff.mp z
    · have z : l[i]? = some y := Option.some.inj z
      obtain ⟨v, hv, rv⟩ := h2.get z
      refine ⟨⟨vs, v, h1, hv⟩, fun u H'' hy => ?_⟩
      obtain ⟨rfl, hu⟩ := hy
      have := hu vs h1
      rw [hv] at this
      cases this
      exact ⟨w', Le.refl _, s, rv⟩
theorem src_tup {w : Wd} {l : List W} {a : Addr} (r : VR T w (.tup l) (.ref a)) : SrcOk T w (srcSeq (.tup l)) (Itt T.K a) := by
  intro i w' h' H' le s
  obtain ⟨a', vs, ea, h1, h2⟩ := tup_at s (r.mono le)
  cases ea
  refine ⟨fun z => ⟨vs, h1, ?_⟩, fun y z => ?_⟩
  · have z : l[i]? = none := Option.some.inj z
    rw [← h2.length]
    exact List.getElem?_eq_none_iff.mp z
  · have z : l[i]? = some y := Option.some.inj z
    obtain ⟨v, hv, rv⟩ := h2.get z
    refine ⟨⟨vs, v, h1, hv⟩, fun u H'' hy => ?_⟩
    obtain ⟨rfl, hu⟩ := hy
    have := hu vs h1
    rw [hv] at this
    cases this
    exact ⟨w', Le.refl _, s, rv⟩
theorem src_str {w : Wd} {z : Str} : SrcOk T w (srcSeq (.str z)) (Its z) := by
  intro i w' h' H' le s
  show (some ((z.cps[i]?).map fun c => W.str ⟨#[c]⟩) = some none → _) ∧ _
  refine ⟨fun q => ?_, fun y q => ?_⟩
  · have q : (z.cps[i]?).map (fun c => W.str ⟨#[c]⟩) = none := Option.some.inj q
    have : z.cps[i]? = none := by cases e : z.cps[i]? with | none => rfl | some c => rw [e] at q; cases q
    show z.cps.size ≤ i
    exact Array.getElem?_eq_none_iff.mp this
  · have q : (z.cps[i]?).map (fun c => W.str ⟨#[c]⟩) = some y := Option.some.inj q
    cases e : z.cps[i]? with
    | none => rw [e] at q; cases q
    | some c =>
      rw [e] at q
      cases q
      refine ⟨(Array.getElem?_eq_some_iff.mp e).1, fun u H'' hy => ?_⟩
      obtain ⟨rfl, c', hc, rfl⟩ := hy
      rw [e] at hc
      cases hc
      exact ⟨w', Le.refl _, s, rfl⟩
theorem ii_seq {gb : Bool} (G : Gx T X E n gb) (he : IE T X E e m) : II T X E tg e (mISeq m) :=
  PI.imp (PI.or (pi_list he) (PI.or (pi_tup he) (pi_str he))) fun σ H RR ⟨w, ρ, h, s, en, p⟩ => by
    unfold mISeq at p
    cases q : m ρ h with
    | bad => rw [q] at p; exact p.elim
    | exc c vs h1 =>
      rw [q] at p
      exact .inl ⟨w, ρ, h, s, en, by rw [q]; exact p⟩
    | ok x h1 =>
      rw [q] at p
      have p : Post T (relI T) w (fun J H' => RR J H') (fun c d H' => E c d σ H') (match seqLen h1 x with | some k => R.ok (srcSeq x, k + 1) h1 | none => .bad) := p
      have lst : (∀ s, x ≠ .str s) → (∀ l, x ≠ .tup l) → iList X.K (teI T E m) σ H RR := fun n1 n2 => by
        refine ⟨w, ρ, h, s, en, ?_⟩
        rw [q]
        intro w1 H1 v le s1 r1
        have e0 : seqLen h1 x = (match rdL h1 x with | some l => some l.length | none => none) := by
          cases x with
          | str s => exact absurd rfl (n1 s)
          | tup l => exact absurd rfl (n2 l)
          | _ => rfl
        rw [e0] at p
        cases ql : rdL h1 x with
        | none => rw [ql] at p; exact p.elim
        | some l =>
          rw [ql] at p
          obtain ⟨a, vs, rfl, g1, g2⟩ := rdL_at s1 r1 ql
          rw [G.K]
          exact ⟨a, rfl, ⟨vs, g1⟩, p w1 H1 (Itl T.K a) le s1 (src_list n1 r1 n2)⟩
      cases x with
      | str z =>
        refine .inr (.inr ⟨w, ρ, h, s, en, ?_⟩)
        rw [q]
        intro w1 H1 v le s1 r1
        cases r1
        exact ⟨z, rfl, p w1 H1 (Its z) le s1 src_str⟩
      | tup l =>
        refine .inr (.inl ⟨w, ρ, h, s, en, ?_⟩)
        rw [q]
        intro w1 H1 v le s1 r1
        obtain ⟨a, vs, rfl, g1, g2⟩ := tup_at s1 r1
        rw [G.K]
        exact ⟨a, rfl, ⟨vs, g1⟩, p w1 H1 (Itt T.K a) le s1 (src_tup r1)⟩
      | _ => exact .inl (lst (fun _ z => by cases z) (fun _ z => by cases z))
/-- range -/
def srcRng (lo c : Int) (k : Nat) : Src := fun i _ => if i < k then some (some (.int (lo + (i : Nat) * c))) else some none
theorem src_rng {w : Wd} {lo : Int} {k : Nat} : SrcOk T w (srcRng lo 1 k) (Itr lo k) := by
  intro i w' h' H' le s
  unfold srcRng
  by_cases hi : i < k
  · rw [if_pos hi]
    refine ⟨(fun z => by cases z), fun y z => ⟨hi, fun u H'' hy => ?_⟩⟩
    cases z
    obtain ⟨rfl, rfl⟩ := hy
    exact ⟨w', Le.refl _, s, by show V.int _ = V.int _; rw [Int.mul_one]⟩
  · rw [if_neg hi]
    exact ⟨(fun _ => by show k ≤ i; omega), (fun y z => by cases z)⟩
theorem src_rngC {w : Wd} {lo c : Int} {k : Nat} : SrcOk T w (srcRng lo c k) (Itc lo c k) := by
  intro i w' h' H' le s
  unfold srcRng
  by_cases hi : i < k
  · rw [if_pos hi]
    refine ⟨(fun z => by cases z), fun y z => ⟨hi, fun u H'' hy => ?_⟩⟩
    cases z
    obtain ⟨rfl, rfl⟩ := hy
    exact ⟨w', Le.refl _, s, rfl⟩
  · rw [if_neg hi]
    exact ⟨(fun _ => by show k ≤ i; omega), (fun y z => by cases z)⟩
variable {mr : MA}
def inR (i : Int) : Bool := decide (-(2 ^ 62) ≤ i ∧ i < 2 ^ 62)
theorem inR_ok {i : Int} (h : inR i = true) : -(2 ^ 62) ≤ i ∧ i < 2 ^ 62 := of_decide_eq_true h
def mIRng1 (mr : MA) : MI := fun ρ h => (mr ρ h).bind fun xs h1 => match xs with
  | [.int j] => if inR j then .ok (srcRng 0 1 j.toNat, j.toNat + 1) h1 else .bad
  | _ => .bad
def mIRng2 (mr : MA) : MI := fun ρ h => (mr ρ h).bind fun xs h1 => match xs with
  | [.int i, .int j] => if inR i && inR j then .ok (srcRng i 1 (j - i).toNat, (j - i).toNat + 1) h1 else .bad
  | _ => .bad
/-- range(i, j, -1) -/
def mIRngD (mr : MA) : MI := fun ρ h => (mr ρ h).bind fun xs h1 => match xs with
  | [.int i, .int j, .int (-1)] => if inR i && inR j then .ok (srcRng i (-1) (i - j).toNat, (i - j).toNat + 1) h1 else .bad
  | _ => .bad
theorem all3 {α β : Type} {R : α → β → Prop} {x y z : α} {m : List β} (r : All2 R [x, y, z] m) : ∃ x' y' z', m = [x', y', z'] ∧ R x x' ∧ R y y' ∧ R z z' := by
  cases r with
  | cons h t => obtain ⟨a, b, rfl, h1, h2⟩ := all2 t; exact ⟨_, a, b, rfl, h, h1, h2⟩
theorem ii_range1 {p : Pos} (ha : IE T X E a ma) (hm : X.mg "range" = none) (hg : Gl X "range" := by rfl) (hs : starEach [a] X.env = [(false, eval a X.env)] := by rfl) : II T X E tg (.Call (.Name "range" p) [a] [] pos) (mIRng1 (mCons ma mNil)) :=
  PI.imp (pi_range1 hg hm (ia_cons ha ia_nil hs) hs) fun σ H RR ⟨w, ρ, h, s, en, p⟩ => ⟨w, ρ, h, s, en, Post.bind p fun xs h1 w1 H1 vs le s1 r1 p1 => by
    split at p1
    · rename_i j
      split at p1
      · rename_i hj
        obtain ⟨v, rfl, e⟩ := all1 r1
        cases e
        have := inR_ok hj
        exact ⟨j, rfl, this.1, this.2, p1 w1 H1 _ (Le.refl _) s1 src_rng⟩
      · exact p1.elim
    · exact p1.elim⟩
theorem ii_range2 {p : Pos} (ha : IE T X E a ma) (hb : IE T X E b mb) (hm : X.mg "range" = none) (hg : Gl X "range" := by rfl) (hs : starEach [a, b] X.env = [(false, eval a X.env), (false, eval b X.env)] := by rfl) (hs2 : starEach [b] X.env = [(false, eval b X.env)] := by rfl) :
    II T X E tg (.Call (.Name "range" p) [a, b] [] pos) (mIRng2 (mCons ma (mCons mb mNil))) :=
  PI.imp (pi_range2 hg hm (ia_cons ha (ia_cons hb ia_nil hs2) (hs.trans (by rw [hs2]))) hs hs2) fun σ H RR ⟨w, ρ, h, s, en, p⟩ => ⟨w, ρ, h, s, en, Post.bind p fun xs h1 w1 H1 vs le s1 r1 p1 => by
    split at p1
    · rename_i i j
      split at p1
      · rename_i hj
        rw [Bool.and_eq_true] at hj
        obtain ⟨v, u, rfl, e, e2⟩ := all2 r1
        cases e
        cases e2
        have h1 := inR_ok hj.1
        have h2 := inR_ok hj.2
        exact ⟨i, j, rfl, ⟨h1.1, h1.2, h2.1, h2.2⟩, p1 w1 H1 _ (Le.refl _) s1 src_rng⟩
      · exact p1.elim
    · exact p1.elim⟩
variable {mc : ME}
theorem ii_rangeD {p : Pos} (ha : IE T X E a ma) (hb : IE T X E b mb) (hc : IE T X E c mc) (hm : X.mg "range" = none) (hg : Gl X "range" := by rfl) (hs : starEach [a, b, c] X.env = (false, eval a X.env) :: starEach [b, c] X.env := by rfl)
    (hs2 : starEach [b, c] X.env = (false, eval b X.env) :: starEach [c] X.env := by rfl) (hs3 : starEach [c] X.env = (false, eval c X.env) :: starEach [] X.env := by rfl) (hpl : (backTo pos (starEach [b, c] X.env)).any (·.1) = false := by rfl) :
    II T X E tg (.Call (.Name "range" p) [a, b, c] [] pos) (mIRngD (mCons ma (mCons mb (mCons mc mNil)))) :=
  PI.imp (pi_range3 hg hm (ia_cons ha (ia_cons hb (ia_cons hc ia_nil hs3) hs2) hs) hs hpl) fun σ H RR ⟨w, ρ, h, s, en, p⟩ => ⟨w, ρ, h, s, en, Post.bind p fun xs h1 w1 H1 vs le s1 r1 p1 => by
    split at p1
    · rename_i i j
      split at p1
      · rename_i hj
        rw [Bool.and_eq_true] at hj
        obtain ⟨v, u, t, rfl, e, e2, e3⟩ := all3 r1
        cases e
        cases e2
        cases e3
        have h1 := inR_ok hj.1
        have h2 := inR_ok hj.2
        exact ⟨i, j, -1, _, rfl, RgC.neg h1.1 h1.2 h2.1 h2.2, p1 w1 H1 _ (Le.refl _) s1 src_rngC⟩
      · exact p1.elim
    · exact p1.elim⟩
/-- enumerate of a list or a tuple -/
def srcEnum (x : W) : Src := fun i h => match rdS h x with
  | some l => some ((l[i]?).map fun y => .tup [.int (i : Nat), y])
  | none => none
def mIEnum (mr : MA) : MI := fun ρ h => (mr ρ h).bind fun xs h1 => match xs with
  | [x] => (match rdS h1 x with
    | some l => .ok (srcEnum x, l.length + 1) h1
    | none => .bad)
  | _ => .bad
theorem new_pair {w : Wd} {h : List Cell} {H : Hp} {x y : W} {v u : V} {t : Addr} (s : StR T w h H) (r1 : VR T w x v) (r2 : VR T w y u) (ht : H t = none) : ∃ w'', Le w w'' ∧ StR T w'' h (upd H t (.tup [v, u])) ∧ VR T w'' (.tup [x, y]) (.ref t) := by
  obtain ⟨s', le⟩ := s.frozen (o := .tup [x, y]) (u := .tup [v, u]) ht ⟨_, upd_same, .cons r1 (.cons r2 .nil)⟩
  exact ⟨_, le, s', .inl ⟨t, rfl, if_pos rfl⟩⟩
theorem src_enumL {w : Wd} {x : W} {a : Addr} (r : VR T w x (.ref a)) (nt : ∀ l, x ≠ .tup l) : SrcOk T w (srcEnum x) (Ite T.K a) := by
  intro i w' h' H' le s
  have e0 : srcEnum x i h' = (match rdL h' x with | some l => some ((l[i]?).map fun y => .tup [.int (i : Nat), y]) | none => none) := by
    cases x with
    | tup l => exact absurd rfl (nt l)
    | _ => rfl
  rw [e0]
  cases q : rdL h' x with
  | none => exact ⟨(fun z => by cases z), (fun y z => by cases z)⟩
  | some l =>
    obtain ⟨a', vs, ea, h1, h2⟩ := rdL_at s (r.mono le) q
    cases ea
    dsimp only
    cases e : l[i]? with
    | none =>
      refine ⟨fun z => ⟨vs, h1, ?_⟩, fun y z => by cases z⟩
      rw [← h2.length]
      exact List.getElem?_eq_none_iff.mp e
    | some y =>
      refine ⟨(fun z => by cases z), fun z q => ?_⟩
      cases q
      obtain ⟨v, hv, rv⟩ := h2.get e
      refine ⟨⟨vs, v, h1, hv⟩, fun u H'' hy => ?_⟩
      obtain ⟨t, v', rfl, ht, rfl, hu⟩ := hy
      have := hu vs h1
      rw [hv] at this
      cases this
      exact new_pair s rfl rv ht
theorem src_enumT {w : Wd} {l : List W} {a : Addr} (r : VR T w (.tup l) (.ref a)) : SrcOk T w (srcEnum (.tup l)) (IteT T.K a) := by
  intro i w' h' H' le s
  obtain ⟨a', vs, ea, h1, h2⟩ := tup_at s (r.mono le)
  cases ea
  show (some ((l[i]?).map fun y => W.tup [.int (i : Nat), y]) = some none → _) ∧ ∀ y, some ((l[i]?).map fun y => W.tup [.int (i : Nat), y]) = some (some y) → _
  cases e : l[i]? with
  | none =>
    refine ⟨fun z => ⟨vs, h1, ?_⟩, fun y z => by cases z⟩
    rw [← h2.length]
    exact List.getElem?_eq_none_iff.mp e
  | some y =>
    refine ⟨fun z => (by cases z), fun z q => ?_⟩
    cases q
    obtain ⟨v, hv, rv⟩ := h2.get e
    refine ⟨⟨vs, v, h1, hv⟩, fun u H'' hy => ?_⟩
    obtain ⟨t, v', rfl, ht, rfl, hu⟩ := hy
    have := hu vs h1
    rw [hv] at this
    cases this
    exact new_pair s rfl rv ht
theorem ii_enum {gb : Bool} (G : Gx T X E n gb) {p tpos : Pos} {elts : List Expr} {kk : Nat} (ha : IE T X E a ma) (hm : X.mg "enumerate" = none) (hg : Gl X "enumerate" := by rfl) (hs : starEach [a] X.env = [(false, eval a X.env)] := by rfl) :
    II T X E (.Tuple elts kk tpos) (.Call (.Name "enumerate" p) [a] [] pos) (mIEnum (mCons ma mNil)) :=
  PI.imp (PI.or (pi_enum hg hm (ia_cons ha ia_nil hs) hs) (pi_enumT hg hm (ia_cons ha ia_nil hs) hs)) fun σ H RR ⟨w, ρ, h, s, en, p⟩ => by
    unfold mIEnum at p
    cases q : mCons ma mNil ρ h with
    | bad => rw [q] at p; exact p.elim
    | exc c vs h1 =>
      rw [q] at p
      exact .inl ⟨w, ρ, h, s, en, by rw [q]; exact p⟩
    | ok xs h1 =>
      rw [q] at p
      match xs, q, p with
      | [], q, p => exact p.elim
      | _ :: _ :: _, q, p => exact p.elim
      | [x], q, p =>
        have p : Post T (relI T) w (fun J H' => RR J H') (fun c d H' => E c d σ H') (match rdS h1 x with
          | some l => R.ok (srcEnum x, l.length + 1) h1
          | none => .bad) := p
        cases ql : rdS h1 x with
        | none => rw [ql] at p; exact p.elim
        | some l =>
          rw [ql] at p
          have lst : (∀ l, x ≠ .tup l) → iEnum X.K (taI T E (mCons ma mNil)) σ H RR := fun n2 => by
            refine ⟨w, ρ, h, s, en, ?_⟩
            rw [q]
            intro w1 H1 v le s1 r1
            obtain ⟨v, rfl, r⟩ := all1 r1
            have ql' : rdL h1 x = some l := by
              cases x with
              | tup l => exact absurd rfl (n2 l)
              | _ => exact ql
            obtain ⟨a, vs, rfl, g1, g2⟩ := rdL_at s1 r ql'
            rw [G.K]
            exact ⟨a, vs, rfl, g1, p w1 H1 (Ite T.K a) le s1 (src_enumL r n2)⟩
          cases x with
          | tup l' =>
            refine .inr ⟨w, ρ, h, s, en, ?_⟩
            rw [q]
            intro w1 H1 v le s1 r1
            obtain ⟨v, rfl, r⟩ := all1 r1
            obtain ⟨a, vs, rfl, g1, g2⟩ := tup_at s1 r
            rw [G.K]
            exact ⟨a, vs, rfl, g1, p w1 H1 (IteT T.K a) le s1 (src_enumT r)⟩
          | _ => exact .inl (lst (fun _ z => by cases z))
/-! ### for -/
def forW (src : Src) (g : MG) (body : MS) : Nat → Nat → EnvW → List Cell → RS
  | 0, _, _, _ => .bad
  | k + 1, i, ρ, h => match src i h with
    | none => .bad
    | some none => .nx ρ h
    | some (some x) => (match gOnly (g x ρ h) with
      | .nx ρ1 h1 => (match body ρ1 h1 with
        | .nx ρ2 h2 => forW src g body k (i + 1) ρ2 h2
        | .ct ρ2 h2 => forW src g body k (i + 1) ρ2 h2
        | .bk ρ2 h2 => .nx ρ2 h2
        | r => r)
      | r => r)
def mFor (mi : MI) (g : MG) (body : MS) : MS := fun ρ h => (mi ρ h).toS ρ fun s h1 => forW s.1 g body s.2 0 ρ h1
theorem for_of {w : Wd} {D : Ends} {σ : L2.St} {H : Hp} {J : It} {src : Src} {g : MG} {body : MS} {ρ : EnvW} {h : List Cell} {k : Nat} (ok : SrcOk T w src J) (s : StR T w h H) (en : EnvR T w ρ σ) (p : PostS T w D E (forW src g body k 0 ρ h)) :
    ∃ W : Nat → Nat → L2.St → Hp → Prop, (∃ m, W 0 m σ H) ∧ ∀ i m σ H, W i m σ H → (J.stop i H ∧ D.nx σ H) ∨ (J.go i H ∧ ∃ N : L2.St → Hp → Prop, (∀ σ' H', N σ' H' → ∃ m', m' < m ∧ W (i + 1) m' σ' H') ∧
      ∀ x H', J.yld i H x H' → tgI T E g x σ H' fun σ2 H2 => tsI T E body { D with nx := N, ct := N, bk := D.nx } σ2 H2) := by
  refine ⟨fun i m σ H => ∃ w' ρ h, Le w w' ∧ StR T w' h H ∧ EnvR T w' ρ σ ∧ PostS T w' D E (forW src g body m i ρ h), ⟨k, w, ρ, h, Le.refl w, s, en, p⟩, ?_⟩
  rintro i m σ H ⟨w1, ρ, h, le, s, en, p⟩
  cases m with
  | zero => exact p.elim
  | succ m =>
    unfold forW at p
    obtain ⟨o1, o2⟩ := ok i w1 h H le s
    cases e : src i h with
    | none => rw [e] at p; exact p.elim
    | some o =>
      rw [e] at p o1 o2
      cases o with
      | none => exact .inl ⟨o1 rfl, p w1 σ H (Le.refl _) s en⟩
      | some y =>
        obtain ⟨g1, g2⟩ := o2 y rfl
        dsimp only at p
        refine .inr ⟨g1, fun σ' H' => ∃ w' ρ' h', Le w w' ∧ StR T w' h' H' ∧ EnvR T w' ρ' σ' ∧ PostS T w' D E (forW src g body m (i + 1) ρ' h'), fun σ' H' q => ⟨m, Nat.lt_succ_self _, q⟩, fun x H' hy => ?_⟩
        obtain ⟨w2, le2, s2, r2⟩ := g2 x H' hy
        refine ⟨w2, ρ, h, y, s2, en.mono le2, r2, ?_⟩
        have p := PostS.mono le2 p
        have le3 := le.trans le2
        cases eg : g y ρ h with
        | nx ρ1 h1 =>
          rw [eg] at p
          intro w3 σ3 H3 l3 s3 en3
          refine ⟨w3, ρ1, h1, s3, en3, ?_⟩
          have p : PostS T w2 D E (match body ρ1 h1 with
            | .nx ρ2 h2 => forW src g body m (i + 1) ρ2 h2
            | .ct ρ2 h2 => forW src g body m (i + 1) ρ2 h2
            | .bk ρ2 h2 => .nx ρ2 h2
            | r => r) := p
          cases eb : body ρ1 h1 with
          | nx ρ2 h2 =>
            rw [eb] at p
            exact fun w4 σ4 H4 l4 s4 en4 => ⟨w4, ρ2, h2, le3.trans (l3.trans l4), s4, en4, PostS.mono (l3.trans l4) p⟩
          | ct ρ2 h2 =>
            rw [eb] at p
            exact fun w4 σ4 H4 l4 s4 en4 => ⟨w4, ρ2, h2, le3.trans (l3.trans l4), s4, en4, PostS.mono (l3.trans l4) p⟩
          | bk ρ2 h2 =>
            rw [eb] at p
            exact PostS.mono l3 (show PostS T w2 { D with nx := D.nx, bk := D.nx } E (.nx ρ2 h2) from p)
          | rt x h2 =>
            rw [eb] at p
            exact fun w4 H4 v4 l4 s4 r4 => p w4 H4 v4 (l3.trans l4) s4 r4
          | exc c vs ρ2 h2 =>
            rw [eb] at p
            exact fun w4 σ4 H4 d l4 s4 en4 e4 => p w4 σ4 H4 d (l3.trans l4) s4 en4 e4
          | bad => rw [eb] at p; exact p
        | exc c vs ρ1 h1 =>
          rw [eg] at p
          exact p
        | rt x h1 => rw [eg] at p; exact p.elim
        | bk ρ1 h1 => rw [eg] at p; exact p.elim
        | ct ρ1 h1 => rw [eg] at p; exact p.elim
        | bad => rw [eg] at p; exact p.elim
variable {body : List Stmt} {mi : MI} {g : MG} {mb' : MS}
theorem is_for (G : Gd T X E n) (hi : II T X E tg iter mi) (hg : IG T X E tg g) (hb : ISs T X E body mb') (hs : ∀ x, foldedSetIterable iter X.env x = pure x := by intro _; rfl) : IS T X E (.For tg iter body [] pos) (mFor mi g mb') :=
  PS.imp (ps_for G.po G.calm hi hg hb hs) fun D σ H ⟨w, ρ, h, s, en, p⟩ => ⟨w, ρ, h, s, en, PostS.of en p fun src h1 w1 H1 J le s1 r1 p1 => for_of r1 s1 (en.mono le) p1⟩
/-! ### while -/
def whileW (c : MT) (body : MS) : Nat → EnvW → List Cell → RS
  | 0, _, _ => .bad
  | k + 1, ρ, h => (c ρ h).toS ρ fun b h1 => if b = true then (match body ρ h1 with
    | .nx ρ2 h2 => whileW c body k ρ2 h2
    | .ct ρ2 h2 => whileW c body k ρ2 h2
    | .bk ρ2 h2 => .nx ρ2 h2
    | r => r) else .nx ρ h1
theorem is_while (k : Nat) {c : Expr} {mc : MT} {gb : Bool} (G : Gx T X E n gb) (hc : IT T X E c mc) (hb : ISs T X E body mb') : IS T X E (.While c body [] pos) (whileW mc mb' k) :=
  PS.imp (ps_while G.po hc hb) fun D σ H ⟨w, ρ, h, s, en, p⟩ => by
    refine ⟨fun m σ H => ∃ w ρ h, StR T w h H ∧ EnvR T w ρ σ ∧ PostS T w D E (whileW mc mb' m ρ h), ⟨k, w, ρ, h, s, en, p⟩, ?_⟩
    rintro m σ H ⟨w, ρ, h, s, en, p⟩
    cases m with
    | zero => exact p.elim
    | succ m =>
      unfold whileW at p
      refine ⟨w, ρ, h, s, en, PostS.of en p fun b h1 w1 H1 b' le s1 r1 p1 => ?_⟩
      cases r1
      cases b with
      | false => exact p1 w1 σ H1 (Le.refl _) s1 (en.mono le)
      | true =>
        refine ⟨fun σ' H' => ∃ w' ρ' h', StR T w' h' H' ∧ EnvR T w' ρ' σ' ∧ PostS T w' D E (whileW mc mb' m ρ' h'), fun σ' H' q => ⟨m, Nat.lt_succ_self _, q⟩, w1, ρ, h1, s1, en.mono le, ?_⟩
        have p1 : PostS T w1 D E (match mb' ρ h1 with
          | .nx ρ2 h2 => whileW mc mb' m ρ2 h2
          | .ct ρ2 h2 => whileW mc mb' m ρ2 h2
          | .bk ρ2 h2 => .nx ρ2 h2
          | r => r) := p1
        cases eb : mb' ρ h1 with
        | nx ρ2 h2 =>
          rw [eb] at p1
          exact fun w4 σ4 H4 l4 s4 en4 => ⟨w4, ρ2, h2, s4, en4, PostS.mono l4 p1⟩
        | ct ρ2 h2 =>
          rw [eb] at p1
          exact fun w4 σ4 H4 l4 s4 en4 => ⟨w4, ρ2, h2, s4, en4, PostS.mono l4 p1⟩
        | bk ρ2 h2 => rw [eb] at p1; exact p1
        | rt x h2 => rw [eb] at p1; exact p1
        | exc c vs ρ2 h2 => rw [eb] at p1; exact p1
        | bad => rw [eb] at p1; exact p1
end
end Fz

namespace Fz
open PySem PySem.Spec PyProof.Rows L2

/-! ### values that name only cells below k -/
mutual
def cloW (k : Nat) : W → Bool
  | .tup l => cloL k l
  | .lst l => cloL k l
  | .scr l => cloL k l
  | .ins _ vs => cloL k vs
  | .dk _ vs => cloL k vs
  | .dt _ vs => cloL k vs
  | .exn _ vs => cloL k vs
  | .loc n => decide (n < k)
  | .non => true
  | .bl _ => true
  | .int _ => true
  | .str _ => true
  | .cls _ => true
  | .ty _ => true
def cloL (k : Nat) : List W → Bool
  | [] => true
  | x :: r => cloW k x && cloL k r
end
def cloKs {κ : Type} (k : Nat) (l : List (κ × W)) : Bool := cloL k (l.map (·.2))
def cloC (k : Nat) : Cell → Bool
  | .lst l => cloL k l
  | .dk l => cloKs k l
  | .dt l => cloKs k l
  | .ins _ vs => cloL k vs
  | .dead => true
def cloF (k : Nat) : FO → Bool
  | .lst l => cloL k l
  | .tup l => cloL k l
  | .scr l => cloL k l
  | .ins _ vs => cloL k vs
  | .dk _ vs => cloL k vs
  | .dt _ vs => cloL k vs
  | .exn _ vs => cloL k vs
section
variable {T : Tab} {w : Wd} {h : List Cell} {H : Hp}
mutual
theorem KV.clo (k : Nat) : ∀ {x : W} {v : V}, KV T x v → cloW k x = true
  | _, _, .non => rfl
  | _, _, .bl => rfl
  | _, _, .int => rfl
  | _, _, .str => rfl
  | _, _, .cls => rfl
  | _, _, .ty => rfl
  | _, _, .tup _ a b => KVs.clo k b
  | _, _, .scr a b => KVs.clo k b
theorem KVs.clo (k : Nat) : ∀ {x : List W} {v : List V}, KVs T x v → cloL k x = true
  | _, _, .nil => rfl
  | _, _, .cons a b => by
    show (_ && _) = true
    rw [KV.clo k a, KVs.clo k b]
    rfl
end
mutual
theorem StR.cloW_ok (s : StR T w h H) : ∀ (x : W) {v : V}, VR T w x v → cloW w.cl.length x = true
  | .tup l, v, r => by
    obtain ⟨a, vs, rfl, h1, h2⟩ := tup_at s r
    exact StR.cloL_ok s l h2
  | .lst l, v, r => by
    obtain ⟨a, vs, rfl, h1, h2⟩ := lst_at s r
    exact StR.cloL_ok s l h2
  | .scr l, v, r => by
    obtain ⟨a, vs, rfl, h1, h2⟩ := scr_at s r
    exact StR.cloL_ok s l h2
  | .ins c vs, v, r => by
    obtain ⟨a, rfl, q⟩ := r
    obtain ⟨dx, us, h1, h2, h3⟩ := s.fz a _ q
    exact StR.cloL_ok s vs h2
  | .dk ks vs, v, r => by
    obtain ⟨a, rfl, q⟩ := r
    obtain ⟨us, h1, h2, h3⟩ := s.fz a _ q
    exact StR.cloL_ok s vs h2
  | .dt ks vs, v, r => by
    obtain ⟨a, rfl, q⟩ := r
    obtain ⟨us, h1, h2, h3⟩ := s.fz a _ q
    exact StR.cloL_ok s vs h2
  | .exn c vs, v, r => by
    obtain ⟨a, rfl, q⟩ := r
    obtain ⟨d, us, h1, h2, h3⟩ := s.fz a _ q
    exact StR.cloL_ok s vs h2
  | .loc n, v, r => by
    obtain ⟨a, rfl, q⟩ := r
    exact decide_eq_true (List.getElem?_eq_some_iff.mp q).1
  | .non, _, _ => rfl
  | .bl _, _, _ => rfl
  | .int _, _, _ => rfl
  | .str _, _, _ => rfl
  | .cls _, _, _ => rfl
  | .ty _, _, _ => rfl
theorem StR.cloL_ok (s : StR T w h H) : ∀ (l : List W) {vs : List V}, VRs T w l vs → cloL w.cl.length l = true
  | [], _, _ => rfl
  | x :: l, _, .cons a b => by
    show (_ && _) = true
    rw [StR.cloW_ok s x a, StR.cloL_ok s l b]
    rfl
end
theorem StR.cloF_ok (s : StR T w h H) {a : Addr} : ∀ {o : FO}, w.fz a = some o → cloF w.cl.length o = true
  | .lst l, e => let ⟨_, _, r⟩ := s.fz a _ e; s.cloL_ok l r
  | .tup l, e => let ⟨_, _, r⟩ := s.fz a _ e; s.cloL_ok l r
  | .scr l, e => let ⟨_, _, r⟩ := s.fz a _ e; s.cloL_ok l r
  | .ins _ vs, e => let ⟨_, _, _, r, _⟩ := s.fz a _ e; s.cloL_ok vs r
  | .dk _ vs, e => let ⟨_, _, r, _⟩ := s.fz a _ e; s.cloL_ok vs r
  | .dt _ vs, e => let ⟨_, _, r, _⟩ := s.fz a _ e; s.cloL_ok vs r
  | .exn _ vs, e => let ⟨_, _, _, r, _⟩ := s.fz a _ e; s.cloL_ok vs r
/-- the world with the first k cells alone -/
def Wd.trim (w : Wd) (k : Nat) : Wd := ⟨w.cl.take k, fun a => match w.fz a with
  | some o => if cloF k o then some o else none
  | none => none⟩
theorem trim_fz {k : Nat} {a : Addr} {o : FO} (e : w.fz a = some o) (c : cloF k o = true) : (w.trim k).fz a = some o := by
  show (match w.fz a with | some o => if cloF k o then some o else none | none => none) = some o
  rw [e]
  exact if_pos c
theorem of_trim_fz {k : Nat} {a : Addr} {o : FO} (e : (w.trim k).fz a = some o) : w.fz a = some o ∧ cloF k o = true := by
  have e : (match w.fz a with | some o => if cloF k o then some o else none | none => none) = some o := e
  cases q : w.fz a with
  | none => rw [q] at e; cases e
  | some u =>
    rw [q] at e
    dsimp only at e
    split at e
    · rename_i c
      cases e
      exact ⟨rfl, c⟩
    · cases e
theorem VR.trim {k : Nat} : ∀ {x : W} {v : V}, cloW k x = true → VR T w x v → VR T (w.trim k) x v
  | .tup l, v, c, r => r.imp (fun ⟨a, q, e⟩ => ⟨a, q, trim_fz e c⟩) id
  | .lst l, v, c, ⟨a, q, e⟩ => ⟨a, q, trim_fz e c⟩
  | .scr l, v, c, r => r.imp (fun ⟨a, q, e⟩ => ⟨a, q, trim_fz e c⟩) id
  | .ins _ _, v, c, ⟨a, q, e⟩ => ⟨a, q, trim_fz e c⟩
  | .dk _ _, v, c, ⟨a, q, e⟩ => ⟨a, q, trim_fz e c⟩
  | .dt _ _, v, c, ⟨a, q, e⟩ => ⟨a, q, trim_fz e c⟩
  | .exn _ _, v, c, ⟨a, q, e⟩ => ⟨a, q, trim_fz e c⟩
  | .loc n, v, c, ⟨a, q, e⟩ => ⟨a, q, by
    have c : n < k := of_decide_eq_true c
    show (w.cl.take k)[n]? = some a
    rw [List.getElem?_take_of_lt c]
    exact e⟩
  | .non, _, _, r => r
  | .bl _, _, _, r => r
  | .int _, _, _, r => r
  | .str _, _, _, r => r
  | .cls _, _, _, r => r
  | .ty _, _, _, r => r
theorem VRs.trim {k : Nat} : ∀ {l : List W} {vs : List V}, cloL k l = true → VRs T w l vs → VRs T (w.trim k) l vs
  | [], _, _, .nil => .nil
  | x :: l, _, c, .cons a b => by
    have c : (cloW k x && cloL k l) = true := c
    rw [Bool.and_eq_true] at c
    exact .cons (a.trim c.1) (VRs.trim c.2 b)
theorem DKs.trim {κ : Type} {k : Nat} : ∀ {l : List (κ × W)} {m : List (κ × V)}, cloKs k l = true → DKs T w l m → DKs T (w.trim k) l m
  | [], _, _, .nil => .nil
  | x :: l, _, c, .cons a b => by
    have c : (cloW k x.2 && cloL k (l.map (·.2))) = true := c
    rw [Bool.and_eq_true] at c
    exact .cons ⟨a.1, a.2.trim c.1⟩ (DKs.trim c.2 b)
theorem StR.trim (s : StR T w h H) (k : Nat) (hk : k ≤ h.length) (c : (h.take k).all (cloC k) = true) : StR T (w.trim k) (h.take k) H where
  fz := fun a o e => by
    obtain ⟨e1, c1⟩ := of_trim_fz e
    have q := s.fz a o e1
    cases o with
    | lst l => obtain ⟨vs, h1, h2⟩ := q; exact ⟨vs, h1, h2.trim c1⟩
    | tup l => obtain ⟨vs, h1, h2⟩ := q; exact ⟨vs, h1, h2.trim c1⟩
    | scr l => obtain ⟨vs, h1, h2⟩ := q; exact ⟨vs, h1, h2.trim c1⟩
    | ins cc l => obtain ⟨dx, vs, h1, h2, h3⟩ := q; exact ⟨dx, vs, h1, VRs.trim c1 h2, h3⟩
    | dk ks l => obtain ⟨vs, h1, h2, h3⟩ := q; exact ⟨vs, h1, VRs.trim c1 h2, h3⟩
    | dt ks l => obtain ⟨vs, h1, h2, h3⟩ := q; exact ⟨vs, h1, VRs.trim c1 h2, h3⟩
    | exn cc l => obtain ⟨d, vs, h1, h2, h3⟩ := q; exact ⟨d, vs, h1, VRs.trim c1 h2, h3⟩
  len := by
    show (w.cl.take k).length = (h.take k).length
    rw [List.length_take, List.length_take, s.len]
  nd := s.nd.sublist (List.take_sublist k w.cl)
  cel := fun n d a e1 e2 => by
    have hn : n < k := by
      have := (List.getElem?_eq_some_iff.mp e1).1
      rw [List.length_take] at this
      omega
    have e2 : (w.cl.take k)[n]? = some a := e2
    have c1 : cloC k d = true := List.all_eq_true.mp c d (List.mem_of_getElem? e1)
    rw [List.getElem?_take_of_lt hn] at e1 e2
    obtain ⟨q, lv⟩ := s.cel n d a e1 e2
    refine ⟨?_, fun l => ?_⟩
    · cases d with
      | lst l => obtain ⟨vs, h1, h2⟩ := q; exact ⟨vs, h1, VRs.trim c1 h2⟩
      | dk l => obtain ⟨vs, h1, h2⟩ := q; exact ⟨vs, h1, DKs.trim c1 h2⟩
      | dt l => obtain ⟨vs, h1, h2⟩ := q; exact ⟨vs, h1, DKs.trim c1 h2⟩
      | ins cc l => obtain ⟨dx, vs, h1, h2, h3⟩ := q; exact ⟨dx, vs, h1, VRs.trim c1 h2, h3⟩
      | dead => exact q
    · show (match w.fz a with | some o => if cloF k o then some o else none | none => none) = none
      rw [lv l]
/-- from the world w that has k cells -/
theorem Le.trim {w w' : Wd} {h : List Cell} {H : Hp} (s : StR T w h H) (le : Le w w') : Le w (w'.trim h.length) where
  cl := by
    obtain ⟨m, hm⟩ := le.cl
    refine ⟨[], ?_⟩
    show w'.cl.take h.length = w.cl ++ []
    rw [hm, ← s.len, List.take_left, List.append_nil]
  fz := fun a o e => trim_fz (le.fz a o e) (by rw [← s.len]; exact s.cloF_ok e)
end

/-! ### a live thing becomes data -/
def frzL (f : W → List Cell → Option (W × List Cell)) : List W → List Cell → Option (List W × List Cell)
  | [], h => some ([], h)
  | x :: r, h => match f x h with
    | some (y, h1) => (match frzL f r h1 with
      | some (l, h2) => some (y :: l, h2)
      | none => none)
    | none => none
def frzW : Nat → W → List Cell → Option (W × List Cell)
  | 0, _, _ => none
  | k + 1, x, h => match x with
    | .loc n => (match h[n]? with
      | some (.lst l) => (match frzL (frzW k) l (h.set n .dead) with
        | some (l', h') => some (.lst l', h')
        | none => none)
      | some (.ins c vs) => (match frzL (frzW k) vs (h.set n .dead) with
        | some (l', h') => some (.ins c l', h')
        | none => none)
      | some (.dk kvs) => (match frzL (frzW k) (kvs.map (·.2)) (h.set n .dead) with
        | some (l', h') => some (.dk (kvs.map (·.1)) l', h')
        | none => none)
      | some (.dt kvs) => (match frzL (frzW k) (kvs.map (·.2)) (h.set n .dead) with
        | some (l', h') => some (.dt (kvs.map (·.1)) l', h')
        | none => none)
      | _ => none)
    | x => if cloW 0 x then some (x, h) else none
/-- what a freeze leaves -/
structure Frozen (T : Tab) (w w' : Wd) (h h' : List Cell) (H : Hp) : Prop where
  le : Le w w'
  cl : w'.cl = w.cl
  st : StR T w' h' H
  dead : ∀ (m : Nat) (b : Addr), h[m]? = some .dead → w.cl[m]? = some b → w.fz b = none → h'[m]? = some .dead ∧ w'.fz b = none
theorem Frozen.refl {T : Tab} {w : Wd} {h : List Cell} {H : Hp} (s : StR T w h H) : Frozen T w w h h H := ⟨Le.refl w, rfl, s, fun _ _ e _ f => ⟨e, f⟩⟩
theorem Frozen.trans {T : Tab} {w w1 w2 : Wd} {h h1 h2 : List Cell} {H : Hp} (a : Frozen T w w1 h h1 H) (b : Frozen T w1 w2 h1 h2 H) : Frozen T w w2 h h2 H :=
  ⟨a.le.trans b.le, b.cl.trans a.cl, b.st, fun m c e1 e2 e3 => by
    obtain ⟨d1, d2⟩ := a.dead m c e1 e2 e3
    exact b.dead m c d1 (by rw [a.cl]; exact e2) d2⟩
def FrzOk (T : Tab) (f : W → List Cell → Option (W × List Cell)) : Prop := ∀ (x : W) (h : List Cell) (x' : W) (h' : List Cell) (w : Wd) (H : Hp) (v : V), StR T w h H → VR T w x v → f x h = some (x', h') → ∃ w', Frozen T w w' h h' H ∧ VR T w' x' v
theorem frzL_ok {T : Tab} {f : W → List Cell → Option (W × List Cell)} (ok : FrzOk T f) : ∀ (l : List W) (h : List Cell) (l' : List W) (h' : List Cell) (w : Wd) (H : Hp) (vs : List V), StR T w h H → VRs T w l vs → frzL f l h = some (l', h') →
    ∃ w', Frozen T w w' h h' H ∧ VRs T w' l' vs
  | [], h, l', h', w, H, vs, s, r, e => by
    cases e
    cases r
    exact ⟨w, Frozen.refl s, .nil⟩
  | x :: l, h, l', h', w, H, vs, s, r, e => by
    cases r with
    | cons r1 r2 =>
      unfold frzL at e
      cases q : f x h with
      | none => rw [q] at e; cases e
      | some p =>
        obtain ⟨y, h1⟩ := p
        rw [q] at e
        dsimp only at e
        cases q2 : frzL f l h1 with
        | none => rw [q2] at e; cases e
        | some p2 =>
          obtain ⟨l2, h2⟩ := p2
          rw [q2] at e
          cases e
          obtain ⟨w1, f1, v1⟩ := ok x h y h1 w H _ s r1 q
          obtain ⟨w2, f2, v2⟩ := frzL_ok ok l h1 l2 _ w1 H _ f1.st (VRs.mono f1.le r2) q2
          exact ⟨w2, f1.trans f2, .cons (v1.mono f2.le) v2⟩
/-- the cell is given up -/
theorem StR.kill {T : Tab} {w : Wd} {h : List Cell} {H : Hp} (s : StR T w h H) {n : Nat} {c : Cell} {a : Addr} (e1 : h[n]? = some c) (e2 : w.cl[n]? = some a) : StR T w (h.set n .dead) H where
  fz := s.fz
  len := by rw [List.length_set]; exact s.len
  nd := s.nd
  cel := fun m d b q1 q2 => by
    by_cases hm : m = n
    · subst hm
      rw [List.getElem?_set_self (List.getElem?_eq_some_iff.mp e1).1] at q1
      cases q1
      rw [e2] at q2
      cases q2
      exact ⟨(s.cel m c a e1 e2).1.some, fun l => l.elim⟩
    · rw [List.getElem?_set_ne (Ne.symm hm)] at q1
      exact s.cel m d b q1 q2
/-- a dead cell's object is known as data -/
theorem StR.known {T : Tab} {w : Wd} {h : List Cell} {H : Hp} (s : StR T w h H) {n : Nat} {a : Addr} {o : FO} (e1 : h[n]? = some .dead) (e2 : w.cl[n]? = some a) (hf : w.fz a = none) (ok : FOk T w H a o) : StR T (w.addF a o) h H ∧ Le w (w.addF a o) := by
  have le : Le w (w.addF a o) := Le.addF hf
  refine ⟨⟨fun b x e => ?_, s.len, s.nd, fun m d b q1 q2 => ?_⟩, le⟩
  · have e' : (if b = a then some o else w.fz b) = some x := e
    by_cases hb : b = a
    · subst hb
      rw [if_pos rfl] at e'
      cases e'
      exact ok.mono le
    · rw [if_neg hb] at e'
      exact (s.fz b x e').mono le
  · refine ⟨(s.cel m d b q1 q2).1.mono le, fun lv => ?_⟩
    have hb : b ≠ a := fun z => by
      subst z
      have h1 := List.getElem?_eq_some_iff.mp q2
      have h2 := List.getElem?_eq_some_iff.mp e2
      have : m = n := (List.getElem_inj s.nd).mp (h1.2.trans h2.2.symm)
      subst this
      rw [e1] at q1
      cases q1
      exact lv
    show (if b = a then some o else w.fz b) = none
    rw [if_neg hb]
    exact (s.cel m d b q1 q2).2 lv
theorem DKs.split {κ : Type} {T : Tab} {w : Wd} : ∀ {l : List (κ × W)} {m : List (κ × V)}, DKs T w l m → m = (l.map (·.1)).zip (m.map (·.2)) ∧ VRs T w (l.map (·.2)) (m.map (·.2))
  | [], _, .nil => ⟨rfl, .nil⟩
  | (k, x) :: l, (k', v) :: m, .cons a b => by
    obtain ⟨rfl, r⟩ := a
    obtain ⟨e, r2⟩ := DKs.split b
    refine ⟨?_, .cons r r2⟩
    exact congrArg (List.cons (k, v)) e
theorem frzW_ok {T : Tab} : ∀ k : Nat, FrzOk T (frzW k)
  | 0, x, h, x', h', w, H, v, s, r, e => by cases e
  | k + 1, x, h, x', h', w, H, v, s, r, e => by
    have plain : ∀ x : W, VR T w x v → (if cloW 0 x then some (x, h) else none) = some (x', h') → ∃ w', Frozen T w w' h h' H ∧ VR T w' x' v := fun x r e => by
      split at e
      · cases e
        exact ⟨w, Frozen.refl s, r⟩
      · cases e
    cases x with
    | loc n =>
      unfold frzW at e
      dsimp only at e
      cases q : h[n]? with
      | none => rw [q] at e; cases e
      | some c =>
        rw [q] at e
        obtain ⟨a, rfl, ea, co⟩ := loc_at s r q
        have s1 := s.kill q ea
        have en : (h.set n .dead)[n]? = some .dead := List.getElem?_set_self (List.getElem?_eq_some_iff.mp q).1
        cases c with
        | lst l =>
          have nf := (s.cel n _ a q ea).2 trivial
          obtain ⟨vs, h1, h2⟩ := co
          dsimp only at e
          cases q2 : frzL (frzW k) l (h.set n .dead) with
          | none => rw [q2] at e; cases e
          | some p2 =>
            obtain ⟨l2, h2'⟩ := p2
            rw [q2] at e
            cases e
            obtain ⟨w1, f1, v1⟩ := frzL_ok (frzW_ok k) l _ l2 _ w H vs s1 h2 q2
            obtain ⟨d1, d2⟩ := f1.dead n a en ea nf
            obtain ⟨s2, le2⟩ := f1.st.known (o := .lst l2) d1 (by rw [f1.cl]; exact ea) d2 ⟨vs, h1, v1⟩
            refine ⟨_, ⟨f1.le.trans le2, f1.cl, s2, fun m b g1 g2 g3 => ?_⟩, ⟨a, rfl, if_pos rfl⟩⟩
            have hm : m ≠ n := fun z => by rw [z, q] at g1; cases g1
            obtain ⟨t1, t2⟩ := f1.dead m b (by rw [List.getElem?_set_ne (Ne.symm hm)]; exact g1) g2 g3
            refine ⟨t1, ?_⟩
            have hb : b ≠ a := fun z => hm (by
              subst z
              have h1 := List.getElem?_eq_some_iff.mp g2
              have h2 := List.getElem?_eq_some_iff.mp ea
              exact (List.getElem_inj s.nd).mp (h1.2.trans h2.2.symm))
            show (if b = a then some (FO.lst l2) else w1.fz b) = none
            rw [if_neg hb]
            exact t2
        | ins cc l =>
          have nf := (s.cel n _ a q ea).2 trivial
          obtain ⟨dx, vs, h1, h2, h3⟩ := co
          dsimp only at e
          cases q2 : frzL (frzW k) l (h.set n .dead) with
          | none => rw [q2] at e; cases e
          | some p2 =>
            obtain ⟨l2, h2'⟩ := p2
            rw [q2] at e
            cases e
            obtain ⟨w1, f1, v1⟩ := frzL_ok (frzW_ok k) l _ l2 _ w H vs s1 h2 q2
            obtain ⟨d1, d2⟩ := f1.dead n a en ea nf
            have hl : l2.length ≤ (T.fl cc).length := by rw [All2.length v1, ← All2.length h2]; exact h3
            obtain ⟨s2, le2⟩ := f1.st.known (o := .ins cc l2) d1 (by rw [f1.cl]; exact ea) d2 ⟨dx, vs, h1, v1, hl⟩
            refine ⟨_, ⟨f1.le.trans le2, f1.cl, s2, fun m b g1 g2 g3 => ?_⟩, ⟨a, rfl, if_pos rfl⟩⟩
            have hm : m ≠ n := fun z => by rw [z, q] at g1; cases g1
            obtain ⟨t1, t2⟩ := f1.dead m b (by rw [List.getElem?_set_ne (Ne.symm hm)]; exact g1) g2 g3
            refine ⟨t1, ?_⟩
            have hb : b ≠ a := fun z => hm (by
              subst z
              have h1 := List.getElem?_eq_some_iff.mp g2
              have h2 := List.getElem?_eq_some_iff.mp ea
              exact (List.getElem_inj s.nd).mp (h1.2.trans h2.2.symm))
            show (if b = a then some (FO.ins cc l2) else w1.fz b) = none
            rw [if_neg hb]
            exact t2
        | dk l =>
          have nf := (s.cel n _ a q ea).2 trivial
          obtain ⟨vs, h1, h2⟩ := co
          obtain ⟨hz, h2⟩ := h2.split
          dsimp only at e
          cases q2 : frzL (frzW k) (l.map (·.2)) (h.set n .dead) with
          | none => rw [q2] at e; cases e
          | some p2 =>
            obtain ⟨l2, h2'⟩ := p2
            rw [q2] at e
            cases e
            obtain ⟨w1, f1, v1⟩ := frzL_ok (frzW_ok k) _ _ l2 _ w H _ s1 h2 q2
            obtain ⟨d1, d2⟩ := f1.dead n a en ea nf
            have hl : (l.map (·.1)).length = l2.length := by rw [All2.length v1, ← All2.length h2, List.length_map, List.length_map]
            obtain ⟨s2, le2⟩ := f1.st.known (o := .dk (l.map (·.1)) l2) d1 (by rw [f1.cl]; exact ea) d2 ⟨_, by rw [← hz]; exact h1, v1, hl⟩
            refine ⟨_, ⟨f1.le.trans le2, f1.cl, s2, fun m b g1 g2 g3 => ?_⟩, ⟨a, rfl, if_pos rfl⟩⟩
            have hm : m ≠ n := fun z => by rw [z, q] at g1; cases g1
            obtain ⟨t1, t2⟩ := f1.dead m b (by rw [List.getElem?_set_ne (Ne.symm hm)]; exact g1) g2 g3
            refine ⟨t1, ?_⟩
            have hb : b ≠ a := fun z => hm (by
              subst z
              have h1 := List.getElem?_eq_some_iff.mp g2
              have h2 := List.getElem?_eq_some_iff.mp ea
              exact (List.getElem_inj s.nd).mp (h1.2.trans h2.2.symm))
            show (if b = a then some (FO.dk (l.map (·.1)) l2) else w1.fz b) = none
            rw [if_neg hb]
            exact t2
        | dt l =>
          have nf := (s.cel n _ a q ea).2 trivial
          obtain ⟨vs, h1, h2⟩ := co
          obtain ⟨hz, h2⟩ := h2.split
          dsimp only at e
          cases q2 : frzL (frzW k) (l.map (·.2)) (h.set n .dead) with
          | none => rw [q2] at e; cases e
          | some p2 =>
            obtain ⟨l2, h2'⟩ := p2
            rw [q2] at e
            cases e
            obtain ⟨w1, f1, v1⟩ := frzL_ok (frzW_ok k) _ _ l2 _ w H _ s1 h2 q2
            obtain ⟨d1, d2⟩ := f1.dead n a en ea nf
            have hl : (l.map (·.1)).length = l2.length := by rw [All2.length v1, ← All2.length h2, List.length_map, List.length_map]
            obtain ⟨s2, le2⟩ := f1.st.known (o := .dt (l.map (·.1)) l2) d1 (by rw [f1.cl]; exact ea) d2 ⟨_, by rw [← hz]; exact h1, v1, hl⟩
            refine ⟨_, ⟨f1.le.trans le2, f1.cl, s2, fun m b g1 g2 g3 => ?_⟩, ⟨a, rfl, if_pos rfl⟩⟩
            have hm : m ≠ n := fun z => by rw [z, q] at g1; cases g1
            obtain ⟨t1, t2⟩ := f1.dead m b (by rw [List.getElem?_set_ne (Ne.symm hm)]; exact g1) g2 g3
            refine ⟨t1, ?_⟩
            have hb : b ≠ a := fun z => hm (by
              subst z
              have h1 := List.getElem?_eq_some_iff.mp g2
              have h2 := List.getElem?_eq_some_iff.mp ea
              exact (List.getElem_inj s.nd).mp (h1.2.trans h2.2.symm))
            show (if b = a then some (FO.dt (l.map (·.1)) l2) else w1.fz b) = none
            rw [if_neg hb]
            exact t2
        | _ => cases e
    | _ => exact plain _ r e
/-- an expression's value, frozen -/
def frzR (m : R W) : R W := m.bind fun x h1 => match frzW 8 x h1 with
  | some (y, h2) => .ok y h2
  | none => .bad
def mFrz (m : ME) : ME := fun ρ h => frzR (m ρ h)
theorem post_frz {T : Tab} {w : Wd} {Q : VK} {E : XK} {m : R W} (p : Post T (VR T) w Q E (frzR m)) : Post T (VR T) w Q E m :=
  Post.bind p fun x h1 w1 H1 v le s1 r1 p1 => by
    cases q : frzW 8 x h1 with
    | none => rw [q] at p1; exact p1.elim
    | some t =>
      obtain ⟨y, h2⟩ := t
      rw [q] at p1
      obtain ⟨w2, f, r2⟩ := frzW_ok 8 x h1 y h2 w1 H1 v s1 r1 q
      exact p1 w2 H1 v f.le f.st r2
theorem i_frz {T : Tab} {X : Cx} {E : WX} {e : Expr} {m : ME} (h : IE T X E e m) : IE T X E e (mFrz m) := PE.imp h fun σ H Q ⟨w, ρ, h, s, en, p⟩ => ⟨w, ρ, h, s, en, post_frz p⟩

/-! ### defs -/
abbrev Fn := List W → List Cell → R W
def spI (T : Tab) (k : Nat) (g : Fn) : Sp := fun vs H Q E => ∃ w h xs, StR T w h H ∧ VRs T w xs vs ∧ vs.length = k ∧ Post T (VR T) w Q E (g xs h)
/-- how a body's end is a call's -/
def RS.toR : RS → R W
  | .nx _ h => .ok .non h
  | .rt x h => .ok x h
  | .exc c vs _ h => .exc c vs h
  | _ => .bad
/-- the cells that a call made are given up -/
def trimR (k : Nat) (m : R W) : R W := m.bind fun x h1 => if h1.length ≤ k then .ok x h1 else if cloW k x && (h1.take k).all (cloC k) then .ok x (h1.take k) else .bad
theorem post_trim {T : Tab} {w : Wd} {h : List Cell} {H : Hp} {Q : VK} {E : XK} {m : R W} (s : StR T w h H) (p : Post T (VR T) w Q E (trimR h.length m)) : Post T (VR T) w Q E m := by
  cases m with
  | bad => exact p
  | exc c vs h1 => exact p
  | ok x h1 =>
    intro w1 H1 v le s1 r1
    have p : Post T (VR T) w Q E (if h1.length ≤ h.length then R.ok x h1 else if cloW h.length x && (h1.take h.length).all (cloC h.length) then .ok x (h1.take h.length) else .bad) := p
    split at p
    · exact p w1 H1 v le s1 r1
    · rename_i hl
      split at p
      · rename_i hc
        rw [Bool.and_eq_true] at hc
        exact p _ H1 v (Le.trim s le) (s1.trim h.length (by omega) hc.2) (r1.trim hc.1)
      · exact p.elim
/-- a def with nv names, k of them parameters; fz: what it hands back becomes data -/
def fnB (nv k : Nat) (m : MS) (xs : List W) (h : List Cell) : R W := if xs.length = k then (m (xs.map some ++ List.replicate (nv - k) none) h).toR else .bad
def fnM (fz : Bool) (nv k : Nat) (m : MS) : Fn := fun xs h => trimR h.length (if fz then frzR (fnB nv k m xs h) else fnB nv k m xs h)
theorem start_env {T : Tab} {w : Wd} {xs : List W} {vs : List V} {N : List Str} {nv : Nat} (r : VRs T w xs vs) (hn : N.length = nv) : EnvR T w (xs.map some ++ List.replicate (nv - vs.length) none) (L2.start N vs) := by
  unfold L2.start
  rw [hn]
  refine All2.append ?_ ?_
  · induction r with
    | nil => exact .nil
    | cons a b ih => exact .cons (fun x e => by cases e; exact ⟨_, rfl, a⟩) ih
  · generalize nv - vs.length = j
    induction j with
    | zero => exact .nil
    | succ j ih =>
      rw [List.replicate_succ, List.replicate_succ]
      exact .cons (fun x e => by cases e) ih
abbrev cxE (E : XK) : WX := fun c d _ H => E c d H
theorem post_body {T : Tab} {w : Wd} {h : List Cell} {Q : VK} {E : XK} {m : RS} (p : Post T (VR T) w Q E m.toR) : PostS T w { nx := fun _ H' => Q .non H', rt := Q } (cxE E) m := by
  cases m with
  | nx ρ h1 => exact fun w' σ' H' le s en => p w' H' .non le s rfl
  | rt x h1 => exact p
  | exc c vs ρ h1 => exact fun w' σ' H' d le s en e => p w' H' d le s e
  | _ => exact p.elim
theorem fn_ok {T : Tab} {P : Program} {w : World} {mg : Str → Option Value} {base : Heap} {x qual : Str} {params : Arguments} {body : List Stmt} {scope : Scope} {dvs : List V} {kws : List (Str × V)} {f : Addr} {fd : FuncData} {N ps : List Str} {n : Nat} {m : MS} {fz : Bool} {nv k : Nat}
    (F : FunD T.K x qual params body scope dvs kws f fd) (S : FnScope N ps scope) (hn : N.length = nv := by rfl) (hk : ps.length = k := by rfl)
    (hb : ∀ (cdv : Value) (A : Around) (outer : List Env) (s : Shared) (H : Hp) (E : XK), Gd T (cxOf (L2.CX P w) P w T.K mg base N qual scope f cdv A outer s H E) (cxE E) n →
      ISs T (cxOf (L2.CX P w) P w T.K mg base N qual scope f cdv A outer s H E) (cxE E) body m) : FnOk P w T.K mg base (L2.CX P w) (n + 1) f fd ps (spI T k (fnM fz nv k m)) := by
  refine F.ok S (fun vs H Q E ⟨w, h, xs, s, r, l, _⟩ => by rw [l, hk]) fun cdv A outer s H vs Q E hr ⟨w, h, xs, st, r, l, p⟩ => ?_
  refine ⟨_, hb cdv A outer s H E (gd_mk rfl rfl S.nd hr (takes_of rfl rfl rfl rfl) (passes_of rfl)), w, _, h, st, start_env r hn, ?_⟩
  have p1 : Post T (VR T) w Q E (fnB nv k m xs h) := by
    have p0 := post_trim st p
    cases fz with
    | true => exact post_frz p0
    | false => exact p0
  unfold fnB at p1
  rw [if_pos (by rw [All2.length r, l])] at p1
  rw [l]
  exact post_body (h := h) p1

/-! ### calls -/
section
variable {T : Tab} {X : Cx} {E : WX} {n k : Nat} {a e o : Expr} {es : List Expr} {ma mo : ME} {mr mk : MA} {pos p apos : Pos} {f C : Addr} {fd : FuncData} {ps : List Str} {g : Fn} {x m : Str} {dws : List W} {dvs : List V} {ds : List Value} {kk : Nat}
theorem run_fnX {pins : List (Addr × Obj)} {σ : L2.St} {H : Hp} {s : Shared} {Q : VK} {us : List Value} {vs : List V} {sp : Sp} (F : FnOk X.prog X.w X.K X.mg X.base (L2.CX X.prog X.w) k f fd ps sp) (hr : Room k X.A) (hb : Binds X.K fd ps ds) (hd : Vals dvs ds) (tk : Takes X E)
    (I : Inv X pins σ H s) (r : Vals vs us) (h : sp (vs ++ dvs) H Q (fun c d H' => E c d σ H')) : wpAny (model X.prog X.w) X.A (call (.ref f) us) (EP X pins σ Q) X.xe s := by
  have r2 : Vals (vs ++ dvs) (us ++ ds) := r.append hd
  have hl : (us ++ ds).length = ps.length := by rw [← r2.length]; exact F.len _ _ _ _ h
  refine wpAny_call (codeAny_mono (F.run X.A X.stack s H ⟨us, []⟩ (us ++ ds) (vs ++ dvs) Q _ hr I.env0 (hb s us I.kIn hl) r2 h) fun r s' hq => ?_)
  cases r with
  | error e => exact passAt tk σ pins H s e s' I hq
  | ok fl =>
    cases fl with
    | ret u => exact I.after hq
    | next => exact False.elim hq
    | brk => exact False.elim hq
    | cont => exact False.elim hq
def mCall (g : Fn) (dws : List W) (mr : MA) : ME := fun ρ h => (mr ρ h).bind fun xs h1 => g (xs ++ dws) h1
theorem sp_of {w : Wd} {h : List Cell} {H : Hp} {xs : List W} {vs : List V} {Q : VK} {E : XK} {j : Nat} (s : StR T w h H) (r : VRs T w xs vs) (l : xs.length = j) (p : Post T (VR T) w Q E (g xs h)) : spI T j g vs H Q E := ⟨w, h, xs, s, r, by rw [← r.length]; exact l, p⟩
/-- only so many arguments are served -/
def Arity (g : Fn) (k : Nat) : Prop := ∀ xs h, xs.length ≠ k → g xs h = .bad
theorem fnM_arity {fz : Bool} {nv k : Nat} {m : MS} : Arity (fnM fz nv k m) k := fun xs h ne => by
  unfold fnM fnB
  rw [if_neg ne]
  cases fz <;> rfl
theorem sp_of' {w : Wd} {h : List Cell} {H : Hp} {xs : List W} {vs : List V} {Q : VK} {E : XK} {j : Nat} (ar : Arity g j) (s : StR T w h H) (r : VRs T w xs vs) (p : Post T (VR T) w Q E (g xs h)) : spI T j g vs H Q E := by
  by_cases l : xs.length = j
  · exact sp_of s r l p
  · rw [ar xs h l] at p
    exact p.elim
/-- what a caller knows of a def -/
structure Kn (T : Tab) (P : Program) (w : World) (K : PySem.W.Frag) (mg : Str → Option Value) (base : Heap) (k : Nat) (f : Addr) (fd : FuncData) (ps : List Str) (g : Fn) : Prop where
  ok : FnOk P w K mg base (L2.CX P w) k f fd ps (spI T ps.length g)
  ar : Arity g ps.length
  kp : PySem.W.keepIn K (.ref f) = true
theorem kn_zero {P : Program} {w : World} {K : PySem.W.Frag} {mg : Str → Option Value} {base : Heap} (kp : PySem.W.keepIn K (.ref f) = true) : Kn T P w K mg base k f fd ps (fun _ _ => .bad) :=
  ⟨⟨fun vs H Q E ⟨_, _, _, _, _, l, _⟩ => l, fun A outer s H args us vs Q E _ _ _ _ ⟨_, _, _, _, _, _, p⟩ => (p : False).elim⟩, fun _ _ _ => rfl, kp⟩
theorem call_of (Fk : Kn T X.prog X.w X.K X.mg X.base k f fd ps g) (hk : k ≤ n) (G : Gd T X E n) (hb : Binds X.K fd ps ds) (hd : Vals dvs ds) (kd : KVs T dws dvs) {pins : List (Addr × Obj)} {σ : L2.St} {H : Hp} {s : Shared} {Q : VK} {us : List Value} {vs : List V} {w : Wd} {h : List Cell} {xs : List W}
    (I : Inv X pins σ H s) (r : Vals vs us) (st : StR T w h H) (rx : VRs T w xs vs) (q : Post T (VR T) w Q (fun c d H' => E c d σ H') (g (xs ++ dws) h)) : wpAny (model X.prog X.w) X.A (call (.ref f) us) (EP X pins σ Q) X.xe s :=
  run_fnX Fk.ok (G.room.mono hk) hb hd G.tk I r (sp_of' Fk.ar st (rx.append kd.vrs) q)
theorem i_call (Fk : Kn T X.prog X.w X.K X.mg X.base k f fd ps g) (hk : k ≤ n) (G : Gd T X E n) (hm : X.mg x = some (.ref f)) (hb : Binds X.K fd ps ds) (hd : Vals dvs ds) (kd : KVs T dws dvs) (ha : IA T X E (e :: es) mr) (hg : Gl X x := by rfl)
    (hdb : (x == ("__debug__" : Str)) = false := by decide +kernel) (he : starEach (e :: es) X.env = (false, eval e X.env) :: starEach es X.env := by rfl) (hpl : (backTo pos (starEach es X.env)).any (·.1) = false := by rfl) :
    IE T X E (.Call (.Name x p) (e :: es) [] pos) (mCall g dws mr) := by
  refine ⟨fun pins s σ H Q I ⟨w, ρ, h, st, en, q⟩ => ?_⟩
  refine wpAny_Call_Name_kw (ld_glob I hg hm ?_ hdb)
  refine PySem.W.callWith_K (h₀ := X.base) I.ok.mod.kin Fk.kp (thn (ha.run pos pins s σ H (fun vs H' => ∃ w1 h1 xs, StR T w1 h1 H' ∧ VRs T w1 xs vs ∧ Post T (VR T) w1 Q (fun c d H' => E c d σ H') (g (xs ++ dws) h1)) I
    ⟨w, ρ, h, st, en, Post.bind q fun xs h1 w1 H1 vs le s1 r1 p1 => ⟨w1, h1, xs, s1, r1, p1⟩⟩) fun us s1 ⟨vs, H1, I1, r, w1, h1, xs, q1, q2, q3⟩ => ⟨I1.kIn, ?_⟩) he hpl
  exact call_of Fk hk G hb hd kd I1 r q1 q2 q3
theorem i_call0 (Fk : Kn T X.prog X.w X.K X.mg X.base k f fd ps g) (hk : k ≤ n) (G : Gd T X E n) (hm : X.mg x = some (.ref f)) (hb : Binds X.K fd ps ds) (hd : Vals dvs ds) (kd : KVs T dws dvs) (hg : Gl X x := by rfl)
    (hdb : (x == ("__debug__" : Str)) = false := by decide +kernel) : IE T X E (.Call (.Name x p) [] [] pos) (mCall g dws mNil) := by
  refine ⟨fun pins s σ H Q I ⟨w, ρ, h, st, en, q⟩ => ?_⟩
  refine wpAny_Call_Name_kw (ld_glob I hg hm ?_ hdb)
  exact PySem.W.callWith_K0 I.kIn Fk.kp (call_of (us := []) (xs := []) Fk hk G hb hd kd I .nil st .nil q)
/-- keywords' values -/
abbrev IK (T : Tab) (X : Cx) (E : WX) (kws : List Keyword) (m : MA) : Prop := PK X kws (taI T E m)
theorem PK.imp {kws : List Keyword} {t t' : TA} (h : PK X kws t) (k : ∀ σ H Q, t' σ H Q → t σ H Q) : PK X kws t' := ⟨fun w pins s σ H Q I q => h.run w pins s σ H Q I (k σ H Q q)⟩
theorem ik_nil : IK T X E [] mNil := PK.imp pk_nil fun σ H Q ⟨w, ρ, h, s, en, p⟩ => p w H [] (Le.refl w) s .nil
theorem ik_cons {nm : Option Str} {kpos : Pos} {kws : List Keyword} (ha : IE T X E a ma) (hr : IK T X E kws mr) : IK T X E (⟨nm, a, kpos⟩ :: kws) (mCons ma mr) :=
  PK.imp (pk_cons ha hr) fun σ H Q ⟨w, ρ, h, s, en, p⟩ => ⟨w, ρ, h, s, en, Post.bind p fun x h1 w1 H1 v le s1 r1 p1 => ⟨w1, ρ, h1, s1, en.mono le, Post.bind p1 fun l h2 w2 H2 vs le2 s2 r2 p2 =>
    p2 w2 H2 _ (Le.refl _) s2 (.cons (r1.mono le2) r2)⟩⟩
/-- how keywords fall into places, over data -/
def GW (T : Tab) (gV : List V → List V → List V) (gW : List W → List W → List W) : Prop := ∀ (w : Wd) (xs ys : List W) (vs us : List V), VRs T w xs vs → VRs T w ys us → VRs T w (gW xs ys) (gV vs us)
def mMakeB (c : Nat) (g : Fn) (xs : List W) (h : List Cell) : R W := (g (.loc h.length :: xs) (h ++ [.ins c []])).bind fun v h2 => match v with
  | .non => .ok (.loc h.length) h2
  | _ => .bad
def mMake (c : Nat) (g : Fn) (dws : List W) (mr : MA) : ME := fun ρ h => (mr ρ h).bind fun xs h1 => mMakeB c g (xs ++ dws) h1
/-- n values, j keywords -/
def mMakeK (c : Nat) (g : Fn) (gW : List W → List W → List W) (n j : Nat) (mr mk : MA) : ME := fun ρ h => (mr ρ h).bind fun xs h1 => (mk ρ h1).bind fun ys h2 => if xs.length = n ∧ ys.length = j then mMakeB c g (gW xs ys) h2 else .bad
theorem make_of {c : Nat} {w : Wd} {h : List Cell} {H : Hp} {Q : VK} {E : XK} {xs : List W} {vs : List V} (ar : Arity g ps.length) (s : StR T w h H) (r : VRs T w xs vs) (p : Post T (VR T) w Q E (mMakeB c g xs h)) :
    ∀ x dx, H x = none → H dx = none → dx ≠ x → spI T ps.length g (.ref x :: vs) (upd (upd H dx (.own x)) x (.ins (T.ca c) dx [])) (fun v H2 => v = .non ∧ Q (.ref x) H2) E := fun x dx hx hdx ne => by
  have s1 : StR T w h (upd H dx (.own x)) := s.other hdx
  have hx1 : upd H dx (.own x) x = none := by rw [upd_ne (Ne.symm ne)]; exact hx
  have s2 := s1.cell (c := .ins c []) (u := .ins (T.ca c) dx []) hx1 ⟨dx, [], by rw [List.zip_nil_right]; exact upd_same, .nil, Nat.zero_le _⟩
  have le : Le w (w.addC x) := Le.addC
  refine sp_of' ar s2 (.cons (new_loc s1) (VRs.mono le r)) ?_
  refine Post.bind (Post.mono le p) fun v h1 w1 H1 v' le1 s3 r1 p1 => ?_
  cases v with
  | non =>
    cases r1
    exact ⟨rfl, p1 w1 H1 (.ref x) (Le.refl _) s3 ((new_loc s1).mono le1)⟩
  | _ => exact p1.elim
/-- a new instance; M, K about the class at C = T.ca c -/
theorem run_makeX {pins : List (Addr × Obj)} {σ : L2.St} {H : Hp} {s : Shared} {Q : VK} {us : List Value} {kw : List (Str × Value)} {vs : List V} {bs : List Value} {sp : Sp} (M : Mk X.K C f) (F : FnOk X.prog X.w X.K X.mg X.base (L2.CX X.prog X.w) k f fd ps sp) (hr : Room (k + 1) X.A) (tk : Takes X E)
    (hb : ∀ (s1 : Shared) (self : Value), X.K.In s1.heap → (self :: bs).length = ps.length → BindsTo s1 fd ⟨self :: us, kw⟩ (ps.zip (self :: bs))) (I : Inv X pins σ H s) (r : Vals vs bs)
    (h : ∀ x dx, H x = none → H dx = none → dx ≠ x → sp (.ref x :: vs) (upd (upd H dx (.own x)) x (.ins C dx [])) (fun v H2 => v = .non ∧ Q (.ref x) H2) (fun c d H' => E c d σ H')) :
    wpAny (model X.prog X.w) X.A (call (.ref C) us kw) (EP X pins σ Q) X.xe s := by
  have hq := h (s.heap.objs.size + 1) s.heap.objs.size (I.hok.fresh (Nat.le_succ _)) (I.hok.fresh (Nat.le_refl _)) (Nat.ne_of_lt (Nat.lt_succ_self _))
  have I2 := Inv.made (C := C) I
  have r2 : Vals (V.ref (s.heap.objs.size + 1) :: vs) (Value.ref (s.heap.objs.size + 1) :: bs) := .cons rfl r
  have hl : (Value.ref (s.heap.objs.size + 1) :: bs).length = ps.length := by
    rw [← r2.length]
    exact F.len _ _ _ _ hq
  refine wpAny_call (make_map (f := f) I.kIn M.makes M.init (beq_iff_eq.mp M.fn) (codeAny_mono (F.run _ X.stack _ _ ⟨Value.ref (s.heap.objs.size + 1) :: us, kw⟩ (Value.ref (s.heap.objs.size + 1) :: bs) _ _ _ (hr.make C us kw)
    (I2.env0.make C us kw) (hb _ _ I2.kIn hl) r2 hq) fun r s' hq' => ?_))
  cases r with
  | error e => exact passAt tk σ pins _ _ e s' I2 hq'
  | ok fl =>
    cases fl with
    | ret u =>
      obtain ⟨v, H', I3, rv, ev, q3⟩ := I2.after hq'
      subst ev
      exact ⟨rv, ⟨V.ref (s.heap.objs.size + 1), H', I3, rfl, q3⟩⟩
    | next => exact False.elim hq'
    | brk => exact False.elim hq'
    | cont => exact False.elim hq'
theorem i_make (c : Nat) (M : Mk X.K (T.ca c) f) (Fk : Kn T X.prog X.w X.K X.mg X.base k f fd ps g) (hk : k + 1 ≤ n) (G : Gd T X E n) (hm : X.mg x = some (.ref (T.ca c))) (hb : Binds X.K fd ps ds) (hd : Vals dvs ds) (kd : KVs T dws dvs) (ha : IA T X E (e :: es) mr) (hg : Gl X x := by rfl)
    (hdb : (x == ("__debug__" : Str)) = false := by decide +kernel) (he : starEach (e :: es) X.env = (false, eval e X.env) :: starEach es X.env := by rfl) (hpl : (backTo pos (starEach es X.env)).any (·.1) = false := by rfl) :
    IE T X E (.Call (.Name x p) (e :: es) [] pos) (mMake c g dws mr) := by
  refine ⟨fun pins s σ H Q I ⟨w, ρ, h, st, en, q⟩ => ?_⟩
  refine wpAny_Call_Name_kw (ld_glob I hg hm ?_ hdb)
  refine PySem.W.callWith_K (h₀ := X.base) I.ok.mod.kin M.kp (thn (ha.run pos pins s σ H (fun vs H' => ∃ w1 h1 xs, StR T w1 h1 H' ∧ VRs T w1 xs vs ∧ Post T (VR T) w1 Q (fun c d H' => E c d σ H') (mMakeB c g (xs ++ dws) h1)) I
    ⟨w, ρ, h, st, en, Post.bind q fun xs h1 w1 H1 vs le s1 r1 p1 => ⟨w1, h1, xs, s1, r1, p1⟩⟩) fun us s1 ⟨vs, H1, I1, r, w1, h1, xs, q1, q2, q3⟩ => ⟨I1.kIn, ?_⟩) he hpl
  exact run_makeX (bs := us ++ ds) M Fk.ok (G.room.mono hk) G.tk (fun s1 self X1 hl => hb s1 (self :: us) X1 hl) I1 (r.append hd) (make_of Fk.ar q1 (q2.append kd.vrs) q3)
theorem i_make0 (c : Nat) (M : Mk X.K (T.ca c) f) (Fk : Kn T X.prog X.w X.K X.mg X.base k f fd ps g) (hk : k + 1 ≤ n) (G : Gd T X E n) (hm : X.mg x = some (.ref (T.ca c))) (hb : Binds X.K fd ps ds) (hd : Vals dvs ds) (kd : KVs T dws dvs) (hg : Gl X x := by rfl)
    (hdb : (x == ("__debug__" : Str)) = false := by decide +kernel) : IE T X E (.Call (.Name x p) [] [] pos) (mMake c g dws mNil) := by
  refine ⟨fun pins s σ H Q I ⟨w, ρ, h, st, en, q⟩ => ?_⟩
  refine wpAny_Call_Name_kw (ld_glob I hg hm ?_ hdb)
  exact PySem.W.callWith_K0 I.kIn M.kp (run_makeX (us := []) (bs := ds) M Fk.ok (G.room.mono hk) G.tk (fun s1 self X1 hl => hb s1 [self] X1 hl) I hd (make_of (xs := [] ++ dws) Fk.ar st kd.vrs q))
theorem i_makeK (c : Nat) {ks : List Str} {kws : List Keyword} {gg : List Value → List Value → List Value} {gV : List V → List V → List V} {gW : List W → List W → List W} {j : Nat} (M : Mk X.K (T.ca c) f) (Fk : Kn T X.prog X.w X.K X.mg X.base k f fd ps g) (hk : k + 1 ≤ n) (G : Gd T X E n) (hm : X.mg x = some (.ref (T.ca c)))
    (hb : KBn X.K fd ps (j + 1) ks gg gV) (hself : ∀ x us ws, gg (x :: us) ws = x :: (gg (x :: us) ws).tail) (hself' : ∀ x y us ws, (gg (x :: us) ws).tail = (gg (y :: us) ws).tail) (hgv : ∀ x vs zs, gV (x :: vs) zs = x :: (gV (V.non :: vs) zs).tail) (hgw : GW T (fun vs zs => (gV (V.non :: vs) zs).tail) gW)
    (ha : IA T X E (e :: es) mr) (hkw : IK T X E kws mk) (hall : (backToKw pos (keywordEach kws X.env)).all (·.1.isSome) = true := by rfl) (hks : (backToKw pos (keywordEach kws X.env)).filterMap (·.1) = ks := by rfl) (hg : Gl X x := by rfl)
    (hdb : (x == ("__debug__" : Str)) = false := by decide +kernel) (he : starEach (e :: es) X.env = (false, eval e X.env) :: starEach es X.env := by rfl)
    (hpl : ((backTo pos (starEach (e :: es) X.env)).any (·.1) || (backToKw pos (keywordEach kws X.env)).any (·.1.isNone)) = false := by rfl) :
    IE T X E (.Call (.Name x p) (e :: es) kws pos) (mMakeK c g gW j ks.length mr mk) := by
  refine ⟨fun pins s σ H Q I ⟨w, ρ, h, st, en, q⟩ => ?_⟩
  refine wpAny_Call_Name_kw (ld_glob I hg hm ?_ hdb)
  refine PySem.W.callWith_KW (h₀ := X.base) I.ok.mod.kin M.kp hall (thn (ha.run pos pins s σ H (fun vs H' => ∃ w1 h1 xs, StR T w1 h1 H' ∧ EnvR T w1 ρ σ ∧ VRs T w1 xs vs ∧ Post T (VR T) w1 Q (fun c d H' => E c d σ H') ((mk ρ h1).bind fun ys h2 => if xs.length = j ∧ ys.length = ks.length then mMakeB c g (gW xs ys) h2 else .bad)) I
    ⟨w, ρ, h, st, en, Post.bind q fun xs h1 w1 H1 vs le s1 r1 p1 => ⟨w1, h1, xs, s1, en.mono le, r1, p1⟩⟩) fun us s1 ⟨vs, H1, I1, r, w1, h1, xs, q1, q0, q2, q3⟩ => ?_) hpl he
  refine thn (hkw.run pos pins s1 σ H1 (fun zs H' => ∃ w1 h1 ys xs, StR T w1 h1 H' ∧ VRs T w1 xs vs ∧ VRs T w1 ys zs ∧ xs.length = j ∧ ys.length = ks.length ∧ Post T (VR T) w1 Q (fun c d H' => E c d σ H') (mMakeB c g (gW xs ys) h1)) I1
    ⟨w1, ρ, h1, q1, q0, Post.bind q3 fun ys h2 w2 H2 zs le2 s2 r2 p2 => by
      split at p2
      · rename_i hc
        exact ⟨w2, h2, ys, xs, s2, VRs.mono le2 q2, r2, hc.1, hc.2, p2⟩
      · exact p2.elim⟩) fun ws s2 ⟨zs, H2, I2, rz, w2, h2, ys, xs, g1, g2, g3, l1, l2, g4⟩ => ⟨I2.kIn, ?_⟩
  rw [hks]
  have rr : Vals ((gV (V.non :: vs) zs).tail) ((gg (Value.none :: us) ws).tail) := by
    have := hb.rel (vs := V.non :: vs) (us := Value.none :: us) (.cons rfl r) rz
    rw [hgv, hself] at this
    cases this with
    | cons _ t => exact t
  refine run_makeX (bs := (gg (Value.none :: us) ws).tail) M Fk.ok (G.room.mono hk) G.tk (fun s1 self X1 hl => ?_) I2 rr (make_of Fk.ar g1 (hgw w2 xs ys vs zs g2 g3) g4)
  have b := hb.to s1 (self :: us) ws X1 (by rw [List.length_cons, ← r.length, ← g2.length, l1]) (by rw [← rz.length, ← g3.length, l2])
  rw [hself, hself' self Value.none] at b
  exact b
end
end Fz

namespace Fz
open PySem PySem.Spec PyProof.Rows L2

/-! ### instances -/
section
variable {T : Tab} {w : Wd} {h : List Cell} {H : Hp}
def insW (h : List Cell) : W → Option (Nat × List W)
  | .ins c vs => some (c, vs)
  | .loc n => match h[n]? with
    | some (.ins c vs) => some (c, vs)
    | _ => none
  | _ => none
theorem insW_at {x : W} {v : V} {c : Nat} {vs : List W} (s : StR T w h H) (r : VR T w x v) (e : insW h x = some (c, vs)) :
    ∃ a dx us, v = .ref a ∧ H a = some (.ins (T.ca c) dx ((T.fl c).zip us)) ∧ VRs T w vs us ∧ vs.length ≤ (T.fl c).length := by
  cases x with
  | ins c' vs' =>
    cases e
    obtain ⟨a, rfl, q⟩ := r
    obtain ⟨dx, us, h1, h2, h3⟩ := s.fz a _ q
    exact ⟨a, dx, us, rfl, h1, h2, h3⟩
  | loc n =>
    unfold insW at e
    dsimp only at e
    cases q : h[n]? with
    | none => rw [q] at e; cases e
    | some d =>
      rw [q] at e
      cases d with
      | ins c' vs' =>
        cases e
        obtain ⟨a, rfl, _, dx, us, h1, h2, h3⟩ := loc_at s r q
        exact ⟨a, dx, us, rfl, h1, h2, h3⟩
      | _ => cases e
  | _ => cases e
theorem zip_lookup : ∀ {fl : List Str} {us : List V} {j : Nat} {f : Str}, fl.Nodup → fl[j]? = some f → us.length ≤ fl.length → (fl.zip us).lookup f = us[j]?
  | k :: fl, u :: us, 0, f, nd, e, hl => by
    simp at e
    subst e
    rw [List.zip_cons_cons, List.lookup_cons]
    simp
  | k :: fl, u :: us, j + 1, f, nd, e, hl => by
    have e : fl[j]? = some f := by simpa using e
    have hne : (f == k) = false := by
      rw [beq_eq_false_iff_ne]
      intro z
      subst z
      exact (List.nodup_cons.mp nd).1 (List.mem_of_getElem? e)
    rw [List.zip_cons_cons, List.lookup_cons, hne]
    have hl : us.length ≤ fl.length := by simpa using hl
    rw [zip_lookup (List.nodup_cons.mp nd).2 e hl]
    simp
  | [], _, _, _, _, e, _ => by simp at e
  | k :: fl, [], j, f, nd, e, hl => by simp
theorem zip_lookup_none : ∀ {fl : List Str} {us : List V} {f : Str}, f ∉ fl → (fl.zip us).lookup f = none
  | [], _, _, _ => by simp
  | _ :: _, [], _, _ => by simp
  | k :: fl, u :: us, f, n => by
    rw [List.zip_cons_cons, List.lookup_cons]
    have h1 : (f == k) = false := by
      rw [beq_eq_false_iff_ne]
      exact fun z => n (by rw [z]; exact List.mem_cons_self)
    rw [h1]
    exact zip_lookup_none fun z => n (List.mem_cons_of_mem _ z)
theorem putF_zip : ∀ {fl : List Str} {us : List V} {j : Nat} {f : Str} {y : V}, fl.Nodup → fl[j]? = some f → j < us.length → us.length ≤ fl.length → putF f y (fl.zip us) = fl.zip (us.set j y)
  | k :: fl, u :: us, 0, f, y, nd, e, hj, hl => by
    simp at e
    subst e
    rw [List.zip_cons_cons]
    unfold putF
    rw [if_pos rfl]
    rfl
  | k :: fl, u :: us, j + 1, f, y, nd, e, hj, hl => by
    have e : fl[j]? = some f := by simpa using e
    have hne : ¬ k = f := fun z => by
      subst z
      exact (List.nodup_cons.mp nd).1 (List.mem_of_getElem? e)
    rw [List.zip_cons_cons]
    unfold putF
    rw [if_neg hne, putF_zip (List.nodup_cons.mp nd).2 e (by simpa using hj) (by simpa using hl)]
    rfl
  | [], _, _, _, _, _, e, _, _ => by simp at e
  | _ :: _, [], _, _, _, _, _, hj, _ => by simp at hj
theorem putF_app : ∀ {fl : List Str} {us : List V} {f : Str} {y : V}, fl.Nodup → fl[us.length]? = some f → putF f y (fl.zip us) = fl.zip (us ++ [y])
  | k :: fl, [], f, y, nd, e => by
    simp at e
    subst e
    rw [List.zip_nil_right, List.nil_append, List.zip_cons_cons, List.zip_nil_right]
    rfl
  | k :: fl, u :: us, f, y, nd, e => by
    have e : fl[us.length]? = some f := by simpa using e
    have hne : ¬ k = f := fun z => by
      subst z
      exact (List.nodup_cons.mp nd).1 (List.mem_of_getElem? e)
    rw [List.zip_cons_cons]
    unfold putF
    rw [if_neg hne, putF_app (List.nodup_cons.mp nd).2 e]
    rfl
  | [], _, _, _, _, e => by simp at e
end
section
variable {T : Tab} {X : Cx} {E : WX} {n k : Nat} {a b e o : Expr} {es : List Expr} {ma mb mo m' : ME} {mr mk : MA} {pos p apos : Pos} {f C : Addr} {fd : FuncData} {ps : List Str} {g : Fn} {x m fn : Str} {dws : List W} {dvs : List V} {ds : List Value} {kk : Nat}
/-- e.f, the j-th field of the class c -/
def fldW (h : List Cell) (c j : Nat) (x : W) : Option W := match insW h x with
  | some (c', vs) => if c' = c then vs[j]? else none
  | none => none
def mFld (c j : Nat) (m : ME) : ME := fun ρ h => (m ρ h).bind fun x h1 => R.ofO (fldW h1 c j x) h1
theorem i_fld (c j : Nat) (CL : Cls X.K (T.ca c)) (NA : NoAttr X.K (T.ca c) fn) (hf : (T.fl c)[j]? = some fn) (nd : (T.fl c).Nodup) (he : IE T X E e m') (hb : attributeBase e fn X.env (eval e X.env) = eval e X.env := by rfl) : IE T X E (.Attribute e fn pos) (mFld c j m') :=
  PE.imp (pe_fld he hb) fun σ H Q ⟨w, ρ, h, s, en, p⟩ => ⟨w, ρ, h, s, en, Post.bind p fun x h1 w1 H1 v le s1 r1 p1 => by
    unfold fldW at p1
    cases q : insW h1 x with
    | none => rw [q] at p1; exact p1.elim
    | some t =>
      obtain ⟨c', vs⟩ := t
      rw [q] at p1
      dsimp only at p1
      split at p1
      · rename_i hc
        subst hc
        obtain ⟨a, dx, us, rfl, g1, g2, g3⟩ := insW_at s1 r1 q
        cases q2 : vs[j]? with
        | none => rw [q2] at p1; exact p1.elim
        | some z =>
          rw [q2] at p1
          obtain ⟨u, hu, ru⟩ := g2.get q2
          exact ⟨a, _, dx, _, u, rfl, g1, CL, NA, by rw [zip_lookup nd hf (by rw [← g2.length]; exact g3)]; exact hu, p1 w1 H1 u (Le.refl _) s1 ru⟩
      · exact p1.elim⟩
/-- o.f = e -/
def mSFld (c j : Nat) (mo m : ME) : MS := fun ρ h => (m ρ h).toS ρ fun x h1 => (mo ρ h1).toS ρ fun o h2 => match o with
  | .loc i => (match h2[i]? with
    | some (.ins c' vs) => if c' = c then (if j < vs.length then .nx ρ (h2.set i (.ins c (vs.set j x))) else if j = vs.length then .nx ρ (h2.set i (.ins c (vs ++ [x]))) else .bad) else .bad
    | _ => .bad)
  | _ => .bad
theorem is_fld (c j : Nat) {pos' : Pos} (CL : Cls X.K (T.ca c)) (NA : NoAttr X.K (T.ca c) fn) (hf : (T.fl c)[j]? = some fn) (nd : (T.fl c).Nodup) (few : (T.fl c).length < 1000) (ho : IE T X E o mo) (he : IE T X E e m') {gb : Bool} (G : Gx T X E n gb)
    (hs : swapsWith e (some (.Attribute o fn pos')) pos.line X.env = pure false := by rfl) : IS T X E (.Assign [.Attribute o fn pos'] e pos) (mSFld c j mo m') :=
  PS.imp (ps_fld ho he hs) fun D σ H ⟨w, ρ, h, s, en, p⟩ => ⟨w, ρ, h, s, en, PostS.of en p fun x h1 w1 H1 v le s1 r1 p1 => ⟨w1, ρ, h1, s1, en.mono le, PostS.of (en.mono le) p1 fun o h2 w2 H2 ov le2 s2 r2 p2 => by
    cases o with
    | loc i =>
      dsimp only at p2
      cases q : h2[i]? with
      | none => rw [q] at p2; exact p2.elim
      | some d =>
        rw [q] at p2
        cases d with
        | ins c' vs =>
          dsimp only at p2
          split at p2
          · rename_i hc
            subst hc
            obtain ⟨a, rfl, e2, dx, us, g1, g2, g3⟩ := loc_at s2 r2 q
            have hj : j < (T.fl c').length := (List.getElem?_eq_some_iff.mp hf).1
            have rv := (r1.mono le2)
            have hlen : ((T.fl c').zip us).length < 1000 := by rw [List.length_zip]; omega
            refine ⟨a, _, dx, _, rfl, g1, CL, NA, hlen, ?_⟩
            split at p2
            · rename_i hjl
              rw [putF_zip nd hf (by rw [← g2.length]; exact hjl) (by rw [← g2.length]; exact g3)]
              have s3 := s2.write (c := .ins c' vs) (d := .ins c' (vs.set j x)) (u := .ins (T.ca c') dx ((T.fl c').zip (us.set j v))) q e2 trivial ⟨dx, us.set j v, upd_same, All2.set rv j g2, by rw [List.length_set]; exact g3⟩
              exact p2 w2 σ _ (Le.refl _) s3 (en.mono (le.trans le2))
            · split at p2
              · rename_i hjl
                subst hjl
                have hul : vs.length = us.length := g2.length
                rw [hul] at hf
                rw [putF_app nd hf]
                have s3 := s2.write (c := .ins c' vs) (d := .ins c' (vs ++ [x])) (u := .ins (T.ca c') dx ((T.fl c').zip (us ++ [v]))) q e2 trivial ⟨dx, us ++ [v], upd_same, All2.append g2 (.cons rv .nil), by rw [List.length_append]; exact hj⟩
                exact p2 w2 σ _ (Le.refl _) s3 (en.mono (le.trans le2))
              · exact p2.elim
          · exact p2.elim
        | _ => exact p2.elim
    | _ => exact p2.elim⟩⟩
/-- o.m(e, ..) of an instance of the class c -/
def mMeth (c : Nat) (g : Fn) (dws : List W) (mo : ME) (mr : MA) : ME := fun ρ h => (mo ρ h).bind fun x h1 => match insW h1 x with
  | some (c', _) => if c' = c then (mr ρ h1).bind fun xs h2 => g (x :: (xs ++ dws)) h2 else .bad
  | none => .bad
theorem i_meth (c : Nat) {pl : Sem Bool} (Fk : Kn T X.prog X.w X.K X.mg X.base k f fd ps g) (hk : k ≤ n) (G : Gd T X E n) (CL : Cls X.K (T.ca c)) (hm : Meth X.K (T.ca c) m f) (hnm : m ∉ T.fl c) (hb : Binds X.K fd ps ds) (hd : Vals dvs ds) (kd : KVs T dws dvs) (ho : IE T X E o mo) (ha : IA T X E (e :: es) mr)
    (hst : starEach (e :: es) X.env = (false, eval e X.env) :: starEach es X.env := by rfl) (hpl : (backTo pos (starEach es X.env)).any (·.1) = false := by rfl)
    (ht : eval (.Call (.Attribute o m apos) (e :: es) [] pos) X.env = (do
      let ov ← eval o X.env
      standAt apos.atName
      let (f, first) ← holding [ov] (getMethod ov m pl)
      callWith pos f first (backTo pos (starEach (e :: es) X.env)) (backToKw pos (keywordEach [] X.env))) := by rfl) :
    IE T X E (.Call (.Attribute o m apos) (e :: es) [] pos) (mMeth c g dws mo mr) := by
  refine ⟨fun pins s σ H Q I ⟨w, ρ, h, st, en, q⟩ => ?_⟩
  refine PySem.W.methodCall_KW (pl := pl) (thn (ho.run pins s σ H (fun v H1 => ∃ a dx fs w1 h1 z, v = .ref a ∧ H1 a = some (.ins (T.ca c) dx fs) ∧ fs.lookup m = none ∧ StR T w1 h1 H1 ∧ EnvR T w1 ρ σ ∧ VR T w1 z v ∧ Post T (VR T) w1 Q (fun c d H' => E c d σ H') ((mr ρ h1).bind fun xs h2 => g (z :: (xs ++ dws)) h2)) I
    ⟨w, ρ, h, st, en, Post.bind q fun z h1 w1 H1 v le s1 r1 p1 => by
      cases qi : insW h1 z with
      | none => rw [qi] at p1; exact p1.elim
      | some t =>
        obtain ⟨c', vs⟩ := t
        rw [qi] at p1
        dsimp only at p1
        split at p1
        · rename_i hc
          subst hc
          obtain ⟨a, dx, us, rfl, g1, g2, g3⟩ := insW_at s1 r1 qi
          exact ⟨a, dx, _, w1, h1, z, rfl, g1, zip_lookup_none hnm, s1, en.mono le, r1, p1⟩
        · exact p1.elim⟩) fun u s1 ⟨v, H1, I1, rx, a, dx, fs, w1, h1, z, ev, ea, l, st1, en1, rz, q1⟩ => ?_) ht
  subst ev
  obtain rfl : u = Value.ref a := rx
  refine getmeth_ok I1 ea CL hm l ?_
  refine PySem.W.callWith_K (first := [.ref a]) (h₀ := X.base) I.ok.mod.kin hm.kp (thn (ha.run pos pins s1 σ H1 (fun vs H' => ∃ w1 h1 xs, StR T w1 h1 H' ∧ VR T w1 z (.ref a) ∧ VRs T w1 xs vs ∧ Post T (VR T) w1 Q (fun c d H' => E c d σ H') (g (z :: (xs ++ dws)) h1)) I1
    ⟨w1, ρ, h1, st1, en1, Post.bind q1 fun xs h2 w2 H2 vs le2 s2 r2 p2 => ⟨w2, h2, xs, s2, rz.mono le2, r2, p2⟩⟩) fun us s2 ⟨vs, H2, I2, r, w2, h2, xs, st2, rz2, rx2, q2⟩ => ⟨I2.kIn, ?_⟩) hst hpl
  exact call_of (us := .ref a :: us) (vs := .ref a :: vs) (xs := z :: xs) Fk hk G hb hd kd I2 (.cons rfl r) st2 (.cons rz2 rx2) q2
theorem i_meth0 (c : Nat) {pl : Sem Bool} (Fk : Kn T X.prog X.w X.K X.mg X.base k f fd ps g) (hk : k ≤ n) (G : Gd T X E n) (CL : Cls X.K (T.ca c)) (hm : Meth X.K (T.ca c) m f) (hnm : m ∉ T.fl c) (hb : Binds X.K fd ps ds) (hd : Vals dvs ds) (kd : KVs T dws dvs) (ho : IE T X E o mo)
    (ht : eval (.Call (.Attribute o m apos) [] [] pos) X.env = (do
      let ov ← eval o X.env
      standAt apos.atName
      let (f, first) ← holding [ov] (getMethod ov m pl)
      callWith pos f first (backTo pos (starEach [] X.env)) (backToKw pos (keywordEach [] X.env))) := by rfl) :
    IE T X E (.Call (.Attribute o m apos) [] [] pos) (mMeth c g dws mo mNil) := by
  refine ⟨fun pins s σ H Q I ⟨w, ρ, h, st, en, q⟩ => ?_⟩
  refine PySem.W.methodCall_KW (pl := pl) (thn (ho.run pins s σ H (fun v H1 => ∃ a dx fs w1 h1 z, v = .ref a ∧ H1 a = some (.ins (T.ca c) dx fs) ∧ fs.lookup m = none ∧ StR T w1 h1 H1 ∧ VR T w1 z v ∧ Post T (VR T) w1 Q (fun c d H' => E c d σ H') (g (z :: dws) h1)) I
    ⟨w, ρ, h, st, en, Post.bind q fun z h1 w1 H1 v le s1 r1 p1 => by
      cases qi : insW h1 z with
      | none => rw [qi] at p1; exact p1.elim
      | some t =>
        obtain ⟨c', vs⟩ := t
        rw [qi] at p1
        dsimp only at p1
        split at p1
        · rename_i hc
          subst hc
          obtain ⟨a, dx, us, rfl, g1, g2, g3⟩ := insW_at s1 r1 qi
          exact ⟨a, dx, _, w1, h1, z, rfl, g1, zip_lookup_none hnm, s1, r1, p1⟩
        · exact p1.elim⟩) fun u s1 ⟨v, H1, I1, rx, a, dx, fs, w1, h1, z, ev, ea, l, st1, rz, q1⟩ => ?_) ht
  subst ev
  obtain rfl : u = Value.ref a := rx
  refine getmeth_ok I1 ea CL hm l ?_
  exact PySem.W.callWith_K0 (first := [.ref a]) I1.kIn hm.kp (call_of (us := [.ref a]) (vs := [.ref a]) (xs := [z]) Fk hk G hb hd kd I1 (.cons rfl .nil) st1 (.cons rz .nil) q1)
/-- what raises nothing -/
def noX {α : Type} (m : R α) : R α := match m with
  | .exc _ _ _ => .bad
  | m => m
theorem noX_of {α β : Type} {rel : Wd → α → β → Prop} {w : Wd} {Q : β → Hp → Prop} {E E' : XK} {m : R α} (p : Post T rel w Q E (noX m)) : Post T rel w Q E' m := by
  cases m with
  | ok x h => exact p
  | _ => exact p.elim
theorem passes_no : Passes (L2.CX X.prog X.w) X (fun _ _ _ => False) := fun pins σ H s e s' _ ⟨_, _, _, _, _, _, _, _, _, _, _, _, z⟩ => z.elim
/-- e.f, a property -/
def mProp (c : Nat) (g : Fn) (m : ME) : ME := fun ρ h => (m ρ h).bind fun x h1 => match insW h1 x with
  | some (c', _) => if c' = c then noX (g [x] h1) else .bad
  | none => .bad
theorem i_prop (c : Nat) {pp : Addr} (Fk : Kn T X.prog X.w X.K X.mg X.base k f fd ps g) (hk : k + 1 ≤ n) (G : Gd T X E n) (CL : Cls X.K (T.ca c)) (hp : PropOf X.K (T.ca c) fn pp f) (hb : Binds X.K fd ps []) (he : IE T X E e m') (hab : attributeBase e fn X.env (eval e X.env) = eval e X.env := by rfl) :
    IE T X E (.Attribute e fn pos) (mProp c g m') :=
  PE.imp (pe_prop he CL hp Fk.ok (G.room.mono hk) hb .nil (fun pins σ H s e s' _ ⟨_, _, _, _, _, _, _, _, _, _, _, _, z⟩ => (z : False).elim) hab) fun σ H Q ⟨w, ρ, h, s, en, p⟩ => ⟨w, ρ, h, s, en, Post.bind p fun x h1 w1 H1 v le s1 r1 p1 => by
    cases qi : insW h1 x with
    | none => rw [qi] at p1; exact p1.elim
    | some t =>
      obtain ⟨c', vs⟩ := t
      rw [qi] at p1
      dsimp only at p1
      split at p1
      · rename_i hc
        subst hc
        obtain ⟨a, dx, us, rfl, g1, g2, g3⟩ := insW_at s1 r1 qi
        exact ⟨a, dx, _, rfl, g1, sp_of' Fk.ar s1 (.cons r1 .nil) (noX_of p1)⟩
      · exact p1.elim⟩

/-! ### operators of a class's own -/
def mOpH (f : W → W → List Cell → R W) (ma mb : ME) : ME := fun ρ h => (ma ρ h).bind fun x h1 => (mb ρ h1).bind fun y h2 => f x y h2
def OpHI (T : Tab) (f : W → W → List Cell → R W) (r : R2) : Prop := ∀ (w : Wd) (h : List Cell) (H : Hp) (x y : W) (v u : V) (Q : VK) (E : XK), StR T w h H → VR T w x v → VR T w y u → Post T (VR T) w Q E (f x y h) → r v u H Q
theorem tOpH_of {f : W → W → List Cell → R W} {r : R2} (o : OpHI T f r) {σ : L2.St} {H : Hp} {Q : VK} (q : teI T E (mOpH f ma mb) σ H Q) : tOp r (teI T E ma) (teI T E mb) σ H Q := by
  obtain ⟨w, ρ, h, s, en, p⟩ := q
  exact ⟨w, ρ, h, s, en, Post.bind p fun x h1 w1 H1 v le s1 r1 p1 => ⟨w1, ρ, h1, s1, en.mono le, Post.bind p1 fun y h2 w2 H2 u le2 s2 r2 p2 => o w2 h2 H2 x y v u Q _ s2 (r1.mono le2) r2 p2⟩⟩
/-- both are instances of the class c -/
def fOwn (c : Nat) (g : Fn) : W → W → List Cell → R W := fun x y h => match insW h x, insW h y with
  | some (c1, _), some (c2, _) => if c1 = c ∧ c2 = c then noX (g [x, y] h) else .bad
  | _, _ => .bad
def rOwn (T : Tab) (c : Nat) (g : Fn) : R2 := fun x y H Q => ∃ a b dx dy fs gs, x = .ref a ∧ y = .ref b ∧ H a = some (.ins (T.ca c) dx fs) ∧ H b = some (.ins (T.ca c) dy gs) ∧ spI T 2 g [x, y] H Q (fun _ _ _ => False)
theorem o_own (c : Nat) (ar : Arity g 2) : OpHI T (fOwn c g) (rOwn T c g) := fun w h H x y v u Q E s r1 r2 p => by
  unfold fOwn at p
  cases q1 : insW h x with
  | none => rw [q1] at p; exact p.elim
  | some t =>
    obtain ⟨c1, vs⟩ := t
    cases q2 : insW h y with
    | none => rw [q1, q2] at p; exact p.elim
    | some t2 =>
      obtain ⟨c2, vs2⟩ := t2
      rw [q1, q2] at p
      dsimp only at p
      split at p
      · rename_i hc
        obtain ⟨rfl, rfl⟩ := hc
        obtain ⟨a, dx, us, rfl, g1, _⟩ := insW_at s r1 q1
        obtain ⟨b, dy, us2, rfl, g2, _⟩ := insW_at s r2 q2
        exact ⟨a, b, dx, dy, _, _, rfl, rfl, g1, g2, sp_of' ar s (.cons r1 (.cons r2 .nil)) (noX_of p)⟩
      · exact p.elim
theorem run_own {pins : List (Addr × Obj)} {σ : L2.St} {H : Hp} {s : Shared} {Q : VK} {a b : Addr} (Fk : Kn T X.prog X.w X.K X.mg X.base k f fd ps g) (hk : k ≤ n) (hr : Room n X.A) (h2 : ps.length = 2) (hb : Binds X.K fd ps []) (I : Inv X pins σ H s) (h : spI T 2 g [.ref a, .ref b] H Q (fun _ _ _ => False)) :
    wpAny (model X.prog X.w) X.A (call (.ref f) [.ref a, .ref b]) (PySem.W.CmpBack (EP X pins σ Q)) X.xe s := by
  refine wpAny_mono (run_fn (us := [.ref a, .ref b]) (vs := [.ref a, .ref b]) Fk.ok (hr.mono hk) hb .nil passes_no I (.cons rfl (.cons rfl .nil)) (by rw [h2]; exact h)) (fun v s' hv => ?_) fun _ _ z => z
  obtain ⟨z, H', I', rz, q⟩ := hv
  cases v with
  | notImplemented =>
    cases z with
    | non => cases rz
    | bl _ => cases rz
    | int _ => obtain ⟨_, e⟩ := rz; cases e
    | str _ => obtain ⟨_, e⟩ := rz; cases e
    | byt _ => obtain ⟨_, e⟩ := rz; cases e
    | flt _ => obtain ⟨_, e⟩ := rz; cases e
    | ref _ => cases rz
    | ty _ => cases rz
  | _ => exact ⟨z, H', I', rz, q⟩
theorem op_ownC (c : Nat) {op : CmpOp} (hop : ∀ u v, compareOp op u v = richCompare op u v) (Fk : Kn T X.prog X.w X.K X.mg X.base k f fd ps g) (hk : k ≤ n) (hr : Room n X.A) (h2 : ps.length = 2) (hb : Binds X.K fd ps []) (hs : PySem.W.findIn X.K (.ref (T.ca c)) (cmpInfo op).2.1 = some (some (.ref f))) (hf : PySem.W.isFn X.K (.ref f) = true) :
    OpR X (compareOp op) (rOwn T c g) := by
  intro pins s σ H x y u v Q I rx ry d
  obtain ⟨a, b, dx, dy, fs, gs, rfl, rfl, ha, hb', hsp⟩ := d
  cases rx
  cases ry
  obtain ⟨mA, J, _⟩ := ins_get I.hok ha
  obtain ⟨mB, J', _⟩ := ins_get I.hok hb'
  obtain ⟨od, J, _⟩ := J.look
  obtain ⟨od', J', _⟩ := J'.look
  obtain ⟨m, hF⟩ := I.fr
  rw [hop]
  exact PySem.W.cmp_K (op := op) (tb := .ref (T.ca c)) hr.units0 hF I.ok.mod.kin J J'.type (by simp [PySem.W.notFirst]) hs hf (run_own Fk hk hr h2 hb I hsp)
theorem op_ownB (c : Nat) {op : Operator} (Fk : Kn T X.prog X.w X.K X.mg X.base k f fd ps g) (hk : k ≤ n) (hr : Room n X.A) (h2 : ps.length = 2) (hb : Binds X.K fd ps []) (hc : PySem.W.selfFirst X.K (T.ca c) = true) (hs : PySem.W.findIn X.K (.ref (T.ca c)) (PySem.dunder op.info.2) = some (some (.ref f))) (hf : PySem.W.isFn X.K (.ref f) = true) :
    OpR X (binaryOp op) (rOwn T c g) := by
  intro pins s σ H x y u v Q I rx ry d
  obtain ⟨a, b, dx, dy, fs, gs, rfl, rfl, ha, hb', hsp⟩ := d
  cases rx
  cases ry
  obtain ⟨mA, J, _⟩ := ins_get I.hok ha
  obtain ⟨mB, J', _⟩ := ins_get I.hok hb'
  obtain ⟨od, J, _⟩ := J.look
  obtain ⟨od', J', _⟩ := J'.look
  obtain ⟨m, hF⟩ := I.fr
  exact PySem.W.binop_K (op := op) hF I.ok.mod.kin J J'.type hc hs hf (run_own Fk hk hr h2 hb I hsp)
theorem i_cmpO (c : Nat) {op : CmpOp} (Fk : Kn T X.prog X.w X.K X.mg X.base k f fd ps g) (hk : k ≤ n) (G : Gd T X E n) (h2 : ps.length = 2) (hb : Binds X.K fd ps []) (hs : PySem.W.findIn X.K (.ref (T.ca c)) (cmpInfo op).2.1 = some (some (.ref f))) (hf : PySem.W.isFn X.K (.ref f) = true) (hop : ∀ u v, compareOp op u v = richCompare op u v)
    (hm : behindInMarks op b = false) (ha : IE T X E a ma) (hb' : IE T X E b mb) : IE T X E (.Compare a [op] [b] pos) (mOpH (fOwn c g) ma mb) := PE.imp (pe_cmpR (op_ownC c hop Fk hk G.room h2 hb hs hf) ha hb' hm) fun _ _ _ q => tOpH_of (o_own c (h2 ▸ Fk.ar)) q
theorem it_cmpO (c : Nat) {op : CmpOp} (Fk : Kn T X.prog X.w X.K X.mg X.base k f fd ps g) (hk : k ≤ n) (G : Gd T X E n) (h2 : ps.length = 2) (hb : Binds X.K fd ps []) (hs : PySem.W.findIn X.K (.ref (T.ca c)) (cmpInfo op).2.1 = some (some (.ref f))) (hf : PySem.W.isFn X.K (.ref f) = true) (hop : ∀ u v, compareOp op u v = richCompare op u v)
    (hm : behindInMarks op b = false) (ha : IE T X E a ma) (hb' : IE T X E b mb) : IT T X E (.Compare a [op] [b] pos) (mTst (mOpH (fOwn c g) ma mb)) := PT.imp (pt_cmpR (op_ownC c hop Fk hk G.room h2 hb hs hf) ha hb' hm) fun _ _ _ q => tTest_of (fun _ _ _ q => tOpH_of (o_own c (h2 ▸ Fk.ar)) q) q
theorem i_opO (c : Nat) {op : Operator} (Fk : Kn T X.prog X.w X.K X.mg X.base k f fd ps g) (hk : k ≤ n) (G : Gd T X E n) (h2 : ps.length = 2) (hb : Binds X.K fd ps []) (hc : PySem.W.selfFirst X.K (T.ca c) = true) (hs : PySem.W.findIn X.K (.ref (T.ca c)) (PySem.dunder op.info.2) = some (some (.ref f))) (hf : PySem.W.isFn X.K (.ref f) = true)
    (ha : IE T X E a ma) (hb' : IE T X E b mb) : IE T X E (.BinOp a op b pos) (mOpH (fOwn c g) ma mb) := PE.imp (pe_op (op_ownB c Fk hk G.room h2 hb hc hs hf) ha hb') fun _ _ _ q => tOpH_of (o_own c (h2 ▸ Fk.ar)) q

/-! ### isinstance -/
inductive Tg where
  | bt (b : BT) | own (c : Nat)
  deriving DecidableEq
def Tg.val (T : Tab) : Tg → Value
  | .bt b => .type b.name
  | .own c => .ref (T.ca c)
/-- what an instance's class must say -/
structure InsF (T : Tab) (c : Nat) : Prop where
  cl : Cls T.K (T.ca c)
  ha : PySem.W.findIn T.K (.ref (T.ca c)) "__class__" = some (some (.builtin "object.__class__"))
  hn : PySem.W.specialIn T.K (.builtin "object.__class__") "__get__" = some (some (.builtin "getset_descriptor.__get__"))
  ht : PySem.W.takesIn T.K (.builtin "object.__class__") = some true
  hm : PySem.W.mroIn T.K (T.ca c) (.type "object") = some true
structure IsiOk (T : Tab) (isi : Tg → Tg → Option Bool) : Prop where
  kit : ∀ t u b, isi t u = some b → PySem.W.kitOne T.K (t.val T) (u.val T) = some b
  ins : ∀ c u b, isi (.own c) u = some b → InsF T c
def tagW (h : List Cell) : W → Option Tg
  | .non => some (.bt .none)
  | .bl _ => some (.bt .bool)
  | .int _ => some (.bt .int)
  | .str _ => some (.bt .str)
  | .tup _ => some (.bt .tuple)
  | .lst _ => some (.bt .list)
  | .scr _ => some (.bt .list)
  | .ins c _ => some (.own c)
  | .dk _ _ => some (.bt .dict)
  | .dt _ _ => some (.bt .dict)
  | .loc n => match h[n]? with
    | some (.lst _) => some (.bt .list)
    | some (.dk _) => some (.bt .dict)
    | some (.dt _) => some (.bt .dict)
    | some (.ins c _) => some (.own c)
    | _ => none
  | _ => none
theorem tagW_ok {w : Wd} {h : List Cell} {H : Hp} (s : StR T w h H) {x : W} {v : V} {t : Tg} (r : VR T w x v) (e : tagW h x = some t) (hi : ∀ c, t = .own c → InsF T c) : TyX T.K H v (t.val T) := by
  cases x with
  | non => cases r; cases e; exact .base .non
  | bl b => cases r; cases e; exact .base (.bl b)
  | int b => cases r; cases e; exact .base (.int b)
  | str b => cases r; cases e; exact .base (.str b)
  | tup l =>
    cases e
    rcases r with ⟨a, rfl, q⟩ | q
    · obtain ⟨vs, h1, h2⟩ := s.fz a _ q
      exact .base (.tup h1)
    · cases q with
      | tup _ k1 k2 =>
        obtain ⟨o, its, nn, k1, k3, _⟩ := k1
        exact .kTuple k1 k3
  | lst l =>
    cases e
    obtain ⟨a, vs, rfl, h1, h2⟩ := lst_at s r
    exact .base (.lst h1)
  | scr l =>
    cases e
    rcases r with ⟨a, rfl, q⟩ | q
    · obtain ⟨vs, h1, h2⟩ := s.fz a _ q
      rcases h1 with h1 | ⟨o, h1⟩
      · exact .base (.lst h1)
      · exact .base (.frz h1)
    · cases q with
      | scr k1 k2 =>
        obtain ⟨o, its, nn, k1, k3, _⟩ := k1
        exact .kList k1 k3
  | ins c vs =>
    cases e
    obtain ⟨a, dx, us, rfl, g1, _⟩ := insW_at s r (rfl : insW h (.ins c vs) = some (c, vs))
    have F := hi c rfl
    exact .base (.ins g1 F.cl F.ha F.hn F.ht F.hm)
  | dk ks vs =>
    cases e
    obtain ⟨a, rfl, q⟩ := r
    obtain ⟨us, h1, _⟩ := s.fz a _ q
    exact .base (.dK h1)
  | dt ks vs =>
    cases e
    obtain ⟨a, rfl, q⟩ := r
    obtain ⟨us, h1, _⟩ := s.fz a _ q
    exact .base (.dT h1)
  | loc n =>
    unfold tagW at e
    dsimp only at e
    cases q : h[n]? with
    | none => rw [q] at e; cases e
    | some d =>
      rw [q] at e
      obtain ⟨a, rfl, _, co⟩ := loc_at s r q
      cases d with
      | lst l => cases e; obtain ⟨vs, h1, _⟩ := co; exact .base (.lst h1)
      | dk l => cases e; obtain ⟨vs, h1, _⟩ := co; exact .base (.dK h1)
      | dt l => cases e; obtain ⟨vs, h1, _⟩ := co; exact .base (.dT h1)
      | ins c vs =>
        cases e
        obtain ⟨dx, us, h1, _⟩ := co
        have F := hi c rfl
        exact .base (.ins h1 F.cl F.ha F.hn F.ht F.hm)
      | dead => cases e
  | _ => cases e
def clsW : W → Option Tg
  | .ty b => some (.bt b)
  | .cls c => some (.own c)
  | _ => none
def clsWs : List W → Option (List Tg)
  | [] => some []
  | c :: cs => match clsW c, clsWs cs with
    | some u, some us => some (u :: us)
    | _, _ => none
def isiAny (isi : Tg → Tg → Option Bool) (t : Tg) : List Tg → Option Bool
  | [] => some false
  | u :: us => match isi t u with
    | some true => some true
    | some false => isiAny isi t us
    | none => none
def isiTup (isi : Tg → Tg → Option Bool) (t : Tg) : List W → Option Bool
  | [] => none
  | c :: cs => match clsWs (c :: cs) with
    | some us => isiAny isi t us
    | none => none
def isiW (isi : Tg → Tg → Option Bool) (h : List Cell) (x c : W) : Option Bool := match tagW h x with
  | some t => (match c with
    | .tup cs => isiTup isi t cs
    | _ => (match clsW c with
      | some u => isi t u
      | none => none))
  | none => none
def fIsi (isi : Tg → Tg → Option Bool) : FA := fun xs h => match xs with
  | [x, c] => (match isiW isi h x c with
    | some b => some (.bl b)
    | none => none)
  | _ => none
theorem clsW_ok {w : Wd} {c : W} {v : V} {u : Tg} (r : VR T w c v) (e : clsW c = some u) : ClsV v (u.val T) := by
  cases c with
  | ty b => cases r; cases e; exact .ty _
  | cls c => cases r; cases e; exact .own _
  | _ => cases e
theorem clsWs_ok {w : Wd} : ∀ {cs : List W} {vs : List V} {us : List Tg}, VRs T w cs vs → clsWs cs = some us → Paired ClsV vs (us.map (Tg.val T))
  | [], _, _, .nil, e => by cases e; exact .nil
  | c :: cs, _, us, .cons r1 r2, e => by
    unfold clsWs at e
    cases q : clsW c with
    | none => rw [q] at e; cases e
    | some u =>
      cases q2 : clsWs cs with
      | none => rw [q, q2] at e; cases e
      | some us' =>
        rw [q, q2] at e
        cases e
        exact .cons (clsW_ok r1 q) (clsWs_ok r2 q2)
theorem isiAny_ok {isi : Tg → Tg → Option Bool} (ok : IsiOk T isi) {t : Tg} : ∀ {us : List Tg} {b : Bool}, isiAny isi t us = some b → PySem.W.kitAny T.K (t.val T) (us.map (Tg.val T)) = some b
  | [], b, e => by cases e; exact kitAny_nil
  | u :: us, b, e => by
    unfold isiAny at e
    cases q : isi t u with
    | none => rw [q] at e; cases e
    | some k =>
      rw [q] at e
      have q' := ok.kit t u k q
      cases k with
      | true => cases e; exact kitAny_cons q' (fun z => by cases z) (fun _ => rfl)
      | false => exact kitAny_cons q' (fun _ => isiAny_ok ok e) (fun z => by cases z)
theorem isiTup_ne {isi : Tg → Tg → Option Bool} {t : Tg} {cs : List W} {b : Bool} (e : isiTup isi t cs = some b) : ∃ u us, clsWs cs = some (u :: us) ∧ isiAny isi t (u :: us) = some b := by
  cases cs with
  | nil => cases e
  | cons c cs =>
    have e : (match clsWs (c :: cs) with | some us => isiAny isi t us | none => none) = some b := e
    cases q : clsWs (c :: cs) with
    | none => rw [q] at e; cases e
    | some us =>
      rw [q] at e
      cases us with
      | nil =>
        unfold clsWs at q
        cases q1 : clsW c with
        | none => rw [q1] at q; cases q
        | some u => cases q2 : clsWs cs with
          | none => rw [q1, q2] at q; cases q
          | some us => rw [q1, q2] at q; cases q
      | cons u us => exact ⟨u, us, rfl, e⟩
theorem isiAny_first {isi : Tg → Tg → Option Bool} (ok : IsiOk T isi) {t u : Tg} {us : List Tg} {b : Bool} (e : isiAny isi t (u :: us) = some b) : ∀ d, t = .own d → InsF T d := by
  intro d ed
  subst ed
  unfold isiAny at e
  cases q : isi (.own d) u with
  | none => rw [q] at e; cases e
  | some k => exact ok.ins d u k q
def rIsiA (K : PySem.W.Frag) : List V → Hp → VK → Prop := fun xs H Q => rIsi K xs H Q ∨ rIsiT K xs H Q ∨ rIsiK K xs H Q
theorem call_isiA : CallR X (.builtin "isinstance") (rIsiA X.K) := fun pins s σ H xs us Q I r q => q.elim (call_isi pins s σ H xs us Q I r) fun q => q.elim (call_isiT pins s σ H xs us Q I r) (call_isiK pins s σ H xs us Q I r)
theorem c_isi {isi : Tg → Tg → Option Bool} (ok : IsiOk T isi) : CallI T (fIsi isi) (rIsiA T.K) := fun w h H xs vs z Q s r e q => by
  unfold fIsi at e
  split at e
  · rename_i x c
    cases q1 : isiW isi h x c with
    | none => rw [q1] at e; cases e
    | some b =>
      rw [q1] at e
      cases e
      obtain ⟨v, u, rfl, r1, r2⟩ := all2 r
      have fin : Q (.bl b) H := q w H _ (Le.refl w) s rfl
      cases et : tagW h x with
      | none => unfold isiW at q1; rw [et] at q1; cases q1
      | some t =>
        unfold isiW at q1
        rw [et] at q1
        cases c with
        | tup cs =>
          obtain ⟨t1, ts, qc, qa⟩ := isiTup_ne (show isiTup isi t cs = some b from q1)
          have ty := tagW_ok s r1 et (isiAny_first ok qa)
          have ka := isiAny_ok ok qa
          rcases r2 with ⟨a, rfl, qf⟩ | qk
          · obtain ⟨us, g1, g2⟩ := s.fz a _ qf
            exact .inr (.inl ⟨v, a, us, _, _, b, rfl, g1, clsWs_ok g2 qc, ty, ka, fin⟩)
          · cases qk with
            | tup _ k1 k2 =>
              obtain ⟨o, its, nn, l1, l2, l3, l4, l5⟩ := k1
              have pv := clsWs_ok (w := w) k2.vrs qc
              have e1 := ClsV.all pv l5
              obtain ⟨oc, od, dt, sl⟩ := o
              dsimp only at l2 l3
              subst l2 l3
              refine .inr (.inr ⟨v, _, od, (t1 :: ts).map (Tg.val T), nn, sl, _, b, rfl, ?_, ty, ka, fin⟩)
              rw [l1, ← e1]
        | _ =>
          dsimp only at q1
          cases qc : clsW _ with
          | none => rw [qc] at q1; cases q1
          | some ts =>
            rw [qc] at q1
            have ty := tagW_ok s r1 et fun d ed => by subst ed; exact ok.ins d ts b q1
            exact .inl ⟨v, u, _, _, b, rfl, clsW_ok r2 qc, ty, ok.kit t ts b q1, fin⟩
  · cases e
theorem i_isi {isi : Tg → Tg → Option Bool} {p : Pos} (ok : IsiOk T isi) {gb : Bool} (G : Gx T X E n gb) (ha : IE T X E a ma) (hb : IE T X E b mb) (hm : X.mg "isinstance" = none) (hg : Gl X "isinstance" := by rfl) (hs : starEach [a, b] X.env = (false, eval a X.env) :: starEach [b] X.env := by rfl)
    (hs2 : starEach [b] X.env = (false, eval b X.env) :: starEach [] X.env := by rfl) (hpl : (backTo pos (starEach [b] X.env)).any (·.1) = false := by rfl) : IE T X E (.Call (.Name "isinstance" p) [a, b] [] pos) (mCB (fIsi isi) (mCons ma (mCons mb mNil))) :=
  i_cb (c_isi ok) (G.K ▸ call_isiA) hg hm (by decide +kernel) (ia_cons ha (ia_cons hb ia_nil hs2) hs) (by decide +kernel) (by decide +kernel) hs hpl
def isiB : BT → BT → Option Bool
  | _, .none => none
  | .bool, .int => some true
  | a, b => some (decide (a = b))
theorem isiB_ok : ∀ {a b : BT} {r : Bool}, isiB a b = some r → kitB a.name b.name = some r := by
  intro a b r e
  cases a <;> cases b <;> cases e <;> decide +kernel
end
end Fz

namespace Fz
open PySem PySem.Spec PyProof.Rows L2

/-! ### what the head's facts give -/
def fdOf (K : PySem.W.Frag) (f : Addr) : FuncData := match K.lookup f with
  | some ⟨_, _, .func fd, _⟩ => fd
  | _ => PySem.W.fnOf Str.empty Str.empty { posonlyargs := [], args := [], vararg := none, kwonlyargs := [], kw_defaults := [], kwarg := none, defaults := [] } [] { kind := .function, names := [], isGenerator := false, isCoroutine := false } .none .none .none .none none .none .none
theorem fdOf_ok {K : PySem.W.Frag} {x qual : Str} {params : Arguments} {body : List Stmt} {scope : Scope} {dvs : List V} {kws : List (Str × V)} {f : Addr} (h : ∃ fd, FunD K x qual params body scope dvs kws f fd) : FunD K x qual params body scope dvs kws f (fdOf K f) := by
  obtain ⟨fd, F⟩ := h
  obtain ⟨oc, od, dV, kV, doc, pm, an, cdv, ct, osl, e1, e2, r⟩ := F.ex
  have : fdOf K f = fd := by
    unfold fdOf
    rw [e2]
  rw [this]
  exact F
theorem ktp_of {K : PySem.W.Frag} {a : Addr} {vs : List V} (h : SqT K (fun _ => none) a vs) : KTp K a vs := by
  rcases h with (h | ⟨o, h⟩) | h
  · cases h
  · cases h
  · exact h
def insB (K : PySem.W.Frag) (C : Addr) : Bool := He.eqO (PySem.W.findIn K (.ref C) "__class__") (some (some (.builtin "object.__class__"))) && (He.eqO (PySem.W.specialIn K (.builtin "object.__class__") "__get__") (some (some (.builtin "getset_descriptor.__get__")))
  && (decide (PySem.W.takesIn K (.builtin "object.__class__") = some true) && decide (PySem.W.mroIn K C (.type "object") = some true)))
theorem insB_ok {T : Tab} {c : Nat} (cl : Cls T.K (T.ca c)) (h : insB T.K (T.ca c) = true) : InsF T c := by
  obtain ⟨h1, h⟩ := He.ba h
  obtain ⟨h2, h⟩ := He.ba h
  obtain ⟨h3, h4⟩ := He.ba h
  exact ⟨cl, He.eqO_ok h1, He.eqO_ok h2, of_decide_eq_true h3, of_decide_eq_true h4⟩
/-- isinstance by a table -/
def isiT (l : List (Tg × Tg × Bool)) (t u : Tg) : Option Bool := match t, u with
  | .bt a, .bt b => isiB a b
  | t, u => match l.find? fun q => decide (q.1 = t) && decide (q.2.1 = u) with
    | some q => some q.2.2
    | none => none
theorem isiT_find {l : List (Tg × Tg × Bool)} {t u : Tg} {b : Bool} (e : (match l.find? fun q => decide (q.1 = t) && decide (q.2.1 = u) with | some q => some q.2.2 | none => none) = some b) : (t, u, b) ∈ l := by
  cases q : l.find? fun q => decide (q.1 = t) && decide (q.2.1 = u) with
  | none => rw [q] at e; cases e
  | some r =>
    rw [q] at e
    cases e
    have h1 := List.find?_some q
    have h2 := List.mem_of_find?_eq_some q
    rw [Bool.and_eq_true] at h1
    obtain ⟨a, b, c⟩ := r
    have e1 : a = t := of_decide_eq_true h1.1
    have e2 : b = u := of_decide_eq_true h1.2
    subst e1 e2
    exact h2
theorem isiT_ok {T : Tab} {l : List (Tg × Tg × Bool)} {n : Nat} (kit : ∀ q ∈ l, PySem.W.kitOne T.K (q.1.val T) (q.2.1.val T) = some q.2.2) (hl : (l.all fun q => match q.1 with | .own c => decide (c < n) | _ => true) = true) (ins : ∀ c, c < n → InsF T c) : IsiOk T (isiT l) where
  kit := fun t u b e => by
    cases t with
    | bt a =>
      cases u with
      | bt a' => exact kit_ty (isiB_ok e)
      | own c => exact kit _ (isiT_find e)
    | own c => exact kit _ (isiT_find e)
  ins := fun c u b e => by
    have h := List.all_eq_true.mp hl _ (isiT_find (t := .own c) (u := u) (b := b) (by cases u <;> exact e))
    exact ins c (of_decide_eq_true h)
/-! ### defs by their addresses -/
/-- where a def stands, and what it is -/
structure DD where
  adr : PySem.W.Frag → Addr
  d : He.DefD
def fnA (K : PySem.W.Frag) (a : Addr) : He.FnW := match K.lookup a with
  | some ⟨_, _, .func F, _⟩ => some (F.name, F.qualname, F.params, F.body, F.scope, F.globals, F.closure, F.builtins)
  | _ => none
def DD.ok (K : PySem.W.Frag) (q : DD) : Bool := (match K.lookup (q.adr K) with
  | some ⟨_, _, .func F, _⟩ => PySem.W.codeIn K F.code q.d.qual && He.dflB K F.defaults (q.d.dvs K) && He.kwdB K F.kwdefaults (q.d.kws K)
  | _ => false) && PySem.W.keepIn K (.ref (q.adr K))
theorem DD.funD {K : PySem.W.Frag} {q : DD} (e : fnA K (q.adr K) = q.d.val) (c : q.ok K = true) : ∃ fd, FunD K q.d.name q.d.qual q.d.params q.d.body q.d.scope (q.d.dvs K) (q.d.kws K) (q.adr K) fd := by
  obtain ⟨c2, kp⟩ := Bool.and_eq_true_iff.mp c
  unfold fnA at e
  cases hq : K.lookup (q.adr K) with
  | none => rw [hq] at c2; cases c2
  | some z =>
    obtain ⟨zc, zd, zt, zs⟩ := z
    rw [hq] at c2 e
    cases zt with
    | func F =>
      obtain ⟨m1, m2, m3, m4, m5, m6, m7, m8, m9, m10, m11, m12, m13, m14, m15⟩ := F
      have e2 : (some (m1, m2, m3, m4, m5, m6, m7, m15) : He.FnW) = some (q.d.name, q.d.qual, q.d.params, .stmts q.d.body, q.d.scope, mainGlobals, [], builtinsNs) := e
      simp only [Option.some.injEq, Prod.mk.injEq] at e2
      obtain ⟨g1, g2, g3, g4, g5, g6, g7, g8⟩ := e2
      subst g1 g2 g3 g4 g5 g6 g7 g8
      obtain ⟨c3, c4⟩ := Bool.and_eq_true_iff.mp (show (PySem.W.codeIn K m13 q.d.qual && He.dflB K m8 (q.d.dvs K) && He.kwdB K m9 (q.d.kws K)) = true from c2)
      obtain ⟨c5, c6⟩ := Bool.and_eq_true_iff.mp c3
      exact ⟨_, ⟨zc, zd, m8, m9, m10, m11, m12, m13, m14, zs, rfl, hq, c5, He.dflB_ok c6, He.kwdB_ok c4⟩, kp⟩
    | _ => cases c2
/-- the getter of a property -/
def prG (K : PySem.W.Frag) (x f : Str) : Addr := match PySem.W.recIn K (He.ma K (He.ga K x) f) "property" with
  | some (.ref g :: _) => g
  | _ => 0
def propB (K : PySem.W.Frag) (x f : Str) : Bool := He.eqO (PySem.W.findIn K (.ref (He.ga K x)) f) (some (some (.ref (He.ma K (He.ga K x) f)))) && (He.eqO (PySem.W.specialIn K (.ref (He.ma K (He.ga K x) f)) "__get__") (some (some (.builtin "property.__get__")))
  && (decide (PySem.W.takesIn K (.ref (He.ma K (He.ga K x) f)) = some true) && (match PySem.W.recIn K (He.ma K (He.ga K x) f) "property" with
    | some (.ref _ :: _) => true
    | _ => false)))
theorem propB_ok {K : PySem.W.Frag} {x f : Str} (h : propB K x f = true) : PropOf K (He.ga K x) f (He.ma K (He.ga K x) f) (prG K x f) := by
  obtain ⟨h1, h⟩ := He.ba h
  obtain ⟨h2, h⟩ := He.ba h
  obtain ⟨h3, h4⟩ := He.ba h
  refine ⟨He.eqO_ok h1, He.eqO_ok h2, of_decide_eq_true h3, ?_⟩
  unfold prG
  split at h4
  · rename_i g r e
    exact ⟨r, by rw [e]⟩
  · cases h4
/-! ### the hook -/
def obsX (facts : PySem.W.Frag → List Bool) (fn : List DD) (K : PySem.W.Frag) : He.AlD := (((facts K).all fun b => b) && fn.all fun d => d.ok K, fn.map fun d => fnA K (d.adr K))
def valX (fn : List DD) : He.AlD := (true, fn.map fun d => d.d.val)
def FxSays (facts : PySem.W.Frag → List Bool) (fn : List DD) (K : PySem.W.Frag) : Prop := obsX facts fn K = valX fn
def obsXG (n : Nat) (facts : PySem.W.Frag → List Bool) (fn : List DD) (g : Addr → Option Obj) : He.AlD := obsX facts fn (He.frG g (cStatics :: He.asD g n))
def hookX (n : Nat) (facts : PySem.W.Frag → List Bool) (fn : List DD) : PySem.W.Hook where
  α := He.AlD
  obs := fun s => obsXG n facts fn s.heap.get?
  val := fun _ => valX fn
  says := fun _ h => ∃ K : PySem.W.Frag, K.In h ∧ FxSays facts fn K
  of := fun _ _ e => ⟨_, He.frG_in, e⟩
  keeps := fun _ _ _ ⟨K, hK, c⟩ k => ⟨K, PySem.W.Frag.In.keeps hK k, c⟩
theorem obsXG_eq {n : Nat} {facts : PySem.W.Frag → List Bool} {fn : List DD} {g : Addr → Option Obj} {s : Shared} (h : ∀ a, g a = s.heap.get? a) : obsXG n facts fn g = (hookX n facts fn).obs s := by
  have e : g = s.heap.get? := funext h
  rw [e] <;> rfl
section
variable {facts : PySem.W.Frag → List Bool} {fn : List DD} {K : PySem.W.Frag}
theorem FxSays.fact (c : FxSays facts fn K) (i : Nat) {b : Bool} (h : (facts K)[i]? = some b) : b = true := by
  have c1 := (He.ba (show (((facts K).all fun b => b) && fn.all fun d => d.ok K) = true from congrArg (fun z : He.AlD => z.1) c)).1
  exact List.all_eq_true.mp c1 b (List.mem_of_getElem? h)
theorem FxSays.def_ (c : FxSays facts fn K) (i : Nat) {d : DD} (h : fn[i]? = some d) : ∃ fd, FunD K d.d.name d.d.qual d.d.params d.d.body d.d.scope (d.d.dvs K) (d.d.kws K) (d.adr K) fd := by
  have c2 := (He.ba (show (((facts K).all fun b => b) && fn.all fun d => d.ok K) = true from congrArg (fun z : He.AlD => z.1) c)).2
  have e : fn.map (fun d => fnA K (d.adr K)) = fn.map (fun d => d.d.val) := congrArg (fun z : He.AlD => z.2) c
  have e2 := congrArg (fun l => l[i]?) e
  rw [List.getElem?_map, List.getElem?_map, h] at e2
  exact DD.funD (Option.some.inj e2) (List.all_eq_true.mp c2 d (List.mem_of_getElem? h))
end
/-! ### the law's end -/
/-- the law holds if its meaning gives True for every script -/
theorem law_sp {T : Tab} {g : Fn} {ns : List Int} {a : Addr} {H : Hp} (hg : ∀ ns : List Int, ns.length ≤ 63 → ∃ h, g [.scr (ns.map .int)] [] = .ok (.bl true) h) (hl : ns.length ≤ 63) (hS : SqL T.K H a (ns.map V.int)) : spI T 1 g [.ref a] H (fun v _ => v = .bl true) fun _ _ _ => False := by
  have vints : ∀ (w : Wd) (ns : List Int), VRs T w (ns.map .int) (ns.map V.int) := fun w ns => by
    induction ns with
    | nil => exact .nil
    | cons i ns ih => exact .cons rfl ih
  have kvints : ∀ (ns : List Int), KVs T (ns.map .int) (ns.map V.int) := fun ns => by
    induction ns with
    | nil => exact .nil
    | cons i ns ih => exact .cons .int ih
  obtain ⟨h, e⟩ := hg ns hl
  have nilw : StR T ⟨[], fun _ => none⟩ [] H := ⟨(fun a o e => by cases e), rfl, List.nodup_nil, (fun n c a e => by simp at e)⟩
  rcases hS with hS | hS
  · let w : Wd := ⟨[], fun b => if b = a then some (.scr (ns.map .int)) else none⟩
    refine ⟨w, [], [.scr (ns.map .int)], ⟨fun b o eb => ?_, rfl, List.nodup_nil, (fun n c a e => by simp at e)⟩, .cons (.inl ⟨a, rfl, if_pos rfl⟩) .nil, rfl, ?_⟩
    · have eb : (if b = a then some (FO.scr (ns.map .int)) else none) = some o := eb
      split at eb
      · rename_i hb
        cases eb
        subst hb
        exact ⟨_, hS, vints _ _⟩
      · cases eb
    · rw [e]
      exact fun w' H' v _ _ r => r
  · refine ⟨_, [], [.scr (ns.map .int)], nilw, .cons (.inr (.scr hS (kvints ns))) .nil, rfl, ?_⟩
    rw [e]
    exact fun w' H' v _ _ r => r
theorem fn_cx {P : Program} {w : World} {K : PySem.W.Frag} {mg : Str → Option Value} {base : Heap} {CX CX' : CXT} {k : Nat} {f : Addr} {fd : FuncData} {ps : List Str} {sp : Sp} (F : FnOk P w K mg base CX k f fd ps sp) (h : ∀ l H s E e s', CX l H s E e s' → CX' l H s E e s') : FnOk P w K mg base CX' k f fd ps sp :=
  ⟨F.len, fun A outer s H args us vs Q E hr e0 hb r hsp => codeAny_mono (F.run A outer s H args us vs Q E hr e0 hb r hsp) fun r s' hq => by
    cases r with
    | error e => exact h _ _ _ _ _ _ hq
    | ok fl => cases fl <;> exact hq⟩
/-- an exception leaves the law's def, in some world -/
def CXe (P : Program) : CXT := fun l H s E e s' => ∃ w, L2.CX P w l H s E e s'
theorem cxe_no {P : Program} {H : Hp} {s s' : Shared} {e : Value} (h : CXe P [] H s (fun _ _ _ => False) e s') : False := by
  obtain ⟨w, _, _, _, _, _, _, _, _, _, _, _, _, z⟩ := h
  exact z
end Fz

namespace Fz
open PySem PySem.Spec PyProof.Rows L2
section
variable {T : Tab} {X : Cx} {E : WX} {n k : Nat} {a b e o : Expr} {es : List Expr} {ma mb mo m' : ME} {mr mk : MA} {pos p apos : Pos} {f C : Addr} {fd : FuncData} {ps : List Str} {g : Fn} {x m fn : Str} {dws : List W} {dvs : List V} {ds : List Value} {kk : Nat}
/-- the greater and the less of two ints -/
def fMax : FA := fun xs _ => match xs with
  | [.int i, .int j] => some (.int (if j > i then j else i))
  | _ => none
theorem c_max : CallI T fMax (fun xs H Q => ∃ i j, xs = [.int i, .int j] ∧ Q (.int (if j > i then j else i)) H) := fun w h H xs vs z Q s r e q => by
  unfold fMax at e
  split at e
  · cases e
    cases r with
    | cons r1 r2 =>
      cases r2 with
      | cons r3 r4 =>
        cases r4
        cases r1
        cases r3
        exact ⟨_, _, rfl, q w H _ (Le.refl w) s rfl⟩
  · cases e
theorem i_max2 {p : Pos} (G : Gd T X E n) (ha : IE T X E a ma) (hb : IE T X E b mb) (hm : X.mg "max" = none) (hg : Gl X "max" := by rfl) (hs : starEach [a, b] X.env = (false, eval a X.env) :: starEach [b] X.env := by rfl)
    (hs2 : starEach [b] X.env = (false, eval b X.env) :: starEach [] X.env := by rfl) (hpl : (backTo pos (starEach [b] X.env)).any (·.1) = false := by rfl) : IE T X E (.Call (.Name "max" p) [a, b] [] pos) (mCB fMax (mCons ma (mCons mb mNil))) :=
  i_cb (c_max (T := T)) (call_max2 G.calm) hg hm (by decide +kernel) (ia_cons ha (ia_cons hb ia_nil hs2) hs) (by decide +kernel) (by decide +kernel) hs hpl
/-! ### keywords in the last places -/
theorem run_fnK {ks : List Str} {j : Nat} {pins : List (Addr × Obj)} {σ : L2.St} {H : Hp} {s : Shared} {Q : VK} {us ws : List Value} {vs zs : List V} {sp : Sp} (F : FnOk X.prog X.w X.K X.mg X.base (L2.CX X.prog X.w) k f fd ps sp) (hr : Room k X.A)
    (hb : KBn X.K fd ps j ks (fun us ws => us ++ ws) (fun vs zs => vs ++ zs)) (tk : Takes X E) (I : Inv X pins σ H s) (r : Vals vs us) (rz : Vals zs ws) (l1 : vs.length = j) (l2 : zs.length = ks.length)
    (h : sp (vs ++ zs) H Q (fun c d H' => E c d σ H')) : wpAny (model X.prog X.w) X.A (call (.ref f) us (ks.zip ws)) (EP X pins σ Q) X.xe s := by
  refine wpAny_call (codeAny_mono (F.run X.A X.stack s H ⟨us, ks.zip ws⟩ (us ++ ws) (vs ++ zs) Q _ hr I.env0 (hb.to s us ws I.kIn (r.length.symm.trans l1) (rz.length.symm.trans l2)) (hb.rel r rz) h) fun r s' hq => ?_)
  cases r with
  | error e => exact passAt tk σ pins H s e s' I hq
  | ok fl =>
    cases fl with
    | ret u => exact I.after hq
    | next => exact False.elim hq
    | brk => exact False.elim hq
    | cont => exact False.elim hq
def mCallK (g : Fn) (n j : Nat) (mr mk : MA) : ME := fun ρ h => (mr ρ h).bind fun xs h1 => (mk ρ h1).bind fun ys h2 => if xs.length = n ∧ ys.length = j then g (xs ++ ys) h2 else .bad
theorem i_callK {ks : List Str} {kws : List Keyword} {j : Nat} (Fk : Kn T X.prog X.w X.K X.mg X.base k f fd ps g) (hk : k ≤ n) (G : Gd T X E n) (hm : X.mg x = some (.ref f)) (hb : KBn X.K fd ps j ks (fun us ws => us ++ ws) (fun vs zs => vs ++ zs))
    (ha : IA T X E (e :: es) mr) (hkw : IK T X E kws mk) (hall : (backToKw pos (keywordEach kws X.env)).all (·.1.isSome) = true := by rfl) (hks : (backToKw pos (keywordEach kws X.env)).filterMap (·.1) = ks := by rfl) (hg : Gl X x := by rfl)
    (hdb : (x == ("__debug__" : Str)) = false := by decide +kernel) (he : starEach (e :: es) X.env = (false, eval e X.env) :: starEach es X.env := by rfl)
    (hpl : ((backTo pos (starEach (e :: es) X.env)).any (·.1) || (backToKw pos (keywordEach kws X.env)).any (·.1.isNone)) = false := by rfl) :
    IE T X E (.Call (.Name x p) (e :: es) kws pos) (mCallK g j ks.length mr mk) := by
  refine ⟨fun pins s σ H Q I ⟨w, ρ, h, st, en, q⟩ => ?_⟩
  refine wpAny_Call_Name_kw (ld_glob I hg hm ?_ hdb)
  refine PySem.W.callWith_KW (h₀ := X.base) I.ok.mod.kin Fk.kp hall (thn (ha.run pos pins s σ H (fun vs H' => ∃ w1 h1 xs, StR T w1 h1 H' ∧ EnvR T w1 ρ σ ∧ VRs T w1 xs vs ∧ Post T (VR T) w1 Q (fun c d H' => E c d σ H') ((mk ρ h1).bind fun ys h2 => if xs.length = j ∧ ys.length = ks.length then g (xs ++ ys) h2 else .bad)) I
    ⟨w, ρ, h, st, en, Post.bind q fun xs h1 w1 H1 vs le s1 r1 p1 => ⟨w1, h1, xs, s1, en.mono le, r1, p1⟩⟩) fun us s1 ⟨vs, H1, I1, r, w1, h1, xs, q1, q0, q2, q3⟩ => ?_) hpl he
  refine thn (hkw.run pos pins s1 σ H1 (fun zs H' => ∃ w1 h1 ys xs, StR T w1 h1 H' ∧ VRs T w1 xs vs ∧ VRs T w1 ys zs ∧ xs.length = j ∧ ys.length = ks.length ∧ Post T (VR T) w1 Q (fun c d H' => E c d σ H') (g (xs ++ ys) h1)) I1
    ⟨w1, ρ, h1, q1, q0, Post.bind q3 fun ys h2 w2 H2 zs le2 s2 r2 p2 => by
      split at p2
      · rename_i hc
        exact ⟨w2, h2, ys, xs, s2, VRs.mono le2 q2, r2, hc.1, hc.2, p2⟩
      · exact p2.elim⟩) fun ws s2 ⟨zs, H2, I2, rz, w2, h2, ys, xs, g1, g2, g3, l1, l2, g4⟩ => ⟨I2.kIn, ?_⟩
  rw [hks]
  exact run_fnK Fk.ok (G.room.mono hk) hb G.tk I2 r rz (g2.length.symm.trans l1) (g3.length.symm.trans l2) (sp_of' Fk.ar g1 (g2.append g3) g4)
def mMethK (c : Nat) (g : Fn) (n j : Nat) (mo : ME) (mr mk : MA) : ME := fun ρ h => (mo ρ h).bind fun x h1 => match insW h1 x with
  | some (c', _) => if c' = c then (mr ρ h1).bind fun xs h2 => (mk ρ h2).bind fun ys h3 => if xs.length = n ∧ ys.length = j then g (x :: (xs ++ ys)) h3 else .bad else .bad
  | none => .bad
theorem i_methK (c : Nat) {ks : List Str} {kws : List Keyword} {j : Nat} {pl : Sem Bool} (Fk : Kn T X.prog X.w X.K X.mg X.base k f fd ps g) (hk : k ≤ n) (G : Gd T X E n) (CL : Cls X.K (T.ca c)) (hm : Meth X.K (T.ca c) m f) (hnm : m ∉ T.fl c)
    (hb : KBn X.K fd ps (j + 1) ks (fun us ws => us ++ ws) (fun vs zs => vs ++ zs)) (ho : IE T X E o mo) (ha : IA T X E (e :: es) mr) (hkw : IK T X E kws mk)
    (hall : (backToKw pos (keywordEach kws X.env)).all (·.1.isSome) = true := by rfl) (hks : (backToKw pos (keywordEach kws X.env)).filterMap (·.1) = ks := by rfl) (hst : starEach (e :: es) X.env = (false, eval e X.env) :: starEach es X.env := by rfl)
    (hpl : ((backTo pos (starEach (e :: es) X.env)).any (·.1) || (backToKw pos (keywordEach kws X.env)).any (·.1.isNone)) = false := by rfl)
    (ht : eval (.Call (.Attribute o m apos) (e :: es) kws pos) X.env = (do
      let ov ← eval o X.env
      standAt apos.atName
      let (f, first) ← holding [ov] (getMethod ov m pl)
      callWith pos f first (backTo pos (starEach (e :: es) X.env)) (backToKw pos (keywordEach kws X.env))) := by rfl) :
    IE T X E (.Call (.Attribute o m apos) (e :: es) kws pos) (mMethK c g j ks.length mo mr mk) := by
  refine ⟨fun pins s σ H Q I ⟨w, ρ, h, st, en, q⟩ => ?_⟩
  refine PySem.W.methodCall_KW (pl := pl) (thn (ho.run pins s σ H (fun v H1 => ∃ a dx fs w1 h1 z, v = .ref a ∧ H1 a = some (.ins (T.ca c) dx fs) ∧ fs.lookup m = none ∧ StR T w1 h1 H1 ∧ EnvR T w1 ρ σ ∧ VR T w1 z v ∧ Post T (VR T) w1 Q (fun c d H' => E c d σ H') ((mr ρ h1).bind fun xs h2 => (mk ρ h2).bind fun ys h3 => if xs.length = j ∧ ys.length = ks.length then g (z :: (xs ++ ys)) h3 else .bad)) I
    ⟨w, ρ, h, st, en, Post.bind q fun z h1 w1 H1 v le s1 r1 p1 => by
      cases qi : insW h1 z with
      | none => rw [qi] at p1; exact p1.elim
      | some t =>
        obtain ⟨c', vs⟩ := t
        rw [qi] at p1
        dsimp only at p1
        split at p1
        · rename_i hc
          subst hc
          obtain ⟨a, dx, us, rfl, g1, g2, g3⟩ := insW_at s1 r1 qi
          exact ⟨a, dx, _, w1, h1, z, rfl, g1, zip_lookup_none hnm, s1, en.mono le, r1, p1⟩
        · exact p1.elim⟩) fun u s1 ⟨v, H1, I1, rx, a, dx, fs, w1, h1, z, ev, ea, l, st1, en1, rz, q1⟩ => ?_) ht
  subst ev
  obtain rfl : u = Value.ref a := rx
  refine getmeth_ok I1 ea CL hm l ?_
  refine PySem.W.callWith_KW (first := [.ref a]) (h₀ := X.base) I.ok.mod.kin hm.kp hall (thn (ha.run pos pins s1 σ H1 (fun vs H' => ∃ w1 h1 xs, StR T w1 h1 H' ∧ EnvR T w1 ρ σ ∧ VR T w1 z (.ref a) ∧ VRs T w1 xs vs ∧ Post T (VR T) w1 Q (fun c d H' => E c d σ H') ((mk ρ h1).bind fun ys h3 => if xs.length = j ∧ ys.length = ks.length then g (z :: (xs ++ ys)) h3 else .bad)) I1
    ⟨w1, ρ, h1, st1, en1, Post.bind q1 fun xs h2 w2 H2 vs le2 s2 r2 p2 => ⟨w2, h2, xs, s2, en1.mono le2, rz.mono le2, r2, p2⟩⟩) fun us s2 ⟨vs, H2, I2, r, w2, h2, xs, st2, en2, rz2, rx2, q2⟩ => ?_) hpl hst
  refine thn (hkw.run pos pins s2 σ H2 (fun zs H' => ∃ w1 h1 ys xs, StR T w1 h1 H' ∧ VR T w1 z (.ref a) ∧ VRs T w1 xs vs ∧ VRs T w1 ys zs ∧ xs.length = j ∧ ys.length = ks.length ∧ Post T (VR T) w1 Q (fun c d H' => E c d σ H') (g (z :: (xs ++ ys)) h1)) I2
    ⟨w2, ρ, h2, st2, en2, Post.bind q2 fun ys h3 w3 H3 zs le3 s3 r3 p3 => by
      split at p3
      · rename_i hc
        exact ⟨w3, h3, ys, xs, s3, rz2.mono le3, VRs.mono le3 rx2, r3, hc.1, hc.2, p3⟩
      · exact p3.elim⟩) fun ws s3 ⟨zs, H3, I3, rw3, w3, h3, ys, xs, g1, g0, g2, g3, l1, l2, g4⟩ => ⟨I3.kIn, ?_⟩
  rw [hks]
  exact run_fnK (us := .ref a :: us) (vs := .ref a :: vs) Fk.ok (G.room.mono hk) hb G.tk I3 (.cons rfl r) rw3 (by rw [List.length_cons, ← g2.length, l1]) (g3.length.symm.trans l2) (sp_of' (xs := z :: (xs ++ ys)) Fk.ar g1 (.cons g0 (g2.append g3)) g4)
end
end Fz

/-! list comprehensions -/
namespace Fz
open PySem PySem.Spec PyProof.Rows L2
abbrev F0 : WX := fun _ _ _ _ => False
theorem wipe_ne {σ : L2.St} {i : Nat} : ∀ {vs : List Nat}, i ∉ vs → (wipe σ vs)[i]? = σ[i]?
  | [], _ => rfl
  | v :: vs, h => by
    unfold wipe
    rw [List.getElem?_set_ne (fun e => h (by rw [e]; exact List.mem_cons_self ..)), wipe_ne (fun z => h (List.mem_cons_of_mem _ z))]
theorem wipe_mem {σ : L2.St} {i : Nat} : ∀ {vs : List Nat}, i ∈ vs → (wipe σ vs)[i]? = if i < σ.length then some none else none
  | v :: vs, h => by
    unfold wipe
    by_cases e : v = i
    · subst e
      by_cases q : v < σ.length
      · rw [List.getElem?_set_self (by rw [wipe_length]; exact q), if_pos q]
      · rw [if_neg q, List.getElem?_eq_none (by rw [List.length_set, wipe_length]; omega)]
    · rw [List.getElem?_set_ne e]
      rcases List.mem_cons.mp h with z | z
      · exact absurd z.symm e
      · exact wipe_mem z
theorem wipe_eq {σ σ' : L2.St} {vs : List Nat} (hl : σ'.length = σ.length) (h : ∀ i, i ∉ vs → σ'[i]? = σ[i]?) : wipe σ' vs = wipe σ vs := by
  apply List.ext_getElem?
  intro i
  by_cases q : i ∈ vs
  · rw [wipe_mem q, wipe_mem q, hl]
  · rw [wipe_ne q, wipe_ne q, h i q]
theorem wipe_idem {σ : L2.St} {vs : List Nat} : wipe (wipe σ vs) vs = wipe σ vs := wipe_eq (wipe_length _ _) fun _ h => wipe_ne h
theorem wipe_set {σ : L2.St} {vs : List Nat} {i : Nat} {x : Option V} (h : i ∈ vs) : wipe (σ.set i x) vs = wipe σ vs :=
  wipe_eq (List.length_set ..) fun j hj => List.getElem?_set_ne (fun (e : i = j) => hj (by rw [← e]; exact h))
def wipeW (ρ : EnvW) : List Nat → EnvW
  | [] => ρ
  | v :: vs => (wipeW ρ vs).set v none
theorem EnvR.wipe {T : Tab} {w : Wd} {ρ : EnvW} {σ : L2.St} (en : EnvR T w ρ σ) : ∀ vs : List Nat, EnvR T w (wipeW ρ vs) (L2.wipe σ vs)
  | [] => en
  | v :: vs => All2.set (fun x e => by cases e) v (EnvR.wipe en vs)
section
variable {T : Tab} {X : Cx} {E : WX} {n : Nat} {e elt tg iter : Expr} {me : ME} {pos : Pos}
/-! ### targets that write to the block's own names alone -/
def tgV (T : Tab) (vs : List Nat) (m : MG) : TG := fun v σ H Q => tgI T F0 m v σ H fun σ' H' => wipe σ' vs = wipe σ vs → Q σ' H'
def tgsV (T : Tab) (vs : List Nat) (m : MGs) : TGs := fun xs σ H Q => tgsI T F0 m xs σ H fun σ' H' => wipe σ' vs = wipe σ vs → Q σ' H'
theorem vg_name (i : Nat) {vs : List Nat} {x : Str} (G : Gd T X F0 n) (hm : i ∈ vs := by decide) (hi : X.N[i]? = some x := by rfl) (hx : Loc X.env.scope x := by first | exact Or.inl rfl | exact Or.inr rfl) (hf : X.fn x = true ∨ X.env.scope.names.lookup x = some .local := by first | exact .inl rfl | exact .inr rfl) : PG X (.Name x pos) (tgV T vs (mGName i)) :=
  PG.imp (pg_name G.nd hi hx hf) fun v σ H Q ⟨w, ρ, h, x, s, en, r, p⟩ => p w _ H (Le.refl w) s (en.set r i) (wipe_set hm)
theorem vgs_nil {vs : List Nat} : PGs X [] (tgsV T vs mGNil) := PGs.imp pgs_nil fun xs σ H Q ⟨w, ρ, h, l, s, en, r, p⟩ => by
  cases l with
  | nil => cases r; exact ⟨rfl, p w σ H (Le.refl w) s en rfl⟩
  | cons x l => exact p.elim
theorem vgs_cons {vs : List Nat} {es : List Expr} {g : MG} {gs : MGs} (h1 : PG X e (tgV T vs g)) (h2 : PGs X es (tgsV T vs gs)) (hs : (assignEach (e :: es) X.env).map (·.2) = assign e X.env :: (assignEach es X.env).map (·.2) := by rfl) : PGs X (e :: es) (tgsV T vs (mGCons g gs)) :=
  PGs.imp (pgs_cons h1 h2 hs) fun xs σ H Q ⟨w, ρ, h, l, s, en, r, p⟩ => by
    cases l with
    | nil => exact p.elim
    | cons x l =>
      cases r with
      | cons r1 r2 =>
        refine ⟨_, _, rfl, w, ρ, h, x, s, en, r1, ?_⟩
        unfold mGCons at p
        dsimp only at p
        cases q1 : g x ρ h with
        | nx ρ1 h1 =>
          rw [q1] at p
          exact fun w' σ' H' le s' en' z => ⟨w', ρ1, h1, l, s', en', VRs.mono le r2, by
            have p2 := PostS.mono le p
            revert p2
            dsimp only
            cases gs l ρ1 h1 with
            | nx ρ2 h2 => exact fun p2 w2 σ2 H2 l2 s2 e2 z2 => p2 w2 σ2 H2 l2 s2 e2 (z2.trans z)
            | rt x h2 => exact id
            | bk ρ2 h2 => exact fun p2 => p2
            | ct ρ2 h2 => exact fun p2 => p2
            | exc c us ρ2 h2 => exact id
            | bad => exact id⟩
        | rt x h1 => rw [q1] at p; exact p
        | bk ρ1 h1 => rw [q1] at p; exact p
        | ct ρ1 h1 => rw [q1] at p; exact p
        | exc c us ρ1 h1 => rw [q1] at p; exact p
        | bad => rw [q1] at p; exact p
theorem vg_tup {vs : List Nat} {es : List Expr} {k : Nat} {gs : MGs} (G : Gd T X F0 n) (h : PGs X es (tgsV T vs gs)) (hn : (assignEach es X.env).length = es.length := by rfl) (hst : (assignEach es X.env).findIdx? (·.1) = none := by rfl) : PG X (.Tuple es k pos) (tgV T vs (mGTup es.length gs)) :=
  PG.imp (PG.or (pg_tup (n := es.length) G.calm h hn hst) (pg_lst (n := es.length) G.calm h hn hst)) fun v σ H Q ⟨w, ρ, h, x, s, en, r, p⟩ => by
    unfold mGTup at p
    cases q : rdS h x with
    | none => rw [q] at p; exact p.elim
    | some l =>
      rw [q] at p
      dsimp only at p
      split at p
      · rename_i hl
        obtain ⟨a, us, rfl, h1, h2⟩ := rdS_at s r q
        rw [G.K]
        rcases h1 with h1 | h1
        · exact .inr ⟨a, us, rfl, h1, by rw [← h2.length]; exact hl, w, ρ, h, l, s, en, h2, p⟩
        · exact .inl ⟨a, us, rfl, h1, by rw [← h2.length]; exact hl, w, ρ, h, l, s, en, h2, p⟩
      · exact p.elim
/-! ### tests -/
def mYes : MT := fun _ h => .ok true h
theorem it_none : PTs X [] (ttI T F0 mYes) := ⟨fun pins s σ H Q I ⟨w, ρ, h, st, en, p⟩ => pts_nil.run pins s σ H Q I (p w H true (Le.refl w) st rfl)⟩
theorem it_one {c : Expr} {m : MT} (h : PT X c (ttI T F0 m)) : PTs X [c] (ttI T F0 m) := pts_one h
/-! ### the list -/
def lcW (src : Src) (g : MG) (t : MT) (e : ME) (ρ : EnvW) (d : Nat) : Nat → Nat → List Cell → R W
  | 0, _, _ => .bad
  | k + 1, i, h => match src i h with
    | none => .bad
    | some none => .ok (.loc d) h
    | some (some x) => (match g x ρ h with
      | .nx ρ1 h1 => (noX (t ρ1 h1)).bind fun b h2 => if b = true then (noX (e ρ1 h2)).bind fun y h3 => (match h3[d]? with
          | some (.lst l) => if l.length < sizeLine then lcW src g t e ρ d k (i + 1) (h3.set d (.lst (l ++ [y]))) else .bad
          | _ => .bad)
        else lcW src g t e ρ d k (i + 1) h2
      | _ => .bad)
def mLc (mi : MI) (g : MG) (t : MT) (e : ME) (vs : List Nat) : ME := fun ρ h => (mi ρ h).bind fun s h1 => lcW s.1 g t e (wipeW ρ vs) h1.length s.2 0 (h1 ++ [.lst []])
/-- where a block stands -/
theorem Gd.blk {s : Shared} {H : Hp} {scope : Scope} {cenv : Env} {fp : List Addr} (G : Gd T X E n) : Gd T (X.blk s H scope cenv fp) F0 n := gd_mk G.K G.calm G.nd G.room (fun _ _ ⟨_, _, _, _, _, _, _, _, _, _, _, _, _, _, _, _, w⟩ => w.elim) PassesOwn.never
theorem lc_of {mi : MI} {g : MG} {t : MT} {vs : List Nat} {σ : L2.St} {H : Hp} {Q : VK} (q : teI T E (mLc mi g t me vs) σ H Q) : tLc (tiI T E mi) (tgV T vs g) (ttI T F0 t) (teI T F0 me) vs σ H Q := by
  obtain ⟨w, ρ, h, s, en, p⟩ := q
  exact ⟨w, ρ, h, s, en, Post.bind p fun sr h1 w1 H1 J le s1 ok1 p1 => fun D hD => by
    have s2 := s1.cell (c := .lst []) (u := .lst []) hD ⟨_, upd_same, .nil⟩
    have rD : VR T (w1.addC D) (.loc h1.length) (.ref D) := new_loc s1
    have enW := (en.mono (le.trans Le.addC)).wipe vs (w := w1.addC D)
    refine ⟨fun i m H => ∃ w' h', Le (w1.addC D) w' ∧ StR T w' h' H ∧ Post T (VR T) w' Q (fun c d H' => E c d σ H') (lcW sr.1 g t me (wipeW ρ vs) h1.length m i h'), ⟨sr.2, _, _, Le.refl _, s2, Post.mono Le.addC p1⟩, ?_⟩
    rintro i m H ⟨w', h', le', s', p'⟩
    cases m with
    | zero => exact p'.elim
    | succ m =>
      unfold lcW at p'
      obtain ⟨o1, o2⟩ := ok1 i w' h' H (Le.trans Le.addC le') s'
      cases ex : sr.1 i h' with
      | none => rw [ex] at p'; exact p'.elim
      | some o =>
        rw [ex] at p' o1 o2
        cases o with
        | none => exact .inl ⟨o1 rfl, p' w' H _ (Le.refl _) s' (rD.mono le')⟩
        | some y =>
          obtain ⟨go, yl⟩ := o2 y rfl
          refine .inr ⟨go, fun H' => ∃ w'' h'', Le (w1.addC D) w'' ∧ StR T w'' h'' H' ∧ Post T (VR T) w'' Q (fun c d H' => E c d σ H') (lcW sr.1 g t me (wipeW ρ vs) h1.length m (i + 1) h''), fun H' q => ⟨m, Nat.lt_succ_self m, q⟩, fun x H' hy => ?_⟩
          obtain ⟨w'', l3, s3, r3⟩ := yl x H' hy
          refine ⟨w'', wipeW ρ vs, h', y, s3, enW.mono (le'.trans l3), r3, ?_⟩
          dsimp only at p'
          cases qg : g y (wipeW ρ vs) h' with
          | nx ρ1 h2 =>
            rw [qg] at p'
            refine fun w3 σ3 H3 l4 s4 en4 z => ⟨z.trans wipe_idem, w3, ρ1, h2, s4, en4, ?_⟩
            have p3 := Post.mono (l3.trans l4) p'
            refine noX_of (Post.bind p3 fun b h3 w4 H4 b' l5 s5 rb p4 => ?_)
            cases rb
            cases b with
            | false => exact ⟨w4, h3, (le'.trans l3).trans (l4.trans l5), s5, p4⟩
            | true =>
              refine ⟨w4, ρ1, h3, s5, en4.mono l5, noX_of (Post.bind p4 fun v h4 w5 H5 u l6 s6 rv p5 => ?_)⟩
              cases q : h4[h1.length]? with
              | none => rw [q] at p5; exact p5.elim
              | some c =>
                rw [q] at p5
                cases c with
                | lst l =>
                  dsimp only at p5
                  split at p5
                  · rename_i hz
                    have l7 : Le (w1.addC D) w5 := (le'.trans l3).trans ((l4.trans l5).trans l6)
                    obtain ⟨a', e0, e2, us, e3, e4⟩ := loc_at s6 (rD.mono l7) q
                    cases e0
                    have s7 := s6.write (c := .lst l) (d := .lst (l ++ [v])) (u := .lst (us ++ [u])) q e2 trivial ⟨_, upd_same, e4.append (.cons rv .nil)⟩
                    exact ⟨us, e3, by rw [← e4.length]; exact hz, w5, _, l7, s7, p5⟩
                  · exact p5.elim
                | _ => exact p5.elim
          | _ => rw [qg] at p'; exact p'.elim⟩
theorem i_lc {ifs : List Expr} {scope : Scope} (own : List (Str × Nat)) {mi : MI} {g : MG} {t : MT} (G : Gd T X E n) (hi : II T X E tg iter mi) (ok : blkC X.N X.env.scope scope own = true)
    (hg : ∀ (s : Shared) (H : Hp) (C : Addr) (cl : List (Str × Addr)) (fp : List Addr), Gd T (X.blk s H scope (compEnvC scope cl C X.env) fp) F0 n → PG (X.blk s H scope (compEnvC scope cl C X.env) fp) tg (tgV T (own.map (·.2)) g))
    (ht : ∀ (s : Shared) (H : Hp) (C : Addr) (cl : List (Str × Addr)) (fp : List Addr), Gd T (X.blk s H scope (compEnvC scope cl C X.env) fp) F0 n → PTs (X.blk s H scope (compEnvC scope cl C X.env) fp) ifs (ttI T F0 t))
    (he : ∀ (s : Shared) (H : Hp) (C : Addr) (cl : List (Str × Addr)) (fp : List Addr), Gd T (X.blk s H scope (compEnvC scope cl C X.env) fp) F0 n → IE T (X.blk s H scope (compEnvC scope cl C X.env) fp) F0 elt me) (hs : ∀ x, foldedSetIterable iter X.env x = pure x := by intro _; rfl) :
    IE T X E (.ListComp elt [⟨tg, iter, ifs, 0⟩] scope pos) (mLc mi g t me (own.map (·.2))) :=
  PE.imp (pe_lc G.calm G.nd hi (blkOk_by ok) (fun s H C cl fp => hg s H C cl fp G.blk) (fun s H C cl fp => ht s H C cl fp G.blk) (fun s H C cl fp => he s H C cl fp G.blk) hs) fun σ H Q q => lc_of q
theorem set_of {i : Nat} {m : ME} {t : TE} (k : ∀ σ H Q, teI T E m σ H Q → t σ H Q) {D : Ends} {σ : L2.St} {H : Hp} (q : tsI T E (mSet i m) D σ H) : tAsg t (gName i) D σ H := by
  obtain ⟨w, ρ, h, s, en, p⟩ := q
  exact k σ H _ ⟨w, ρ, h, s, en, PostS.of en p fun x h1 w1 H1 v le s1 r1 p1 => p1 w1 _ H1 (Le.refl _) s1 ((en.mono le).set r1 i)⟩
theorem setF_of {i : Nat} {m : ME} {t : TE} (k : ∀ σ H Q, teI T E m σ H Q → t σ H Q) {D : Ends} {σ : L2.St} {H : Hp} (q : tsI T E (mSet i (mFrz m)) D σ H) : tAsg t (gName i) D σ H :=
  set_of (fun σ H Q ⟨w, ρ, h, s, en, p⟩ => k σ H Q ⟨w, ρ, h, s, en, post_frz p⟩) q
theorem is_setLc (i : Nat) {y : Str} {py spos : Pos} {ifs : List Expr} {scope : Scope} (own : List (Str × Nat)) {mi : MI} {g : MG} {t : MT} (G : Gd T X E n) (hi : II T X E tg iter mi) (ok : blkC X.N X.env.scope scope own = true)
    (hg : ∀ (s : Shared) (H : Hp) (C : Addr) (cl : List (Str × Addr)) (fp : List Addr), Gd T (X.blk s H scope (compEnvC scope cl C X.env) fp) F0 n → PG (X.blk s H scope (compEnvC scope cl C X.env) fp) tg (tgV T (own.map (·.2)) g))
    (ht : ∀ (s : Shared) (H : Hp) (C : Addr) (cl : List (Str × Addr)) (fp : List Addr), Gd T (X.blk s H scope (compEnvC scope cl C X.env) fp) F0 n → PTs (X.blk s H scope (compEnvC scope cl C X.env) fp) ifs (ttI T F0 t))
    (he : ∀ (s : Shared) (H : Hp) (C : Addr) (cl : List (Str × Addr)) (fp : List Addr), Gd T (X.blk s H scope (compEnvC scope cl C X.env) fp) F0 n → IE T (X.blk s H scope (compEnvC scope cl C X.env) fp) F0 elt me) (hy : X.N[i]? = some y := by rfl) (hyl : X.env.scope.names.lookup y = some .local := by rfl) (hsw : swapsWith (.ListComp elt [⟨tg, iter, ifs, 0⟩] scope pos) (some (.Name y py)) spos.line X.env = pure true := by rfl) (hs : ∀ x, foldedSetIterable iter X.env x = pure x := by intro _; rfl) :
    IS T X E (.Assign [.Name y py] (.ListComp elt [⟨tg, iter, ifs, 0⟩] scope pos) spos) (mSet i (mLc mi g t me (own.map (·.2)))) :=
  PS.imp (ps_setLc G.calm G.nd hy hyl hsw hi (blkOk_by ok) (fun s H C cl fp => hg s H C cl fp G.blk) (fun s H C cl fp => ht s H C cl fp G.blk) (fun s H C cl fp => he s H C cl fp G.blk) hs) fun D σ H q => set_of (fun _ _ _ q => lc_of q) q
theorem is_setLcF (i : Nat) {y : Str} {py spos : Pos} {ifs : List Expr} {scope : Scope} (own : List (Str × Nat)) {mi : MI} {g : MG} {t : MT} (G : Gd T X E n) (hi : II T X E tg iter mi) (ok : blkC X.N X.env.scope scope own = true)
    (hg : ∀ (s : Shared) (H : Hp) (C : Addr) (cl : List (Str × Addr)) (fp : List Addr), Gd T (X.blk s H scope (compEnvC scope cl C X.env) fp) F0 n → PG (X.blk s H scope (compEnvC scope cl C X.env) fp) tg (tgV T (own.map (·.2)) g))
    (ht : ∀ (s : Shared) (H : Hp) (C : Addr) (cl : List (Str × Addr)) (fp : List Addr), Gd T (X.blk s H scope (compEnvC scope cl C X.env) fp) F0 n → PTs (X.blk s H scope (compEnvC scope cl C X.env) fp) ifs (ttI T F0 t))
    (he : ∀ (s : Shared) (H : Hp) (C : Addr) (cl : List (Str × Addr)) (fp : List Addr), Gd T (X.blk s H scope (compEnvC scope cl C X.env) fp) F0 n → IE T (X.blk s H scope (compEnvC scope cl C X.env) fp) F0 elt me) (hy : X.N[i]? = some y := by rfl) (hyl : X.env.scope.names.lookup y = some .local := by rfl) (hsw : swapsWith (.ListComp elt [⟨tg, iter, ifs, 0⟩] scope pos) (some (.Name y py)) spos.line X.env = pure true := by rfl) (hs : ∀ x, foldedSetIterable iter X.env x = pure x := by intro _; rfl) :
    IS T X E (.Assign [.Name y py] (.ListComp elt [⟨tg, iter, ifs, 0⟩] scope pos) spos) (mSet i (mFrz (mLc mi g t me (own.map (·.2))))) :=
  PS.imp (ps_setLc G.calm G.nd hy hyl hsw hi (blkOk_by ok) (fun s H C cl fp => hg s H C cl fp G.blk) (fun s H C cl fp => ht s H C cl fp G.blk) (fun s H C cl fp => he s H C cl fp G.blk) hs) fun D σ H q => setF_of (fun _ _ _ q => lc_of q) q
end
end Fz

/-! in, not in, o[k] and len by an own class's methods -/
namespace Fz
open PySem PySem.Spec PyProof.Rows L2
section
variable {T : Tab} {X : Cx} {E : WX} {n k : Nat} {a b e o : Expr} {ma mb mo m' : ME} {pos p : Pos} {f C : Addr} {fd : FuncData} {ps : List Str} {g : Fn}
def fInO (c : Nat) (g : Fn) (neg : Bool) : W → W → List Cell → R W := fun x y h => match insW h y with
  | some (c1, _) => if c1 = c then (noX (g [y, x] h)).bind fun v h1 => (match v with
      | .bl k => .ok (.bl (neg != k)) h1
      | _ => .bad) else .bad
  | none => .bad
def rInO (T : Tab) (c : Nat) (g : Fn) (neg : Bool) : R2 := fun x y H Q => ∃ b dy gs, y = .ref b ∧ H b = some (.ins (T.ca c) dy gs) ∧ spI T 2 g [y, x] H (fun v H' => ∃ k, v = .bl k ∧ Q (.bl (neg != k)) H') (fun _ _ _ => False)
theorem o_inO (c : Nat) (neg : Bool) (ar : Arity g 2) : OpHI T (fInO c g neg) (rInO T c g neg) := fun w h H x y v u Q E s r1 r2 p => by
  unfold fInO at p
  cases q1 : insW h y with
  | none => rw [q1] at p; exact p.elim
  | some t =>
    obtain ⟨c1, vs⟩ := t
    rw [q1] at p
    dsimp only at p
    split at p
    · rename_i hc
      subst hc
      obtain ⟨b, dy, us, rfl, g1, _⟩ := insW_at s r2 q1
      refine ⟨b, dy, _, rfl, g1, sp_of' ar s (.cons r2 (.cons r1 .nil)) (noX_of (Post.bind p fun z h1 w1 H1 z' le s1 rz p1 => ?_))⟩
      cases z with
      | bl k =>
        cases rz
        exact ⟨k, rfl, p1 w1 H1 _ (Le.refl _) s1 rfl⟩
      | _ => exact p1.elim
    · exact p.elim
theorem run_inO {neg : Bool} {pins : List (Addr × Obj)} {σ : L2.St} {H : Hp} {s : Shared} {Q : VK} {b : Addr} {x : V} {v : Value} (Fk : Kn T X.prog X.w X.K X.mg X.base k f fd ps g) (hk : k ≤ n) (hr : Room n X.A) (h2 : ps.length = 2) (hb : Binds X.K fd ps []) (I : Inv X pins σ H s) (rx : RelV x v)
    (h : spI T 2 g [.ref b, x] H (fun v H' => ∃ k, v = .bl k ∧ Q (.bl (neg != k)) H') (fun _ _ _ => False)) :
    wpAny (model X.prog X.w) X.A (call (.ref f) [.ref b, v]) (fun r s' => wpAny (model X.prog X.w) X.A (truthy r) (fun b s'' => EP X pins σ Q (.bool (neg != b)) s'') X.xe s') X.xe s := by
  refine wpAny_mono (run_fn (us := [.ref b, v]) (vs := [.ref b, x]) Fk.ok (hr.mono hk) hb .nil passes_no I (.cons rfl (.cons rx .nil)) (by rw [h2]; exact h)) (fun v s' hv => ?_) fun _ _ z => z
  obtain ⟨z, H', I', rz, k, rfl, q⟩ := hv
  cases rz
  exact wpAny_truthy_bool ⟨.bl (neg != k), H', I', rfl, q⟩
theorem op_inO (c : Nat) (Fk : Kn T X.prog X.w X.K X.mg X.base k f fd ps g) (hk : k ≤ n) (hr : Room n X.A) (h2 : ps.length = 2) (hb : Binds X.K fd ps []) (hs : PySem.W.findIn X.K (.ref (T.ca c)) "__contains__" = some (some (.ref f))) (hf : PySem.W.isFn X.K (.ref f) = true) :
    OpR X (compareOp .In) (rInO T c g false) := by
  intro pins s σ H x y u v Q I rx ry d
  obtain ⟨b, dy, gs, rfl, hb', hsp⟩ := d
  cases ry
  obtain ⟨mB, J, _⟩ := ins_get I.hok hb'
  obtain ⟨od, J, _⟩ := J.look
  obtain ⟨m, hF⟩ := I.fr
  refine PySem.W.in_K hF I.ok.mod.kin J hs hf (wpAny_mono (run_inO (neg := false) Fk hk hr h2 hb I rx hsp) (fun r s' z => wpAny_mono z (fun q s'' z => ?_) fun _ _ z => z) fun _ _ z => z)
  cases q <;> exact z
theorem op_notInO (c : Nat) (Fk : Kn T X.prog X.w X.K X.mg X.base k f fd ps g) (hk : k ≤ n) (hr : Room n X.A) (h2 : ps.length = 2) (hb : Binds X.K fd ps []) (hs : PySem.W.findIn X.K (.ref (T.ca c)) "__contains__" = some (some (.ref f))) (hf : PySem.W.isFn X.K (.ref f) = true) :
    OpR X (compareOp .NotIn) (rInO T c g true) := by
  intro pins s σ H x y u v Q I rx ry d
  obtain ⟨b, dy, gs, rfl, hb', hsp⟩ := d
  cases ry
  obtain ⟨mB, J, _⟩ := ins_get I.hok hb'
  obtain ⟨od, J, _⟩ := J.look
  obtain ⟨m, hF⟩ := I.fr
  refine PySem.W.notIn_K hF I.ok.mod.kin J hs hf (wpAny_mono (run_inO (neg := true) Fk hk hr h2 hb I rx hsp) (fun r s' z => wpAny_mono z (fun q s'' z => ?_) fun _ _ z => z) fun _ _ z => z)
  cases q <;> exact z
theorem i_inO (c : Nat) (Fk : Kn T X.prog X.w X.K X.mg X.base k f fd ps g) (hk : k ≤ n) (G : Gd T X E n) (h2 : ps.length = 2) (hb : Binds X.K fd ps []) (hs : PySem.W.findIn X.K (.ref (T.ca c)) "__contains__" = some (some (.ref f))) (hf : PySem.W.isFn X.K (.ref f) = true)
    (ha : IE T X E a ma) (hb' : IE T X E b mb) (hm : behindInMarks .In b = false := by rfl) : IE T X E (.Compare a [.In] [b] pos) (mOpH (fInO c g false) ma mb) := PE.imp (pe_cmpR (op_inO c Fk hk G.room h2 hb hs hf) ha hb' hm) fun _ _ _ q => tOpH_of (o_inO c false (h2 ▸ Fk.ar)) q
theorem it_inO (c : Nat) (Fk : Kn T X.prog X.w X.K X.mg X.base k f fd ps g) (hk : k ≤ n) (G : Gd T X E n) (h2 : ps.length = 2) (hb : Binds X.K fd ps []) (hs : PySem.W.findIn X.K (.ref (T.ca c)) "__contains__" = some (some (.ref f))) (hf : PySem.W.isFn X.K (.ref f) = true)
    (ha : IE T X E a ma) (hb' : IE T X E b mb) (hm : behindInMarks .In b = false := by rfl) : IT T X E (.Compare a [.In] [b] pos) (mTst (mOpH (fInO c g false) ma mb)) := PT.imp (pt_cmpR (op_inO c Fk hk G.room h2 hb hs hf) ha hb' hm) fun _ _ _ q => tTest_of (fun _ _ _ q => tOpH_of (o_inO c false (h2 ▸ Fk.ar)) q) q
theorem i_notInO (c : Nat) (Fk : Kn T X.prog X.w X.K X.mg X.base k f fd ps g) (hk : k ≤ n) (G : Gd T X E n) (h2 : ps.length = 2) (hb : Binds X.K fd ps []) (hs : PySem.W.findIn X.K (.ref (T.ca c)) "__contains__" = some (some (.ref f))) (hf : PySem.W.isFn X.K (.ref f) = true)
    (ha : IE T X E a ma) (hb' : IE T X E b mb) (hm : behindInMarks .NotIn b = false := by rfl) : IE T X E (.Compare a [.NotIn] [b] pos) (mOpH (fInO c g true) ma mb) := PE.imp (pe_cmpR (op_notInO c Fk hk G.room h2 hb hs hf) ha hb' hm) fun _ _ _ q => tOpH_of (o_inO c true (h2 ▸ Fk.ar)) q
theorem it_notInO (c : Nat) (Fk : Kn T X.prog X.w X.K X.mg X.base k f fd ps g) (hk : k ≤ n) (G : Gd T X E n) (h2 : ps.length = 2) (hb : Binds X.K fd ps []) (hs : PySem.W.findIn X.K (.ref (T.ca c)) "__contains__" = some (some (.ref f))) (hf : PySem.W.isFn X.K (.ref f) = true)
    (ha : IE T X E a ma) (hb' : IE T X E b mb) (hm : behindInMarks .NotIn b = false := by rfl) : IT T X E (.Compare a [.NotIn] [b] pos) (mTst (mOpH (fInO c g true) ma mb)) := PT.imp (pt_cmpR (op_notInO c Fk hk G.room h2 hb hs hf) ha hb' hm) fun _ _ _ q => tTest_of (fun _ _ _ q => tOpH_of (o_inO c true (h2 ▸ Fk.ar)) q) q
/-! ### o[k] -/
def fIxO (c : Nat) (g : Fn) : W → W → List Cell → R W := fun x y h => match insW h x with
  | some (c1, _) => if c1 = c then noX (g [x, y] h) else .bad
  | none => .bad
def rIxO (T : Tab) (c : Nat) (g : Fn) : R2 := fun x y H Q => ∃ b dy gs, x = .ref b ∧ H b = some (.ins (T.ca c) dy gs) ∧ spI T 2 g [x, y] H Q (fun _ _ _ => False)
theorem o_ixO (c : Nat) (ar : Arity g 2) : OpHI T (fIxO c g) (rIxO T c g) := fun w h H x y v u Q E s r1 r2 p => by
  unfold fIxO at p
  cases q1 : insW h x with
  | none => rw [q1] at p; exact p.elim
  | some t =>
    obtain ⟨c1, vs⟩ := t
    rw [q1] at p
    dsimp only at p
    split at p
    · rename_i hc
      subst hc
      obtain ⟨b, dy, us, rfl, g1, _⟩ := insW_at s r1 q1
      exact ⟨b, dy, _, rfl, g1, sp_of' ar s (.cons r1 (.cons r2 .nil)) (noX_of p)⟩
    · exact p.elim
theorem run_in1 {pins : List (Addr × Obj)} {σ : L2.St} {H : Hp} {s : Shared} {Q : VK} {us : List Value} {vs : List V} {sp : Sp} (F : FnOk X.prog X.w X.K X.mg X.base (L2.CX X.prog X.w) k f fd ps sp) (hr : Room (k + 1) X.A) (hb : Binds X.K fd ps [])
    (I : Inv X pins σ H s) (r : Vals vs us) (h : sp vs H Q (fun _ _ _ => False)) : wpAny (model X.prog X.w) X.A.in1 (call (.ref f) us) (EP X pins σ Q) X.xe s := by
  have hl : (us ++ []).length = ps.length := by rw [List.append_nil, ← r.length]; exact F.len _ _ _ _ h
  have b := hb s us I.kIn hl
  rw [List.append_nil] at b
  refine wpAny_call (codeAny_mono (F.run X.A.in1 X.stack s H ⟨us, []⟩ us vs Q _ hr.in1 I.env0.in1 b r h) fun r s' hq => ?_)
  cases r with
  | error e => exact passes_no pins σ H s e s' I hq
  | ok fl =>
    cases fl with
    | ret u => exact I.after hq
    | next => exact False.elim hq
    | brk => exact False.elim hq
    | cont => exact False.elim hq
theorem i_ixO (c : Nat) (Fk : Kn T X.prog X.w X.K X.mg X.base k f fd ps g) (hk : k + 1 ≤ n) (G : Gd T X E n) (h2 : ps.length = 2) (hb : Binds X.K fd ps []) (hfi : PySem.W.fnIn X.K f = true) (hs : PySem.W.findIn X.K (.ref (T.ca c)) "__getitem__" = some (some (.ref f))) (hf : PySem.W.isFn X.K (.ref f) = true)
    (ha : IE T X E a ma) (hb' : IE T X E b mb) (hsl : ∀ v u, subscripted b true v u = runValue (.builtin "lifetime.subscript" ⟨[v, u], []⟩) := by exact fun _ _ => rfl) : IE T X E (.Subscript a b pos) (mOpH (fIxO c g) ma mb) := by
  refine ⟨fun pins s σ H Q I q => ?_⟩
  have h : tOp (rIxO T c g) (teI T E ma) (teI T E mb) σ H Q := tOpH_of (o_ixO c (h2 ▸ Fk.ar)) q
  refine Subscript_ (binT ha hb' I h fun v u s2 x y H2 I2 rx ry d => ?_)
  obtain ⟨z, dy, gs, rfl, hz, hsp⟩ := d
  cases rx
  obtain ⟨mB, J, _⟩ := ins_get I2.hok hz
  obtain ⟨od, J, _⟩ := J.look
  obtain ⟨m, hF⟩ := I2.fr
  exact PySem.W.sub_K hF I2.ok.mod.kin J hs hfi hf (run_in1 (us := [.ref z, u]) (vs := [.ref z, y]) Fk.ok (G.room.mono hk) hb I2 (.cons rfl (.cons ry .nil)) (by rw [h2]; exact hsp)) (hsl _ _)
/-! ### len(o) -/
def mLenO (c : Nat) (g : Fn) (m : ME) : ME := fun ρ h => (m ρ h).bind fun x h1 => match insW h1 x with
  | some (c1, _) => if c1 = c then (noX (g [x] h1)).bind fun v h2 => (match v with
      | .int k => if 0 ≤ k ∧ k < 2 ^ 63 then .ok (.int k) h2 else .bad
      | _ => .bad) else .bad
  | none => .bad
def rLenO (T : Tab) (c : Nat) (g : Fn) : List V → Hp → VK → Prop := fun xs H Q => ∃ b dy gs, xs = [.ref b] ∧ H b = some (.ins (T.ca c) dy gs) ∧ spI T 1 g xs H (fun v H' => ∃ k, v = .int k ∧ (0 ≤ k ∧ k < 2 ^ 63) ∧ Q (.int k) H') (fun _ _ _ => False)
theorem call_lenO (c : Nat) (Fk : Kn T X.prog X.w X.K X.mg X.base k f fd ps g) (hk : k + 1 ≤ n) (hr : Room n X.A) (h1 : ps.length = 1) (hb : Binds X.K fd ps []) (hs : PySem.W.findIn X.K (.ref (T.ca c)) "__len__" = some (some (.ref f))) (hf : PySem.W.isFn X.K (.ref f) = true) :
    CallR X (.builtin "len") (rLenO T c g) := by
  intro pins s σ H xs us Q I r h
  obtain ⟨b, dy, gs, rfl, hz, hsp⟩ := h
  obtain ⟨u, rfl, rx⟩ := vals1 r
  cases rx
  obtain ⟨mB, J, _⟩ := ins_get I.hok hz
  obtain ⟨od, J, _⟩ := J.look
  obtain ⟨m, hF⟩ := I.fr
  refine PySem.W.len_K hF I.ok.mod.kin J hs hf (wpAny_mono (run_in1 (us := [.ref b]) (vs := [.ref b]) Fk.ok (hr.mono hk) hb I (.cons rfl .nil) (by rw [h1]; exact hsp)) (fun v s' hv => ?_) fun _ _ z => z)
  obtain ⟨z, H', I', rz, k, rfl, hk, q⟩ := hv
  obtain ⟨t, rfl⟩ := rz
  exact ⟨hk, .int k, H', I'.tok _, ⟨_, rfl⟩, q⟩
theorem i_lenO (c : Nat) (Fk : Kn T X.prog X.w X.K X.mg X.base k f fd ps g) (hk : k + 1 ≤ n) (G : Gd T X E n) (h1 : ps.length = 1) (hb : Binds X.K fd ps []) (hs : PySem.W.findIn X.K (.ref (T.ca c)) "__len__" = some (some (.ref f))) (hf : PySem.W.isFn X.K (.ref f) = true)
    (ha : IE T X E a ma) (hm : X.mg "len" = none) (hg : Gl X "len" := by rfl) (he : starEach [a] X.env = (false, eval a X.env) :: starEach [] X.env := by rfl) : IE T X E (.Call (.Name "len" p) [a] [] pos) (mLenO c g ma) :=
  PE.imp (pe_callB (call_lenO c Fk hk G.room h1 hb hs hf) hg hm boot_len (pa_cons ha pa_nil he) (by decide +kernel) (by decide +kernel) he rfl) fun σ H Q ⟨w, ρ, h, s, en, p⟩ => ⟨w, ρ, h, s, en, Post.bind p fun x h1' w1 H1 v le s1 r1 p1 => by
    cases q1 : insW h1' x with
    | none => rw [q1] at p1; exact p1.elim
    | some t =>
      obtain ⟨c1, vs⟩ := t
      rw [q1] at p1
      dsimp only at p1
      split at p1
      · rename_i hc
        subst hc
        obtain ⟨b, dy, us, rfl, g1, _⟩ := insW_at s1 r1 q1
        refine ⟨b, dy, _, rfl, g1, sp_of' (h1 ▸ Fk.ar) s1 (.cons r1 .nil) (noX_of (Post.bind p1 fun z h2 w2 H2 z' le2 s2 rz p2 => ?_))⟩
        cases z with
        | int j =>
          dsimp only at p2
          split at p2
          · rename_i hj
            cases rz
            exact ⟨j, rfl, hj, p2 w2 H2 _ (Le.refl _) s2 rfl⟩
          · exact p2.elim
        | _ => exact p2.elim
      · exact p1.elim⟩
end
end Fz

/-! an own class that is walked: its __iter__ hands back iter(self.f), f a list -/
namespace Fz
open PySem PySem.Spec PyProof.Rows L2
abbrev KIt (fld : Str) (n : Nat) (H0 : Hp) (K : PySem.W.Frag) : VK := fun v H' => ∃ l zs it, v = .ref it ∧ n ≤ it ∧ H0 it = none ∧ SqL K H0 l zs ∧ H' = upd H0 it (ItO l it 0)
/-- what the body of such a method reads as -/
def tItB (K : PySem.W.Frag) (fld : Str) (n : Nat) : TS := fun D σ H => tCB (ItX.rIterN K n) (tCons (tFld K (tVar 0) fld) tNil) σ H D.rt
theorem iter_body {X : Cx} {x fld : Str} {p p2 p3 p4 p5 : Pos} (hm : X.mg "iter" = none) (hN : X.N[0]? = some x := by rfl) (hv : Vis X.env.scope x := by first | exact Or.inl rfl | exact Or.inr (Or.inl rfl) | exact Or.inr (Or.inr rfl)) (hg : Gl X "iter" := by rfl)
    (hd : (x == ("__debug__" : Str)) = false := by decide +kernel) (hcd : (x == ("__classdict__" : Str)) = false := by decide +kernel) (hbase : attributeBase (.Name x p2) fld X.env (eval (.Name x p2) X.env) = eval (.Name x p2) X.env := by rfl)
    (hs : starEach [.Attribute (.Name x p2) fld p3] X.env = (false, eval (.Attribute (.Name x p2) fld p3) X.env) :: starEach [] X.env := by rfl) :
    PSs X [.Return (some (.Call (.Name "iter" p) [.Attribute (.Name x p2) fld p3] [] p4)) p5] (tItB X.K fld X.s_0.heap.objs.size) :=
  pss_one (ps_ret (pe_callB ItX.call_iterN hg hm (by decide +kernel) (pa_cons (pe_fld (pe_var hN hv hd hcd) hbase) pa_nil hs) (by decide +kernel) (by decide +kernel) hs rfl))
/-- such a method -/
structure ItFn (T : Tab) (P : Program) (w : World) (K : PySem.W.Frag) (mg : Str → Option Value) (base : Heap) (k : Nat) (f : Addr) (fd : FuncData) (ps : List Str) (c : Nat) (fld : Str) : Prop where
  run : ∀ (A : Around) (outer : List Env) (s : Shared) (H : Hp) (args : Args) (us : List Value) (x dx : Addr) (fs : List (Str × V)) (l : Addr) (zs : List V) (E : XK), Room k A → Env0 P w K mg base A outer s H → BindsTo s fd args (ps.zip us) → Vals [.ref x] us →
    H x = some (.ins (T.ca c) dx fs) → fs.lookup fld = some (.ref l) → SqL K H l zs →
    codeAny (model P w) A (.call (.ref f) args) (CR (L2.CX P w) outer P w H s (fun v H' => ∃ it, v = .ref it ∧ s.heap.objs.size ≤ it ∧ H it = none ∧ H' = upd H it (ItO l it 0)) E) s
  kp : PySem.W.keepIn K (.ref f) = true
theorem itfn_ok {T : Tab} {P : Program} {w : World} {mg : Str → Option Value} {base : Heap} {x qual : Str} {params : Arguments} {body : List Stmt} {scope : Scope} {dvs : List V} {kws : List (Str × V)} {f : Addr} {fd : FuncData} {N ps : List Str} {n c : Nat} {fld : Str}
    (F : FunD T.K x qual params body scope dvs kws f fd) (S : FnScope N ps scope) (hp : ps.length = 1) (CL : Cls T.K (T.ca c)) (NA : NoAttr T.K (T.ca c) fld)
    (hbody : ∀ (cdv : Value) (A : Around) (outer : List Env) (s : Shared) (H : Hp) (E : XK), PSs (cxOf (L2.CX P w) P w T.K mg base N qual scope f cdv A outer s H E) body (tItB T.K fld s.heap.objs.size)) : ItFn T P w T.K mg base (n + 1) f fd ps c fld := by
  refine ⟨fun A outer s H args us a dx fs l zs E hr e0 hb r ha hf hl => ?_, F.kp⟩
  obtain ⟨oc, od, dV, kV, doc, pm, an, cdv, ct, osl, rfl, lk, hcd, _, _⟩ := F.ex
  have old : ∀ b o, base.get? b = some o → s.heap.get? b = some o := fun b o e => (e0.bs b o e).1
  have KX := e0.mod.kin.keeps old
  have nl := e0.mod.nolimit.keeps old
  refine codeAny_call_function hr.depth (KX _ _ lk) rfl S.co S.gen rfl (PySem.W.codeRec_of KX hcd) (hb _ _ _ _ ?_)
  refine wpAny_newFunctionEnv_cells S.kind (fun ⟨y, v⟩ hy => ?_) fun env he s1 z => ?_
  · have hy' := (List.of_mem_zip hy).1
    rcases S.par y hy' with q | q
    · exact .inl q
    · exact .inr ⟨q, PySem.W.cellsFrom_some _ _ _ (.inl q)⟩
  · subst he
    have I := inv_start (CX := L2.CX P w) (E := E) S hr.hd e0 (vs := [.ref a]) (by rw [hp]; rfl) r z
    refine ⟨nl.keeps z.toInCall.keep, codeAny_func (wpAny_mono ((hbody cdv A outer s H E).run [] s1 (start N [.ref a]) H
      { nx := fun _ _ => False, rt := fun v H' => ∃ it, v = .ref it ∧ s.heap.objs.size ≤ it ∧ H it = none ∧ H' = upd H it (ItO l it 0) } I ?_) (fun fl s' hs => ?_) fun e s' hs => hs)⟩
    · refine ⟨.ref a, rfl, a, T.ca c, dx, fs, .ref l, rfl, ha, CL, NA, hf, ?_⟩
      exact ⟨l, zs, rfl, hl, fun it h1 h2 => ⟨it, rfl, h2, h1, rfl⟩⟩
    · cases fl with
      | ret u =>
        obtain ⟨v, σ', H', J, rv, q⟩ := hs
        exact ⟨v, H', J.os, J.bare, J.base, J.hok, rv, q⟩
      | next =>
        obtain ⟨_, _, _, q⟩ := hs
        exact q.elim
      | brk =>
        obtain ⟨_, _, _, q⟩ := hs
        exact q.elim
      | cont =>
        obtain ⟨_, _, _, q⟩ := hs
        exact q.elim
section
variable {T : Tab} {X : Cx} {E : WX} {n k : Nat} {tg o : Expr} {mo : ME} {f : Addr} {fd : FuncData} {ps : List Str} {c j : Nat} {fld : Str}
def tiOwn (T : Tab) (c : Nat) (fld : Str) (to : TE) : TI := fun σ H R => to σ H fun x H1 => ∃ a dx fs l zs, x = .ref a ∧ H1 a = some (.ins (T.ca c) dx fs) ∧ fs.lookup fld = some (.ref l) ∧ SqL T.K H1 l zs ∧ R (Itl T.K l) H1
theorem pi_own (Fk : ItFn T X.prog X.w X.K X.mg X.base k f fd ps c fld) (hr : Room k X.A) (hK : X.K = T.K) (hb : Binds X.K fd ps []) (hp : ps.length = 1) (hs : PySem.W.findIn X.K (.ref (T.ca c)) "__iter__" = some (some (.ref f))) (hf : PySem.W.isFn X.K (.ref f) = true) {to : TE} (ho : PE X o to) : PI X tg o (tiOwn T c fld to) := by
  refine ⟨fun pins s σ H R I h => ?_⟩
  refine thn (ho.run pins s σ H _ I h) fun v s1 ⟨x, H1, I1, rx, a, dx, fs, l, zs, ex, ha, hl, hq, q⟩ => ?_
  subst ex
  cases rx
  obtain ⟨mB, J, _⟩ := ins_get I1.hok ha
  obtain ⟨od, J, _⟩ := J.look
  have KX := I1.kIn
  have run : wpAny (model X.prog X.w) X.A (call (.ref f) [.ref a]) (fun u s' => ∃ it, u = .ref it ∧ s'.TypeIs (.ref it) "list_iterator" ∧ PIE X pins σ tg R (.ref it) s') X.xe s1 := by
    have b := hb s1 [.ref a] KX (by rw [hp]; rfl)
    rw [List.append_nil] at b
    refine wpAny_call (codeAny_mono (Fk.run X.A X.stack s1 H1 ⟨[.ref a], []⟩ [.ref a] a dx fs l zs (fun _ _ _ => False) hr I1.env0 b (.cons rfl .nil) ha hl (hK ▸ hq)) fun r s' hr' => ?_)
    cases r with
    | error e => exact passes_no pins σ H1 s1 e s' I1 hr'
    | ok fl =>
      cases fl with
      | ret u =>
        obtain ⟨v, H', I', rv, it, rfl, hge, hn, rfl⟩ := I1.after hr'
        cases rv
        have hit := itO_get I' upd_same
        have I2 := ItX.inv_drop I' upd_same
        rw [ItX.dropH_upd hn] at I2
        have fp := ItX.inv_fp I' upd_same (Nat.le_trans I1.sz hge)
        rw [ItX.dropH_upd hn] at fp
        refine ⟨it, rfl, ⟨_, hit, rfl⟩, it, [it], _, Itl X.K l, H1, rfl, I2, turn_list l it, ⟨_, hit, rfl, rfl⟩, fun b hb => ?_, by rw [hK]; exact q⟩
        have e : b = it := by simpa using hb
        subst e
        exact fp
      | next => exact False.elim hr'
      | brk => exact False.elim hr'
      | cont => exact False.elim hr'
  unfold pyIter
  refine wpAny_bind (wpAny_bind (J.type.here ((PySem.W.looks_findIn KX hs).here ?_)))
  dsimp only
  refine wpAny_bind ?_
  have call1 : wpAny (model X.prog X.w) X.A (call (.ref f) [.ref a] >>= fun it => pure (some it)) (fun r s' => ∃ it, r = some (.ref it) ∧ s'.TypeIs (.ref it) "list_iterator" ∧ PIE X pins σ tg R (.ref it) s') X.xe s1 :=
    wpAny_bind (wpAny_mono run (fun u s' ⟨it, e, t, p⟩ => wpAny_pure ⟨it, by rw [e], t, p⟩) fun _ _ z => z)
  have fin : wpAny (model X.prog X.w) X.A (callSpecialIfBoundUnlessNone? (.ref a) "__iter__" (do rule "iter.none"; raiseError "TypeError" s!"'{← typeNameOf (.ref a)}' object is not iterable")) (fun r s' => ∃ it, r = some (.ref it) ∧ s'.TypeIs (.ref it) "list_iterator" ∧ PIE X pins σ tg R (.ref it) s') X.xe s1 := by
    unfold callSpecialIfBoundUnlessNone? bindSpecialIfBound?
    refine wpAny_holding (wpAny_bind (wpAny_bind (wpAny_bind (J.type.here ((PySem.W.looks_findIn KX hs).here ?_)))))
    dsimp only
    refine wpAny_bind (wpAny_askSetting (wpAny_ite ?_))
    split
    · refine wpAny_bind ((PySem.W.bind_fn KX _ (beq_iff_eq.mp hf)).here (wpAny_pure ?_))
      dsimp only
      rw [if_neg (by simp)]
      exact call1
    · refine wpAny_tryCatch (wpAny_bind ((PySem.W.bind_fn KX _ (beq_iff_eq.mp hf)).here (wpAny_pure ?_)))
      dsimp only
      rw [if_neg (by simp)]
      exact call1
  refine wpAny_mono fin (fun r s' ⟨it, e, t, p⟩ => ?_) fun _ _ z => z
  subst e
  dsimp only
  refine wpAny_bind (wpAny_specialOf (name := "__next__") t slot_listiter_next.lookup ?_)
  exact wpAny_pure p
/-- what is walked: the field j of an instance of c -/
def mIOwn (c j : Nat) (m : ME) : MI := fun ρ h => (m ρ h).bind fun x h1 => match insW h1 x with
  | some (c', vs) => if c' = c then (match vs[j]? with
    | some y => (match rdL h1 y with
      | some l => .ok (srcSeq y, l.length + 1) h1
      | none => .bad)
    | none => .bad) else .bad
  | none => .bad
theorem ii_own (c j : Nat) (Fk : ItFn T X.prog X.w X.K X.mg X.base k f fd ps c fld) (hk : k ≤ n) (G : Gd T X E n) (hb : Binds X.K fd ps []) (hp : ps.length = 1) (hs : PySem.W.findIn X.K (.ref (T.ca c)) "__iter__" = some (some (.ref f))) (hf : PySem.W.isFn X.K (.ref f) = true)
    (hfl : (T.fl c)[j]? = some fld) (nd : (T.fl c).Nodup) (ho : IE T X E o mo) : II T X E tg o (mIOwn c j mo) :=
  PI.imp (pi_own Fk (G.room.mono hk) G.K hb hp hs hf ho) fun σ H RR ⟨w, ρ, h, s, en, p⟩ => ⟨w, ρ, h, s, en, Post.bind p fun x h1 w1 H1 v le s1 r1 p1 => by
    cases q : insW h1 x with
    | none => rw [q] at p1; exact p1.elim
    | some t =>
      obtain ⟨c', vs⟩ := t
      rw [q] at p1
      dsimp only at p1
      split at p1
      · rename_i hc
        subst hc
        obtain ⟨a, dx, us, rfl, g1, g2, g3⟩ := insW_at s1 r1 q
        cases qj : vs[j]? with
        | none => rw [qj] at p1; exact p1.elim
        | some y =>
          rw [qj] at p1
          dsimp only at p1
          cases ql : rdL h1 y with
          | none => rw [ql] at p1; exact p1.elim
          | some l =>
            rw [ql] at p1
            obtain ⟨u, hu, ru⟩ := g2.get qj
            obtain ⟨b, zs, rfl, e1, e2⟩ := rdL_at s1 ru ql
            refine ⟨a, dx, _, b, zs, rfl, g1, by rw [zip_lookup nd hfl (by rw [← g2.length]; exact g3)]; exact hu, e1, p1 w1 H1 (Itl T.K b) (Le.refl _) s1 (src_list (fun z e => ?_) ru (fun z e => ?_))⟩
            · rw [e] at ql
              cases ql
            · rw [e] at ql
              cases ql
      · exact p1.elim⟩
end
end Fz

/-! dicts with ints, texts or tuples of these as keys -/
namespace Fz
open PySem PySem.Spec PyProof.Rows L2
def keyW : W → Option Key
  | .int i => some (.inl i)
  | .str s => some (.inr s)
  | _ => none
def keysW : List W → Option (List Key)
  | [] => some []
  | x :: l => match keyW x, keysW l with
    | some k, some ks => some (k :: ks)
    | _, _ => none
def keyT (kt : Nat → Bool) : W → Option (List Key)
  | .tup l => if kt l.length = true then none else keysW l
  | _ => none
section
variable {κ : Type} [DecidableEq κ] {α : Type}
def valK (kvs : List (κ × α)) (k : κ) : Option α := (kvs.find? fun kv => decide (kv.1 = k)).map (·.2)
def putW (kvs : List (κ × α)) (k : κ) (v : α) : List (κ × α) :=
  if (kvs.any fun kv => decide (kv.1 = k)) = true then kvs.map (fun kv => if kv.1 = k then (kv.1, v) else kv) else kvs ++ [(k, v)]
end
def dkW (h : List Cell) : W → Option (List (Key × W))
  | .dk ks vs => some (ks.zip vs)
  | .loc n => match h[n]? with
    | some (.dk l) => some l
    | _ => none
  | _ => none
def dtW (h : List Cell) : W → Option (List (List Key × W))
  | .dt ks vs => some (ks.zip vs)
  | .loc n => match h[n]? with
    | some (.dt l) => some l
    | _ => none
  | _ => none
def dgetW (kt : Nat → Bool) (h : List Cell) (d k : W) : Option (Option W) := match dkW h d with
  | some kvs => (match keyW k with
    | some key => some (valK kvs key)
    | none => none)
  | none => match dtW h d with
    | some kvs => (match keyT kt k with
      | some key => some (valK kvs key)
      | none => none)
    | none => none
section
variable {T : Tab} {w : Wd} {h : List Cell} {H : Hp}
theorem keyW_ok {x : W} {v : V} {k : Key} (r : VR T w x v) (e : keyW x = some k) : v = kV k := by
  cases x with
  | int i => cases r; cases e; rfl
  | str s => cases r; cases e; rfl
  | _ => cases e
theorem keysW_ok : ∀ {l : List W} {vs : List V} {ks : List Key}, VRs T w l vs → keysW l = some ks → vs = ks.map kV
  | [], _, _, .nil, e => by cases e; rfl
  | x :: l, _, ks, .cons a b, e => by
    unfold keysW at e
    cases q : keyW x with
    | none => rw [q] at e; cases e
    | some k =>
      rw [q] at e
      cases q2 : keysW l with
      | none => rw [q2] at e; cases e
      | some ks2 =>
        rw [q2] at e
        cases e
        rw [keyW_ok a q, keysW_ok b q2]
        rfl
theorem keyT_ok (s : StR T w h H) {x : W} {v : V} {ks : List Key} (r : VR T w x v) (e : keyT T.kt x = some ks) : ∃ b, v = .ref b ∧ H b = some (.tup (ks.map kV)) := by
  cases x with
  | tup l =>
    have e : (if T.kt l.length = true then none else keysW l) = some ks := e
    split at e
    · cases e
    · rename_i hn
      rcases r with ⟨a, rfl, q⟩ | q
      · obtain ⟨vs, h1, h2⟩ := s.fz a _ q
        exact ⟨a, rfl, by rw [h1, keysW_ok h2 e]⟩
      · cases q with
        | tup z _ _ => exact absurd z hn
  | _ => cases e
theorem DKs.zip {κ : Type} : ∀ {ks : List κ} {vs : List W} {us : List V}, VRs T w vs us → DKs T w (ks.zip vs) (ks.zip us)
  | [], _, _, _ => by rw [List.zip_nil_left, List.zip_nil_left]; exact .nil
  | _ :: _, _, _, .nil => .nil
  | k :: ks, _, _, .cons a b => .cons ⟨rfl, a⟩ (DKs.zip b)
theorem dkW_at (s : StR T w h H) {x : W} {v : V} {l : List (Key × W)} (r : VR T w x v) (e : dkW h x = some l) : ∃ a m, v = .ref a ∧ H a = some (.dK m) ∧ DKs T w l m := by
  cases x with
  | dk ks vs =>
    cases e
    obtain ⟨a, rfl, q⟩ := r
    obtain ⟨us, h1, h2, _⟩ := s.fz a _ q
    exact ⟨a, _, rfl, h1, DKs.zip h2⟩
  | loc n =>
    have e : (match h[n]? with | some (.dk l) => some l | _ => none) = some l := e
    cases q : h[n]? with
    | none => rw [q] at e; cases e
    | some c =>
      rw [q] at e
      cases c with
      | dk l' =>
        cases e
        obtain ⟨a, rfl, _, m, h1, h2⟩ := loc_at s r q
        exact ⟨a, m, rfl, h1, h2⟩
      | _ => cases e
  | _ => cases e
theorem dtW_at (s : StR T w h H) {x : W} {v : V} {l : List (List Key × W)} (r : VR T w x v) (e : dtW h x = some l) : ∃ a m, v = .ref a ∧ H a = some (.dT m) ∧ DKs T w l m := by
  cases x with
  | dt ks vs =>
    cases e
    obtain ⟨a, rfl, q⟩ := r
    obtain ⟨us, h1, h2, _⟩ := s.fz a _ q
    exact ⟨a, _, rfl, h1, DKs.zip h2⟩
  | loc n =>
    have e : (match h[n]? with | some (.dt l) => some l | _ => none) = some l := e
    cases q : h[n]? with
    | none => rw [q] at e; cases e
    | some c =>
      rw [q] at e
      cases c with
      | dt l' =>
        cases e
        obtain ⟨a, rfl, _, m, h1, h2⟩ := loc_at s r q
        exact ⟨a, m, rfl, h1, h2⟩
      | _ => cases e
  | _ => cases e
/-- what is found on both sides -/
def ORel (T : Tab) (w : Wd) : Option W → Option V → Prop
  | none, none => True
  | some x, some v => VR T w x v
  | _, _ => False
theorem DKs.val {κ : Type} [DecidableEq κ] {k : κ} : ∀ {l : List (κ × W)} {m : List (κ × V)}, DKs T w l m → ORel T w (valK l k) (valV m k)
  | [], _, .nil => trivial
  | (a, x) :: l, (b, v) :: m, .cons r t => by
    obtain ⟨rfl, r⟩ := r
    unfold valK valV
    by_cases q : a = k
    · rw [List.find?_cons_of_pos (by simpa using q), List.find?_cons_of_pos (by simpa using q)]
      exact r
    · rw [List.find?_cons_of_neg (by simpa using q), List.find?_cons_of_neg (by simpa using q)]
      exact DKs.val t
theorem DKs.any {κ : Type} [DecidableEq κ] {k : κ} : ∀ {l : List (κ × W)} {m : List (κ × V)}, DKs T w l m → (l.any fun kv => decide (kv.1 = k)) = m.any fun kv => decide (kv.1 = k)
  | [], _, .nil => rfl
  | (a, x) :: l, (b, v) :: m, .cons r t => by
    obtain ⟨rfl, r⟩ := r
    rw [List.any_cons, List.any_cons, DKs.any t]
theorem DKs.repl {κ : Type} [DecidableEq κ] {k : κ} {x : W} {v : V} (rx : VR T w x v) : ∀ {l : List (κ × W)} {m : List (κ × V)}, DKs T w l m → DKs T w (l.map fun kv => if kv.1 = k then (kv.1, x) else kv) (m.map fun kv => if kv.1 = k then (kv.1, v) else kv)
  | [], _, .nil => .nil
  | (a, y) :: l, (b, u) :: m, .cons r t => by
    obtain ⟨rfl, r⟩ := r
    refine .cons ?_ (DKs.repl rx t)
    dsimp only
    by_cases q : a = k
    · rw [if_pos q, if_pos q]
      exact ⟨rfl, rx⟩
    · rw [if_neg q, if_neg q]
      exact ⟨rfl, r⟩
theorem DKs.put {κ : Type} [DecidableEq κ] {k : κ} {x : W} {v : V} (rx : VR T w x v) {l : List (κ × W)} {m : List (κ × V)} (h : DKs T w l m) : DKs T w (putW l k x) (putK m k v) := by
  unfold putW putK
  rw [DKs.any h]
  split
  · exact DKs.repl rx h
  · exact All2.append h (.cons ⟨rfl, rx⟩ .nil)
theorem dget_ok (s : StR T w h H) {d k : W} {v u : V} {o : Option W} (r1 : VR T w d v) (r2 : VR T w k u) (e : dgetW T.kt h d k = some o) : ∃ a o', v = .ref a ∧ DGet H a u o' ∧ ORel T w o o' := by
  unfold dgetW at e
  cases q1 : dkW h d with
  | some kvs =>
    rw [q1] at e
    dsimp only at e
    cases q2 : keyW k with
    | none => rw [q2] at e; cases e
    | some key =>
      rw [q2] at e
      cases e
      obtain ⟨a, m, rfl, h1, h2⟩ := dkW_at s r1 q1
      rw [keyW_ok r2 q2]
      exact ⟨a, _, rfl, DGet.k h1, h2.val⟩
  | none =>
    rw [q1] at e
    dsimp only at e
    cases q3 : dtW h d with
    | none => rw [q3] at e; cases e
    | some kvs =>
      rw [q3] at e
      dsimp only at e
      cases q2 : keyT T.kt k with
      | none => rw [q2] at e; cases e
      | some key =>
        rw [q2] at e
        cases e
        obtain ⟨a, m, rfl, h1, h2⟩ := dtW_at s r1 q3
        obtain ⟨b, rfl, hb⟩ := keyT_ok s r2 q2
        exact ⟨a, _, rfl, DGet.t h1 hb, h2.val⟩
end
section
variable {T : Tab} {X : Cx} {E : WX} {n : Nat} {a b o i e : Expr} {ma mb md mk mv : ME} {pos pos' : Pos}
/-- {} of keys that are ints or texts; of tuples -/
def mDNew : ME := fun _ h => .ok (.loc h.length) (h ++ [.dk []])
def mDNewT : ME := fun _ h => .ok (.loc h.length) (h ++ [.dt []])
theorem i_dnew : IE T X E (.Dict [] [] pos) mDNew := PE.imp pe_dnewK fun σ H Q ⟨w, ρ, h, s, en, p⟩ => fun t ht => p _ _ _ Le.addC (s.cell (c := .dk []) (u := .dK []) ht ⟨_, upd_same, .nil⟩) (new_loc s)
theorem i_dnewT : IE T X E (.Dict [] [] pos) mDNewT := PE.imp pe_dnewT fun σ H Q ⟨w, ρ, h, s, en, p⟩ => fun t ht => p _ _ _ Le.addC (s.cell (c := .dt []) (u := .dT []) ht ⟨_, upd_same, .nil⟩) (new_loc s)
/-- d[k] -/
def mDGet (kt : Nat → Bool) (md mk : ME) : ME := fun ρ h => (md ρ h).bind fun d h1 => (mk ρ h1).bind fun k h2 => match dgetW kt h2 d k with
  | some (some x) => .ok x h2
  | _ => .bad
theorem room_u {A : Around} {n : Nat} (r : Room n A) : A.units + 1 < cLine := by have := r.un; omega
theorem i_dget {gb : Bool} (G : Gx T X E n gb) (ho : IE T X E o md) (hi : IE T X E i mk) (hs : NoSl i := by exact fun _ _ => rfl) : IE T X E (.Subscript o i pos) (mDGet T.kt md mk) :=
  PE.imp (pe_dget (G.roomu) ho hi hs) fun σ H Q ⟨w, ρ, h, s, en, p⟩ => ⟨w, ρ, h, s, en, Post.bind p fun x h1 w1 H1 v le s1 r1 p1 => ⟨w1, ρ, h1, s1, en.mono le, Post.bind p1 fun y h2 w2 H2 u le2 s2 r2 p2 => by
    cases q : dgetW T.kt h2 x y with
    | none => rw [q] at p2; exact p2.elim
    | some oo =>
      rw [q] at p2
      cases oo with
      | none => exact p2.elim
      | some z =>
        obtain ⟨a, o', rfl, g, ro⟩ := dget_ok s2 (r1.mono le2) r2 q
        cases o' with
        | none => exact ro.elim
        | some v => exact ⟨a, v, rfl, g, p2 w2 H2 v (Le.refl _) s2 ro⟩⟩⟩
/-- k in d, k not in d -/
def mDIn (kt : Nat → Bool) (neg : Bool) (mk md : ME) : ME := fun ρ h => (mk ρ h).bind fun k h1 => (md ρ h1).bind fun d h2 => match dgetW kt h2 d k with
  | some o => .ok (.bl (cond neg (!o.isSome) o.isSome)) h2
  | none => .bad
theorem din_of {neg : Bool} {σ : L2.St} {H : Hp} {Q : VK} (p : teI T E (mDIn T.kt neg mk md) σ H Q) : teI T E mk σ H fun y H1 => teI T E md σ H1 fun x H2 => ∃ a o, x = .ref a ∧ DGet H2 a y o ∧ Q (.bl (cond neg (!o.isSome) o.isSome)) H2 := by
  obtain ⟨w, ρ, h, s, en, p⟩ := p
  refine ⟨w, ρ, h, s, en, Post.bind p fun x h1 w1 H1 v le s1 r1 p1 => ⟨w1, ρ, h1, s1, en.mono le, Post.bind p1 fun y h2 w2 H2 u le2 s2 r2 p2 => ?_⟩⟩
  cases q : dgetW T.kt h2 y x with
  | none => rw [q] at p2; exact p2.elim
  | some oo =>
    rw [q] at p2
    obtain ⟨a, o', rfl, g, ro⟩ := dget_ok s2 r2 (r1.mono le2) q
    have : o'.isSome = oo.isSome := by
      cases oo <;> cases o' <;> first | rfl | exact ro.elim
    exact ⟨a, o', rfl, g, by rw [this]; exact p2 w2 H2 _ (Le.refl _) s2 rfl⟩
theorem i_din {gb : Bool} (G : Gx T X E n gb) (hi : IE T X E i mk) (ho : IE T X E o md) (hm : behindInMarks .In o = false := by rfl) : IE T X E (.Compare i [.In] [o] pos) (mDIn T.kt false mk md) :=
  PE.imp (pe_cmp (pc_din (G.roomu) hi ho) hm) fun σ H Q p => din_of p
theorem i_dnin {gb : Bool} (G : Gx T X E n gb) (hi : IE T X E i mk) (ho : IE T X E o md) (hm : behindInMarks .NotIn o = false := by rfl) : IE T X E (.Compare i [.NotIn] [o] pos) (mDIn T.kt true mk md) :=
  PE.imp (pe_cmp (pc_dnotin (G.roomu) hi ho) hm) fun σ H Q p => din_of p
theorem tB_of {m : ME} {t : TE} (k : ∀ σ H Q, teI T E m σ H Q → t σ H Q) {σ : L2.St} {H : Hp} {Q : Bool → Hp → Prop} (q : ttI T E (mTst m) σ H Q) : tB t σ H Q := by
  obtain ⟨w, ρ, h, s, en, p⟩ := q
  refine k σ H _ ⟨w, ρ, h, s, en, Post.bind p fun x h1 w1 H1 v le s1 r1 p1 => ?_⟩
  cases x with
  | bl b =>
    cases r1
    exact ⟨b, rfl, p1 w1 H1 b (Le.refl _) s1 rfl⟩
  | _ => exact p1.elim
theorem it_din {gb : Bool} (G : Gx T X E n gb) (hi : IE T X E i mk) (ho : IE T X E o md) (hm : behindInMarks .In o = false := by rfl) : IT T X E (.Compare i [.In] [o] pos) (mTst (mDIn T.kt false mk md)) :=
  PT.imp (pt_cmp (pc_din (G.roomu) hi ho) hm) fun σ H Q p => tB_of (fun _ _ _ p => din_of p) p
theorem it_dnin {gb : Bool} (G : Gx T X E n gb) (hi : IE T X E i mk) (ho : IE T X E o md) (hm : behindInMarks .NotIn o = false := by rfl) : IT T X E (.Compare i [.NotIn] [o] pos) (mTst (mDIn T.kt true mk md)) :=
  PT.imp (pt_cmp (pc_dnotin (G.roomu) hi ho) hm) fun σ H Q p => tB_of (fun _ _ _ p => din_of p) p
/-- d[k] = e -/
def mDPut (kt : Nat → Bool) (md mk mv : ME) : MS := fun ρ h => (mv ρ h).toS ρ fun x h1 => (md ρ h1).toS ρ fun d h2 => (mk ρ h2).toS ρ fun k h3 => match d with
  | .loc j => (match h3[j]? with
    | some (.dk l) => (match keyW k with
      | some key => if l.length < sizeLine then .nx ρ (h3.set j (.dk (putW l key x))) else .bad
      | none => .bad)
    | some (.dt l) => (match keyT kt k with
      | some key => if l.length < sizeLine then .nx ρ (h3.set j (.dt (putW l key x))) else .bad
      | none => .bad)
    | _ => .bad)
  | _ => .bad
theorem is_dput {gb : Bool} (G : Gx T X E n gb) (ho : IE T X E o md) (hi : IE T X E i mk) (hv : IE T X E e mv) (hs : swapsWith e (some (.Subscript o i pos')) pos.line X.env = pure false := by rfl) : IS T X E (.Assign [.Subscript o i pos'] e pos) (mDPut T.kt md mk mv) :=
  PS.imp (ps_dput (G.roomu) ho hi hv hs) fun D σ H ⟨w, ρ, h, s, en, p⟩ => ⟨w, ρ, h, s, en, PostS.of en p fun x h1 w1 H1 v le s1 r1 p1 => ⟨w1, ρ, h1, s1, en.mono le, PostS.of (en.mono le) p1 fun d h2 w2 H2 u le2 s2 r2 p2 =>
    ⟨w2, ρ, h2, s2, en.mono (le.trans le2), PostS.of (en.mono (le.trans le2)) p2 fun k h3 w3 H3 y le3 s3 r3 p3 => by
      have rx := r1.mono (le2.trans le3)
      have rd := r2.mono le3
      cases d with
      | loc j =>
        dsimp only at p3
        cases q : h3[j]? with
        | none => rw [q] at p3; exact p3.elim
        | some c =>
          rw [q] at p3
          cases c with
          | dk l =>
            dsimp only at p3
            cases qk : keyW k with
            | none => rw [qk] at p3; exact p3.elim
            | some key =>
              rw [qk] at p3
              dsimp only at p3
              split at p3
              · rename_i hl
                obtain ⟨a, rfl, ea, m, g1, g2⟩ := loc_at s3 rd q
                have s4 := s3.write (c := .dk l) (d := .dk (putW l key x)) (u := .dK (putK m key v)) q ea trivial ⟨_, upd_same, g2.put rx⟩
                rw [keyW_ok r3 qk]
                exact ⟨a, _, rfl, DPut.k g1 (by rw [← All2.length g2]; exact hl), p3 w3 σ _ (Le.refl _) s4 (en.mono ((le.trans le2).trans le3))⟩
              · exact p3.elim
          | dt l =>
            dsimp only at p3
            cases qk : keyT T.kt k with
            | none => rw [qk] at p3; exact p3.elim
            | some key =>
              rw [qk] at p3
              dsimp only at p3
              split at p3
              · rename_i hl
                obtain ⟨a, rfl, ea, m, g1, g2⟩ := loc_at s3 rd q
                obtain ⟨b, rfl, hb⟩ := keyT_ok s3 r3 qk
                have s4 := s3.write (c := .dt l) (d := .dt (putW l key x)) (u := .dT (putK m key v)) q ea trivial ⟨_, upd_same, g2.put rx⟩
                exact ⟨a, _, rfl, DPut.t g1 hb (by rw [← All2.length g2]; exact hl), p3 w3 σ _ (Le.refl _) s4 (en.mono ((le.trans le2).trans le3))⟩
              · exact p3.elim
          | _ => exact p3.elim
      | _ => exact p3.elim⟩⟩⟩
end
end Fz

/-! any, all; an __init__ that leaves its instance's fields as data -/
namespace Fz
open PySem PySem.Spec PyProof.Rows L2
def blsW : List W → Option (List Bool)
  | [] => some []
  | .bl b :: l => match blsW l with
    | some bs => some (b :: bs)
    | none => none
  | _ => none
theorem blsW_ok {T : Tab} {w : Wd} : ∀ {l : List W} {vs : List V} {bs : List Bool}, VRs T w l vs → blsW l = some bs → vs = bs.map V.bl
  | [], _, _, .nil, e => by cases e; rfl
  | x :: l, _, bs, .cons a b, e => by
    cases x with
    | bl c =>
      have e : (match blsW l with | some bs => some (c :: bs) | none => none) = some bs := e
      cases q : blsW l with
      | none => rw [q] at e; cases e
      | some bs2 =>
        rw [q] at e
        cases e
        cases a
        rw [blsW_ok b q]
        rfl
    | _ => cases e
def fAnyL (f : List Bool → Bool) : FA := fun xs h => match xs with
  | [x] => (match rdL h x with
    | some l => (match blsW l with
      | some bs => some (.bl (f bs))
      | none => none)
    | none => none)
  | _ => none
theorem c_anyL {T : Tab} (f : List Bool → Bool) : CallI T (fAnyL f) (fun vs H Q => ∃ (a : Addr) (bs : List Bool), vs = [V.ref a] ∧ SqL T.K H a (bs.map V.bl) ∧ Q (.bl (f bs)) H) := fun w h H xs vs z Q s r e q => by
  unfold fAnyL at e
  split at e
  · rename_i x
    obtain ⟨v, rfl, r1⟩ := all1 r
    cases ql : rdL h x with
    | none => rw [ql] at e; cases e
    | some l =>
      rw [ql] at e
      dsimp only at e
      cases qb : blsW l with
      | none => rw [qb] at e; cases e
      | some bs =>
        rw [qb] at e
        cases e
        obtain ⟨a, us, rfl, g1, g2⟩ := rdL_at s r1 ql
        rw [blsW_ok g2 qb] at g1
        exact ⟨a, bs, rfl, g1, q w H _ (Le.refl w) s rfl⟩
  · cases e
section
variable {T : Tab} {X : Cx} {E : WX} {n : Nat} {a : Expr} {ma : ME} {pos p : Pos}
theorem i_any1 (G : Gd T X E n) (ha : IE T X E a ma) (hm : X.mg "any" = none) (hg : Gl X "any" := by rfl) (hs : starEach [a] X.env = (false, eval a X.env) :: starEach [] X.env := by rfl) : IE T X E (.Call (.Name "any" p) [a] [] pos) (mCB (fAnyL fun bs => bs.any id) (mCons ma mNil)) :=
  i_cb (c_anyL (T := T) _) (G.K ▸ cr_any G.calm) hg hm (by decide +kernel) (ia_cons ha ia_nil hs) (by decide +kernel) (by decide +kernel) hs rfl
theorem i_all1 (G : Gd T X E n) (ha : IE T X E a ma) (hm : X.mg "all" = none) (hg : Gl X "all" := by rfl) (hs : starEach [a] X.env = (false, eval a X.env) :: starEach [] X.env := by rfl) : IE T X E (.Call (.Name "all" p) [a] [] pos) (mCB (fAnyL fun bs => bs.all id) (mCons ma mNil)) :=
  i_cb (c_anyL (T := T) _) (G.K ▸ cr_all G.calm) hg hm (by decide +kernel) (ia_cons ha ia_nil hs) (by decide +kernel) (by decide +kernel) hs rfl
end
/-! ### __init__ -/
/-- the fields of the instance that is made become data, its other cells are given up -/
def endIns (x : Option W) (m : R W) : R W := m.bind fun v h => match x with
  | some (.loc j) => (match h[j]? with
    | some (.ins c vs) => (match frzL (frzW 8) vs h with
      | some (vs', h') => (match h'[j]? with
        | some (.ins c' _) => if c' = c then .ok v (h'.set j (.ins c vs')) else .bad
        | _ => .bad)
      | none => .bad)
    | _ => .bad)
  | _ => .bad
def fnI (nv k : Nat) (m : MS) : Fn := fun xs h => trimR h.length (endIns xs.head? (fnB nv k m xs h))
theorem post_end {T : Tab} {w : Wd} {Q : VK} {E : XK} {j : Nat} {a : Addr} (ha : VR T w (.loc j) (.ref a)) {m : R W} (p : Post T (VR T) w Q E (endIns (some (.loc j)) m)) : Post T (VR T) w Q E m :=
  Post.bind p fun v h w1 H1 u le s1 r1 p1 => by
    dsimp only at p1
    cases q : h[j]? with
    | none => rw [q] at p1; exact p1.elim
    | some d =>
      rw [q] at p1
      cases d with
      | ins c vs =>
        dsimp only at p1
        obtain ⟨b, e0, eb, dx, us, g1, g2, g3⟩ := loc_at s1 (ha.mono le) q
        cases e0
        cases qf : frzL (frzW 8) vs h with
        | none => rw [qf] at p1; exact p1.elim
        | some t =>
          obtain ⟨vs', h'⟩ := t
          rw [qf] at p1
          dsimp only at p1
          obtain ⟨w2, f, v2⟩ := frzL_ok (frzW_ok 8) vs h vs' h' w1 H1 us s1 g2 qf
          cases qj : h'[j]? with
          | none => rw [qj] at p1; exact p1.elim
          | some d' =>
            rw [qj] at p1
            cases d' with
            | ins c' us' =>
              dsimp only at p1
              split at p1
              · rename_i hc
                subst hc
                have eb2 : w2.cl[j]? = some a := by rw [f.cl]; exact eb
                obtain ⟨b', e0', _, dx', us2, k1, k2, k3⟩ := loc_at f.st (⟨a, rfl, eb2⟩ : VR T w2 (.loc j) (.ref a)) qj
                cases e0'
                have hl : vs'.length ≤ (T.fl c').length := by rw [All2.length v2, ← All2.length g2]; exact g3
                have s3 := f.st.write (c := .ins c' us') (d := .ins c' vs') (u := .ins (T.ca c') dx ((T.fl c').zip us)) qj eb2 trivial ⟨dx, us, upd_same, v2, hl⟩
                have eu : upd H1 a (.ins (T.ca c') dx ((T.fl c').zip us)) = H1 := by
                  funext b
                  by_cases z : b = a
                  · subst z
                    rw [upd_same, g1]
                  · rw [upd_ne z]
                rw [eu] at s3
                exact p1 w2 H1 u f.le s3 (r1.mono f.le)
              · exact p1.elim
            | _ => exact p1.elim
      | _ => exact p1.elim
theorem fnI_arity {nv k : Nat} {m : MS} : Arity (fnI nv k m) k := fun xs h ne => by
  unfold fnI fnB
  rw [if_neg ne]
  rfl
theorem fn_okI {T : Tab} {P : Program} {w : World} {mg : Str → Option Value} {base : Heap} {x qual : Str} {params : Arguments} {body : List Stmt} {scope : Scope} {dvs : List V} {kws : List (Str × V)} {f : Addr} {fd : FuncData} {N ps : List Str} {n : Nat} {m : MS} {nv k : Nat}
    (F : FunD T.K x qual params body scope dvs kws f fd) (S : FnScope N ps scope) (hn : N.length = nv := by rfl) (hk : ps.length = k := by rfl)
    (hb : ∀ (cdv : Value) (A : Around) (outer : List Env) (s : Shared) (H : Hp) (E : XK), Gd T (cxOf (L2.CX P w) P w T.K mg base N qual scope f cdv A outer s H E) (cxE E) n →
      ISs T (cxOf (L2.CX P w) P w T.K mg base N qual scope f cdv A outer s H E) (cxE E) body m) : FnOk P w T.K mg base (L2.CX P w) (n + 1) f fd ps (spI T k (fnI nv k m)) := by
  refine F.ok S (fun vs H Q E ⟨w, h, xs, s, r, l, _⟩ => by rw [l, hk]) fun cdv A outer s H vs Q E hr ⟨w, h, xs, st, r, l, p⟩ => ?_
  refine ⟨_, hb cdv A outer s H E (gd_mk rfl rfl S.nd hr (takes_of rfl rfl rfl rfl) (passes_of rfl)), w, _, h, st, start_env r hn, ?_⟩
  have p1 : Post T (VR T) w Q E (fnB nv k m xs h) := by
    have p0 := post_trim st p
    cases xs with
    | nil =>
      cases qb : fnB nv k m [] h with
      | ok v h1 => rw [qb] at p0; exact p0.elim
      | exc c vs h1 => rw [qb] at p0; exact p0
      | bad => rw [qb] at p0; exact p0
    | cons x xs =>
      cases r with
      | cons r1 r2 =>
        cases x with
        | loc j =>
          obtain ⟨a, rfl, ea⟩ := r1
          exact post_end ⟨a, rfl, ea⟩ p0
        | _ =>
          cases qb : fnB nv k m (_ :: xs) h with
          | ok v h1 => rw [qb] at p0; exact p0.elim
          | exc c vs h1 => rw [qb] at p0; exact p0
          | bad => rw [qb] at p0; exact p0
  unfold fnB at p1
  rw [if_pos (by rw [All2.length r, l])] at p1
  rw [l]
  exact post_body (h := h) p1
end Fz

/-! t.index, a class's constants, min and max of a list -/
namespace Fz
open PySem PySem.Spec PyProof.Rows L2
def strsW : List W → Option (List Str)
  | [] => some []
  | .str s :: l => match strsW l with
    | some r => some (s :: r)
    | none => none
  | _ => none
def intsW : List W → Option (List Int)
  | [] => some []
  | .int s :: l => match intsW l with
    | some r => some (s :: r)
    | none => none
  | _ => none
theorem strsW_ok {T : Tab} {w : Wd} : ∀ {l : List W} {vs : List V} {bs : List Str}, VRs T w l vs → strsW l = some bs → vs = bs.map V.str
  | [], _, _, .nil, e => by cases e; rfl
  | x :: l, _, bs, .cons a b, e => by
    cases x with
    | str c =>
      have e : (match strsW l with | some r => some (c :: r) | none => none) = some bs := e
      cases q : strsW l with
      | none => rw [q] at e; cases e
      | some r =>
        rw [q] at e
        cases e
        cases a
        rw [strsW_ok b q]
        rfl
    | _ => cases e
theorem intsW_ok {T : Tab} {w : Wd} : ∀ {l : List W} {vs : List V} {bs : List Int}, VRs T w l vs → intsW l = some bs → vs = bs.map V.int
  | [], _, _, .nil, e => by cases e; rfl
  | x :: l, _, bs, .cons a b, e => by
    cases x with
    | int c =>
      have e : (match intsW l with | some r => some (c :: r) | none => none) = some bs := e
      cases q : intsW l with
      | none => rw [q] at e; cases e
      | some r =>
        rw [q] at e
        cases e
        cases a
        rw [intsW_ok b q]
        rfl
    | _ => cases e
def firstI (z : Str) : List Str → Option Nat
  | [] => none
  | y :: l => if y = z then some 0 else (firstI z l).map (· + 1)
theorem firstI_ok {z : Str} : ∀ {l : List Str} {j : Nat}, firstI z l = some j → l[j]? = some z ∧ ∀ m, m < j → l[m]? ≠ some z
  | y :: l, j, e => by
    unfold firstI at e
    split at e
    · rename_i h
      cases e
      exact ⟨by rw [h]; rfl, fun m hm => absurd hm (Nat.not_lt_zero m)⟩
    · rename_i h
      cases q : firstI z l with
      | none => rw [q] at e; cases e
      | some k =>
        rw [q] at e
        simp only [Option.map_some, Option.some.injEq] at e
        subst e
        obtain ⟨h1, h2⟩ := firstI_ok q
        refine ⟨by simpa using h1, fun m hm => ?_⟩
        cases m with
        | zero =>
          intro h3
          exact h (Option.some.inj h3)
        | succ m =>
          have := h2 m (by omega)
          simpa using this
section
variable {T : Tab} {X : Cx} {E : WX} {n : Nat} {a e o : Expr} {ma m mo : ME} {pos p apos cpos : Pos}
/-- t.index(e), t a written tuple of texts -/
def mStrIdx (ys : List Str) (m : ME) : ME := fun ρ h => (m ρ h).bind fun y h2 => match y with
  | .str z => (match firstI z ys with
    | some j => .ok (.int (j : Nat)) h2
    | none => .bad)
  | _ => .bad
def tupD (K : PySem.W.Frag) (x : Str) : Bool := match K.lookup (He.ga K x) with
  | some ⟨.type c, none, _, _⟩ => decide (c = "tuple")
  | _ => false
theorem i_strIdx {x : Str} {a : Addr} {ys : List Str} {gb : Bool} (G : Gx T X E n gb) (hm : X.mg x = some (.ref a)) (kt : KTp X.K a (ys.map V.str)) (kd : ∃ o, X.K.lookup a = some o ∧ o.cls = .type "tuple" ∧ o.dict = none) (he : IE T X E e m) (hg : Gl X x := by rfl) (hd : (x == ("__debug__" : Str)) = false := by decide +kernel)
    (hbase : attributeBase (.Name x p) "index" X.env (eval (.Name x p) X.env) = eval (.Name x p) X.env := by rfl)
    (hfew : ((backTo cpos (starEach [e] X.env)).all (fun x => !x.1) && (backToKw cpos (keywordEach [] X.env)).all (fun x => x.1.isSome)
      && decide ([e].length + ([] : List Keyword).length + (if ([] : List Keyword).isEmpty then 0 else 1) < 30)) = true := by rfl)
    (hline : (apos.endLine == cpos.line) = true := by rfl) (hs : starEach [e] X.env = (false, eval e X.env) :: starEach [] X.env := by rfl) (hplain : (backTo cpos (starEach [] X.env)).any (·.1) = false := by rfl) :
    IE T X E (.Call (.Attribute (.Name x p) "index" apos) [e] [] cpos) (mStrIdx ys m) :=
  PE.imp (pe_bm PySem.F.plainAttrs_tuple PySem.F.slot_tuple_index PySem.F.type_tuple_index mt_tup_index (pe_glob (v := .ref a) hg hm rfl hd) (pa_cons he pa_nil hs) hbase hfew hline hs hplain) fun σ H Q ⟨w, ρ, h, s, en, p⟩ =>
    ⟨.inr (.inl ⟨rfl, kd⟩), w, ρ, h, s, en, Post.bind p fun y h2 w2 H2 u le2 s2 r2 p2 => by
      cases y with
      | str z =>
        dsimp only at p2
        cases q2 : firstI z ys with
        | none => rw [q2] at p2; exact p2.elim
        | some j =>
          rw [q2] at p2
          cases r2
          obtain ⟨f1, f2⟩ := firstI_ok q2
          exact ⟨a, ys, z, j, rfl, rfl, .inr kt, f1, f2, p2 w2 H2 _ (Le.refl _) s2 rfl⟩
      | _ => exact p2.elim⟩
theorem tupD_ok {K : PySem.W.Frag} {x : Str} (h : tupD K x = true) : ∃ o, K.lookup (He.ga K x) = some o ∧ o.cls = .type "tuple" ∧ o.dict = none := by
  unfold tupD at h
  split at h
  · rename_i c d sl e
    have : c = "tuple" := of_decide_eq_true h
    exact ⟨_, e, congrArg Value.type this, rfl⟩
  · cases h
/-- a class's constant -/
theorem i_ccon {x f : Str} {c : Nat} {mc : Value} {v : V} {z : W} (hm : X.mg x = some (.ref (T.ca c))) (R : ClX.CRead X.K (T.ca c) mc) (C : ∃ u, ClX.CVal X.K (T.ca c) mc f v u) (k : KV T z v) (hg : Gl X x := by rfl) (hd : (x == ("__debug__" : Str)) = false := by decide +kernel) (hb : attributeBase (.Name x p) f X.env (eval (.Name x p) X.env) = eval (.Name x p) X.env := by rfl) : IE T X E (.Attribute (.Name x p) f pos) (mC z) :=
  PE.imp (ClX.pe_cval (pe_glob (v := .ref (T.ca c)) hg hm rfl hd) hb) fun σ H Q ⟨w, ρ, h, s, en, q⟩ => by
    obtain ⟨u, C⟩ := C
    exact ⟨T.ca c, mc, v, u, rfl, R, C, q w H v (Le.refl _) s k.vr⟩
def creadB (K : PySem.W.Frag) (C : Addr) (mc : Value) : Bool := PySem.W.readsIn K C mc && He.eqO (PySem.W.specialIn K (.ref C) "__getattribute__") (some (some (.builtin "type.__getattribute__")))
theorem creadB_ok {K : PySem.W.Frag} {C : Addr} {mc : Value} (h : creadB K C mc = true) : ClX.CRead K C mc := ⟨(He.ba h).1, He.eqO_ok (He.ba h).2⟩
def cvalB (K : PySem.W.Frag) (C : Addr) (mc : Value) (f : Str) (i : Int) : Bool := match PySem.W.findCls K (.ref C) mc f with
  | some (.val (.int j _)) => decide (j = i)
  | _ => false
theorem cvalB_ok {K : PySem.W.Frag} {C : Addr} {mc : Value} {f : Str} {i : Int} (h : cvalB K C mc f i = true) : ∃ u, ClX.CVal K C mc f (.int i) u := by
  unfold cvalB at h
  split at h
  · rename_i j t e
    have : j = i := of_decide_eq_true h
    subst this
    exact ⟨_, e, ⟨t, rfl⟩⟩
  · cases h
/-- the greatest and the least of a list -/
def maxL : Int → List Int → Int
  | m, [] => m
  | m, x :: l => maxL (if m < x then x else m) l
def minL : Int → List Int → Int
  | m, [] => m
  | m, x :: l => minL (if x < m then x else m) l
theorem maxL_ok : ∀ (l : List Int) (m : Int), (maxL m l = m ∨ maxL m l ∈ l) ∧ m ≤ maxL m l ∧ ∀ y ∈ l, y ≤ maxL m l
  | [], m => ⟨.inl rfl, Int.le_refl _, fun y h => by cases h⟩
  | x :: l, m => by
    unfold maxL
    obtain ⟨h1, h2, h3⟩ := maxL_ok l (if m < x then x else m)
    generalize maxL (if m < x then x else m) l = r at *
    have a1 : m ≤ (if m < x then x else m) := by split <;> omega
    have a2 : x ≤ (if m < x then x else m) := by split <;> omega
    refine ⟨?_, Int.le_trans a1 h2, fun y hy => ?_⟩
    · rcases h1 with h1 | h1
      · rw [h1]
        split
        · exact .inr (List.mem_cons_self ..)
        · exact .inl rfl
      · exact .inr (List.mem_cons_of_mem _ h1)
    · rcases List.mem_cons.mp hy with rfl | hy
      · exact Int.le_trans a2 h2
      · exact h3 y hy
theorem minL_ok : ∀ (l : List Int) (m : Int), (minL m l = m ∨ minL m l ∈ l) ∧ minL m l ≤ m ∧ ∀ y ∈ l, minL m l ≤ y
  | [], m => ⟨.inl rfl, Int.le_refl _, fun y h => by cases h⟩
  | x :: l, m => by
    unfold minL
    obtain ⟨h1, h2, h3⟩ := minL_ok l (if x < m then x else m)
    generalize minL (if x < m then x else m) l = r at *
    have a1 : (if x < m then x else m) ≤ m := by split <;> omega
    have a2 : (if x < m then x else m) ≤ x := by split <;> omega
    refine ⟨?_, Int.le_trans h2 a1, fun y hy => ?_⟩
    · rcases h1 with h1 | h1
      · rw [h1]
        split
        · exact .inr (List.mem_cons_self ..)
        · exact .inl rfl
      · exact .inr (List.mem_cons_of_mem _ h1)
    · rcases List.mem_cons.mp hy with rfl | hy
      · exact Int.le_trans h2 a2
      · exact h3 y hy
def fExtL (f : Int → List Int → Int) : FA := fun xs h => match xs with
  | [x] => (match rdL h x with
    | some l => (match intsW l with
      | some (i :: r) => some (.int (f i r))
      | _ => none)
    | none => none)
  | _ => none
theorem c_extL (f : Int → List Int → Int) (P : Int → Int → Prop) (anti : ∀ a b, P a b → P b a → a = b) (hf : ∀ l m, (f m l = m ∨ f m l ∈ l) ∧ P m (f m l) ∧ ∀ y ∈ l, P y (f m l)) :
    CallI T (fExtL f) (fun vs H Q => ∃ (a : Addr) (ns : List Int), vs = [V.ref a] ∧ SqL T.K H a (ns.map V.int) ∧ 0 < ns.length ∧ ∀ m, m ∈ ns → (∀ y, y ∈ ns → P y m) → Q (.int m) H) := fun w h H xs vs z Q s r e q => by
  unfold fExtL at e
  split at e
  · rename_i x
    obtain ⟨v, rfl, r1⟩ := all1 r
    cases ql : rdL h x with
    | none => rw [ql] at e; cases e
    | some l =>
      rw [ql] at e
      dsimp only at e
      cases qb : intsW l with
      | none => rw [qb] at e; cases e
      | some bs =>
        rw [qb] at e
        cases bs with
        | nil => cases e
        | cons i rs =>
          cases e
          obtain ⟨a, us, rfl, g1, g2⟩ := rdL_at s r1 ql
          rw [intsW_ok g2 qb] at g1
          obtain ⟨h1, h2, h3⟩ := hf rs i
          refine ⟨a, i :: rs, rfl, g1, Nat.succ_pos _, fun m hm hy => ?_⟩
          have : m = f i rs := anti _ _ (by
            rcases List.mem_cons.mp hm with rfl | hm
            · exact h2
            · exact h3 m hm) (hy _ (by
            rcases h1 with h1 | h1
            · rw [h1]; exact List.mem_cons_self ..
            · exact List.mem_cons_of_mem _ h1))
          rw [this]
          exact q w H _ (Le.refl w) s rfl
  · cases e
theorem i_maxL (G : Gd T X E n) (ha : IE T X E a ma) (hm : X.mg "max" = none) (hg : Gl X "max" := by rfl) (hs : starEach [a] X.env = (false, eval a X.env) :: starEach [] X.env := by rfl) : IE T X E (.Call (.Name "max" p) [a] [] pos) (mCB (fExtL maxL) (mCons ma mNil)) :=
  i_cb (c_extL (T := T) maxL (fun a b => a ≤ b) (fun a b => Int.le_antisymm) maxL_ok) (G.K ▸ cr_max G.calm) hg hm (by decide +kernel) (ia_cons ha ia_nil hs) (by decide +kernel) (by decide +kernel) hs rfl
theorem i_minL (G : Gd T X E n) (ha : IE T X E a ma) (hm : X.mg "min" = none) (hg : Gl X "min" := by rfl) (hs : starEach [a] X.env = (false, eval a X.env) :: starEach [] X.env := by rfl) : IE T X E (.Call (.Name "min" p) [a] [] pos) (mCB (fExtL minL) (mCons ma mNil)) :=
  i_cb (c_extL (T := T) minL (fun a b => b ≤ a) (fun a b x y => Int.le_antisymm y x) minL_ok) (G.K ▸ cr_min G.calm) hg hm (by decide +kernel) (ia_cons ha ia_nil hs) (by decide +kernel) (by decide +kernel) hs rfl
end
end Fz

/-! a list comprehension of two generators -/
namespace Fz
open PySem PySem.Spec PyProof.Rows L2
/-- the inner walk: what is left is the heap -/
def lcI (src : Src) (g : MG) (t : MT) (e : ME) (ρ : EnvW) (d : Nat) : Nat → Nat → List Cell → R Unit
  | 0, _, _ => .bad
  | k + 1, i, h => match src i h with
    | none => .bad
    | some none => .ok () h
    | some (some x) => (match g x ρ h with
      | .nx ρ1 h1 => (noX (t ρ1 h1)).bind fun b h2 => if b = true then (noX (e ρ1 h2)).bind fun y h3 => (match h3[d]? with
          | some (.lst l) => if l.length < sizeLine then lcI src g t e ρ d k (i + 1) (h3.set d (.lst (l ++ [y]))) else .bad
          | _ => .bad)
        else lcI src g t e ρ d k (i + 1) h2
      | _ => .bad)
def lcO (src : Src) (g : MG) (t : MT) (mi : MI) (g1 : MG) (t1 : MT) (e : ME) (vs1 : List Nat) (ρ : EnvW) (d : Nat) : Nat → Nat → List Cell → R W
  | 0, _, _ => .bad
  | k + 1, i, h => match src i h with
    | none => .bad
    | some none => .ok (.loc d) h
    | some (some x) => (match g x ρ h with
      | .nx ρ1 h1 => (noX (t ρ1 h1)).bind fun b h2 => if b = true then (noX (mi ρ1 h2)).bind fun s h3 => (lcI s.1 g1 t1 e (wipeW ρ1 vs1) d s.2 0 h3).bind fun _ h4 => lcO src g t mi g1 t1 e vs1 ρ d k (i + 1) h4
        else lcO src g t mi g1 t1 e vs1 ρ d k (i + 1) h2
      | _ => .bad)
def mLc2 (m0 : MI) (g : MG) (t : MT) (mi : MI) (g1 : MG) (t1 : MT) (e : ME) (vs vs1 : List Nat) : ME := fun ρ h => (m0 ρ h).bind fun s h1 => lcO s.1 g t mi g1 t1 e vs1 (wipeW ρ vs) h1.length s.2 0 (h1 ++ [.lst []])
section
variable {T : Tab} {X : Cx} {E : WX} {n : Nat} {elt tg iter tg1 iter1 : Expr} {me : ME} {pos : Pos}
theorem i_lc2 {ifs ifs1 : List Expr} {scope : Scope} (own : List (Str × Nat)) (vs1 : List Nat) {m0 mi : MI} {g g1 : MG} {t t1 : MT} (G : Gd T X E n) (hi : II T X E tg iter m0) (ok : blkC X.N X.env.scope scope own = true) (hv : ∀ i ∈ vs1, i ∈ own.map (·.2))
    (hg : ∀ (s : Shared) (H : Hp) (C : Addr) (cl : List (Str × Addr)) (fp : List Addr), Gd T (X.blk s H scope (compEnvC scope cl C X.env) fp) F0 n → PG (X.blk s H scope (compEnvC scope cl C X.env) fp) tg (tgV T (own.map (·.2)) g))
    (ht : ∀ (s : Shared) (H : Hp) (C : Addr) (cl : List (Str × Addr)) (fp : List Addr), Gd T (X.blk s H scope (compEnvC scope cl C X.env) fp) F0 n → PTs (X.blk s H scope (compEnvC scope cl C X.env) fp) ifs (ttI T F0 t))
    (hi1 : ∀ (s : Shared) (H : Hp) (C : Addr) (cl : List (Str × Addr)) (fp : List Addr), Gd T (X.blk s H scope (compEnvC scope cl C X.env) fp) F0 n → II T (X.blk s H scope (compEnvC scope cl C X.env) fp) F0 tg1 iter1 mi)
    (hg1 : ∀ (s : Shared) (H : Hp) (C : Addr) (cl : List (Str × Addr)) (fp : List Addr), Gd T (X.blk s H scope (compEnvC scope cl C X.env) fp) F0 n → PG (X.blk s H scope (compEnvC scope cl C X.env) fp) tg1 (tgV T vs1 g1))
    (ht1 : ∀ (s : Shared) (H : Hp) (C : Addr) (cl : List (Str × Addr)) (fp : List Addr), Gd T (X.blk s H scope (compEnvC scope cl C X.env) fp) F0 n → PTs (X.blk s H scope (compEnvC scope cl C X.env) fp) ifs1 (ttI T F0 t1))
    (he : ∀ (s : Shared) (H : Hp) (C : Addr) (cl : List (Str × Addr)) (fp : List Addr), Gd T (X.blk s H scope (compEnvC scope cl C X.env) fp) F0 n → IE T (X.blk s H scope (compEnvC scope cl C X.env) fp) F0 elt me)
    (hs : ∀ x, foldedSetIterable iter X.env x = pure x := by intro _; rfl) (hs1 : ∀ env x, foldedSetIterable iter1 env x = pure x := by intro _ _; rfl) :
    IE T X E (.ListComp elt [⟨tg, iter, ifs, 0⟩, ⟨tg1, iter1, ifs1, 0⟩] scope pos) (mLc2 m0 g t mi g1 t1 me (own.map (·.2)) vs1) :=
  PE.imp (pe_lc2 G.calm G.nd hi (blkOk_by ok) hv (fun s H C cl fp => hg s H C cl fp G.blk) (fun s H C cl fp => ht s H C cl fp G.blk) (fun s H C cl fp => hi1 s H C cl fp G.blk) (fun s H C cl fp => hg1 s H C cl fp G.blk) (fun s H C cl fp => ht1 s H C cl fp G.blk) (fun s H C cl fp => he s H C cl fp G.blk) hs hs1)
    fun σ H Q ⟨w, ρ, h, s, en, p⟩ => ⟨w, ρ, h, s, en, Post.bind p fun sr h1 w1 H1 J le s1 ok1 p1 => fun D hD => by
    have s2 := s1.cell (c := .lst []) (u := .lst []) hD ⟨_, upd_same, .nil⟩
    have rD : VR T (w1.addC D) (.loc h1.length) (.ref D) := new_loc s1
    have enW := (en.mono (le.trans Le.addC)).wipe (own.map fun (z : Str × Nat) => z.2) (w := w1.addC D)
    refine ⟨fun i m H => ∃ w' h', Le (w1.addC D) w' ∧ StR T w' h' H ∧ Post T (VR T) w' Q (fun c d H' => E c d σ H') (lcO sr.1 g t mi g1 t1 me vs1 (wipeW ρ (own.map fun (z : Str × Nat) => z.2)) h1.length m i h'), ⟨sr.2, _, _, Le.refl _, s2, Post.mono Le.addC p1⟩, ?_⟩
    rintro i m H ⟨w', h', le', s', p'⟩
    cases m with
    | zero => exact p'.elim
    | succ m =>
      unfold lcO at p'
      obtain ⟨o1, o2⟩ := ok1 i w' h' H (Le.trans Le.addC le') s'
      cases ex : sr.1 i h' with
      | none => rw [ex] at p'; exact p'.elim
      | some o =>
        rw [ex] at p' o1 o2
        cases o with
        | none => exact .inl ⟨o1 rfl, p' w' H _ (Le.refl _) s' (rD.mono le')⟩
        | some y =>
          obtain ⟨go, yl⟩ := o2 y rfl
          refine .inr ⟨go, fun H' => ∃ w'' h'', Le (w1.addC D) w'' ∧ StR T w'' h'' H' ∧ Post T (VR T) w'' Q (fun c d H' => E c d σ H') (lcO sr.1 g t mi g1 t1 me vs1 (wipeW ρ (own.map fun (z : Str × Nat) => z.2)) h1.length m (i + 1) h''), fun H' q => ⟨m, Nat.lt_succ_self m, q⟩, fun x H' hy => ?_⟩
          obtain ⟨w'', l3, s3, r3⟩ := yl x H' hy
          refine ⟨w'', wipeW ρ (own.map fun (z : Str × Nat) => z.2), h', y, s3, enW.mono (le'.trans l3), r3, ?_⟩
          dsimp only at p'
          cases qg : g y (wipeW ρ (own.map fun (z : Str × Nat) => z.2)) h' with
          | nx ρ1 h2 =>
            rw [qg] at p'
            refine fun w3 σ3 H3 l4 s4 en4 z => ⟨z.trans wipe_idem, w3, ρ1, h2, s4, en4, ?_⟩
            have p3 := Post.mono (l3.trans l4) p'
            refine noX_of (Post.bind p3 fun b h3 w4 H4 b' l5 s5 rb p4 => ?_)
            cases rb
            cases b with
            | false => exact ⟨w4, h3, (le'.trans l3).trans (l4.trans l5), s5, p4⟩
            | true =>
              refine ⟨w4, ρ1, h3, s5, en4.mono l5, noX_of (Post.bind p4 fun sj h4 w5 H5 J1 l6 s6 ok2 p5 => ?_)⟩
              have l7 : Le (w1.addC D) w5 := (le'.trans l3).trans ((l4.trans l5).trans l6)
              have enV := (en4.mono (l5.trans l6)).wipe vs1
              refine ⟨fun j k H => ∃ wa ha, Le w5 wa ∧ StR T wa ha H ∧ Post T (VR T) wa Q (fun c d H' => E c d σ H') ((lcI sj.1 g1 t1 me (wipeW ρ1 vs1) h1.length k j ha).bind fun _ hb => lcO sr.1 g t mi g1 t1 me vs1 (wipeW ρ (own.map fun (z : Str × Nat) => z.2)) h1.length m (i + 1) hb), ⟨sj.2, _, _, Le.refl _, s6, p5⟩, ?_⟩
              rintro j k H ⟨wa, ha, lea, sa, pa⟩
              cases k with
              | zero => exact pa.elim
              | succ k =>
                unfold lcI at pa
                obtain ⟨q1, q2⟩ := ok2 j wa ha H lea sa
                cases ej : sj.1 j ha with
                | none => rw [ej] at pa; exact pa.elim
                | some oj =>
                  rw [ej] at pa q1 q2
                  cases oj with
                  | none => exact .inl ⟨q1 rfl, wa, ha, l7.trans lea, sa, pa⟩
                  | some yj =>
                    obtain ⟨goj, ylj⟩ := q2 yj rfl
                    refine .inr ⟨goj, fun H' => ∃ wb hb, Le w5 wb ∧ StR T wb hb H' ∧ Post T (VR T) wb Q (fun c d H' => E c d σ H') ((lcI sj.1 g1 t1 me (wipeW ρ1 vs1) h1.length k (j + 1) hb).bind fun _ hb => lcO sr.1 g t mi g1 t1 me vs1 (wipeW ρ (own.map fun (z : Str × Nat) => z.2)) h1.length m (i + 1) hb), fun H' q => ⟨k, Nat.lt_succ_self k, q⟩, fun x H' hy => ?_⟩
                    obtain ⟨wc, lc, sc, rc⟩ := ylj x H' hy
                    refine ⟨wc, wipeW ρ1 vs1, ha, yj, sc, enV.mono (lea.trans lc), rc, ?_⟩
                    dsimp only at pa
                    cases qh : g1 yj (wipeW ρ1 vs1) ha with
                    | nx ρ2 hc =>
                      rw [qh] at pa
                      refine fun wd σd Hd ld sd end_ z => ⟨z.trans wipe_idem, wd, ρ2, hc, sd, end_, ?_⟩
                      have pb := Post.mono (lc.trans ld) pa
                      dsimp only at pb
                      have pb : Post T (VR T) wd Q (fun c d H' => E c d σ H') ((noX (t1 ρ2 hc)).bind fun b h2 => (if b = true then (noX (me ρ2 h2)).bind fun y h3 => (match h3[h1.length]? with
                          | some (.lst l) => if l.length < sizeLine then lcI sj.1 g1 t1 me (wipeW ρ1 vs1) h1.length k (j + 1) (h3.set h1.length (.lst (l ++ [y]))) else .bad
                          | _ => .bad)
                        else lcI sj.1 g1 t1 me (wipeW ρ1 vs1) h1.length k (j + 1) h2).bind fun _ hb => lcO sr.1 g t mi g1 t1 me vs1 (wipeW ρ (own.map fun (z : Str × Nat) => z.2)) h1.length m (i + 1) hb) := by
                        cases qt : noX (t1 ρ2 hc) with
                        | ok b h2 => rw [qt] at pb; exact pb
                        | exc c vs h2 => rw [qt] at pb; exact pb
                        | bad => rw [qt] at pb; exact pb
                      refine noX_of (Post.bind pb fun b hd we He b' le1 se rb2 pc => ?_)
                      cases rb2
                      cases b with
                      | false => exact ⟨we, hd, (lea.trans lc).trans (ld.trans le1), se, pc⟩
                      | true =>
                        have pc : Post T (VR T) we Q (fun c d H' => E c d σ H') ((noX (me ρ2 hd)).bind fun y h3 => (match h3[h1.length]? with
                          | some (.lst l) => if l.length < sizeLine then lcI sj.1 g1 t1 me (wipeW ρ1 vs1) h1.length k (j + 1) (h3.set h1.length (.lst (l ++ [y]))) else .bad
                          | _ => .bad).bind fun _ hb => lcO sr.1 g t mi g1 t1 me vs1 (wipeW ρ (own.map fun (z : Str × Nat) => z.2)) h1.length m (i + 1) hb) := by
                          rw [if_pos rfl] at pc
                          cases qt : noX (me ρ2 hd) with
                          | ok b h2 => rw [qt] at pc; exact pc
                          | exc c vs h2 => rw [qt] at pc; exact pc
                          | bad => rw [qt] at pc; exact pc
                        refine ⟨we, ρ2, hd, se, end_.mono le1, noX_of (Post.bind pc fun v he_ wf Hf u lf sf rv pd => ?_)⟩
                        cases q : he_[h1.length]? with
                        | none => rw [q] at pd; exact pd.elim
                        | some cc =>
                          rw [q] at pd
                          cases cc with
                          | lst l =>
                            dsimp only at pd
                            split at pd
                            · rename_i hz
                              have l9 : Le w5 wf := (lea.trans lc).trans ((ld.trans le1).trans lf)
                              obtain ⟨a', e0, e2, us, e3, e4⟩ := loc_at sf (rD.mono (l7.trans l9)) q
                              cases e0
                              have s7 := sf.write (c := .lst l) (d := .lst (l ++ [v])) (u := .lst (us ++ [u])) q e2 trivial ⟨_, upd_same, e4.append (.cons rv .nil)⟩
                              exact ⟨us, e3, by rw [← e4.length]; exact hz, wf, _, l9, s7, pd⟩
                            · exact pd.elim
                          | _ => exact pd.elim
                    | _ => rw [qh] at pa; exact pa.elim
          | _ => rw [qg] at p'; exact p'.elim⟩
end
end Fz

/-! in: a sign in a text, nested data in a list; a module's text -/
namespace Fz
open PySem PySem.Spec PyProof.Rows L2
def signIn (neg : Bool) : F2 := fun x y _ => match x, y with
  | .str a, .str b => (match a.cps.toList with
    | [c] => some (.bl (cond neg (!decide (c ∈ b.cps.toList)) (decide (c ∈ b.cps.toList))))
    | _ => none)
  | _, _ => none
theorem sign_at {w : Wd} {T : Tab} {x y z : W} {v u : V} {h : List Cell} {neg : Bool} (r1 : VR T w x v) (r2 : VR T w y u) (e : signIn neg x y h = some z) :
    ∃ (c : Nat) (b : Str), v = .str ⟨#[c]⟩ ∧ u = .str b ∧ z = .bl (cond neg (!decide (c ∈ b.cps.toList)) (decide (c ∈ b.cps.toList))) := by
  cases x with
  | str a =>
    cases y with
    | str b =>
      cases r1
      cases r2
      have e : (match a.cps.toList with | [c] => some (W.bl (cond neg (!decide (c ∈ b.cps.toList)) (decide (c ∈ b.cps.toList)))) | _ => none) = some z := e
      split at e
      · rename_i c hc
        cases e
        obtain ⟨arr⟩ := a
        have : arr = #[c] := by
          apply Array.toList_inj.mp
          exact hc
        subst this
        exact ⟨c, b, rfl, rfl, rfl⟩
      · cases e
    | _ => cases e
  | _ => cases e
def dataIn (neg : Bool) : F2 := fun x y h => match toD x, rdL h y with
  | some d, some l => (match toDs l with
    | some ds => if SeqAt.shaped d = true ∧ SeqAt.shaped (.list ds) = true then some (.bl (cond neg (!ds.any fun z => PyData.eqv z d) (ds.any fun z => PyData.eqv z d))) else none
    | none => none)
  | _, _ => none
theorem dpList {T : Tab} {w : Wd} {h : List Cell} {H : Hp} (s : StR T w h H) {y : W} {u : V} {l : List W} {ds : List PyData} (r : VR T w y u) (e : rdL h y = some l) (q : toDs l = some ds) : Dp T.K H u (.list ds) := by
  obtain ⟨a, vs, rfl, h1, h2⟩ := rdL_at s r e
  exact .lst h1 (toDs_ok s l h2 q)
theorem data_at {w : Wd} {T : Tab} {x y z : W} {v u : V} {h : List Cell} {H : Hp} {neg : Bool} (s : StR T w h H) (r1 : VR T w x v) (r2 : VR T w y u) (e : dataIn neg x y h = some z) :
    ∃ d ds, Dp T.K H v d ∧ Dp T.K H u (.list ds) ∧ SeqAt.shaped d = true ∧ SeqAt.shaped (.list ds) = true ∧ z = .bl (cond neg (!ds.any fun z => PyData.eqv z d) (ds.any fun z => PyData.eqv z d)) := by
  unfold dataIn at e
  cases q1 : toD x with
  | none => rw [q1] at e; cases e
  | some d =>
    rw [q1] at e
    cases q2 : rdL h y with
    | none => rw [q2] at e; cases e
    | some l =>
      rw [q2] at e
      dsimp only at e
      cases q3 : toDs l with
      | none => rw [q3] at e; cases e
      | some ds =>
        rw [q3] at e
        dsimp only at e
        split at e
        · rename_i hc
          cases e
          exact ⟨d, ds, toD_ok s x r1 q1, dpList s r2 q2 q3, hc.1, hc.2, rfl⟩
        · cases e
section
variable {T : Tab} {X : Cx} {E : WX} {n : Nat} {a b : Expr} {ma mb : ME} {pos : Pos}
theorem o_sgIn : OpI T (signIn false) (fun x y H Q => ∃ (c : Nat) (z : Str), x = .str ⟨#[c]⟩ ∧ y = .str z ∧ Q (.bl (decide (c ∈ z.cps.toList))) H) := fun w h H x y z v u Q s r1 r2 e q => by
  obtain ⟨c, b, rfl, rfl, rfl⟩ := sign_at r1 r2 e
  exact ⟨c, b, rfl, rfl, q w H _ (Le.refl w) s rfl⟩
theorem o_sgNot : OpI T (signIn true) (fun x y H Q => ∃ (c : Nat) (z : Str), x = .str ⟨#[c]⟩ ∧ y = .str z ∧ Q (.bl (!decide (c ∈ z.cps.toList))) H) := fun w h H x y z v u Q s r1 r2 e q => by
  obtain ⟨c, b, rfl, rfl, rfl⟩ := sign_at r1 r2 e
  exact ⟨c, b, rfl, rfl, q w H _ (Le.refl w) s rfl⟩
theorem o_dtIn : OpI T (dataIn false) (rInD T.K) := fun w h H x y z v u Q s r1 r2 e q => by
  obtain ⟨d, ds, h1, h2, h3, h4, rfl⟩ := data_at s r1 r2 e
  exact ⟨d, ds, h1, h2, h3, h4, q w H _ (Le.refl w) s rfl⟩
theorem o_dtNot : OpI T (dataIn true) (rNotInD T.K) := fun w h H x y z v u Q s r1 r2 e q => by
  obtain ⟨d, ds, h1, h2, h3, h4, rfl⟩ := data_at s r1 r2 e
  exact ⟨d, ds, h1, h2, h3, h4, q w H _ (Le.refl w) s rfl⟩
/-- in, of all these -/
def fInA : F2 := fun x y h => ((fIn x y h).or (signIn false x y h)).or (dataIn false x y h)
def fNotInA : F2 := fun x y h => ((fNotIn x y h).or (signIn true x y h)).or (dataIn true x y h)
theorem room65 {A : Around} {n : Nat} (r : Room n A) : A.units + 65 < cLine := by have := r.un; omega
theorem Gx.room65 {T : Tab} {X : Cx} {E : WX} {n : Nat} {gb : Bool} (G : Gx T X E n gb) : X.A.units + 65 < cLine := by have := G.roomH.un; omega
theorem i_inA {gb : Bool} (G : Gx T X E n gb) (ha : IE T X E a ma) (hb : IE T X E b mb) (hm : behindInMarks .In b = false := by rfl) : IE T X E (.Compare a [.In] [b] pos) (mOp fInA ma mb) :=
  i_cmp ((op_in_seq.or op_in_sign).or (op_inD (G.room65))) (G.K ▸ (o_in.or o_sgIn).or o_dtIn) hm ha hb
theorem i_notInA {gb : Bool} (G : Gx T X E n gb) (ha : IE T X E a ma) (hb : IE T X E b mb) (hm : behindInMarks .NotIn b = false := by rfl) : IE T X E (.Compare a [.NotIn] [b] pos) (mOp fNotInA ma mb) :=
  i_cmp ((op_notIn_seq.or op_notIn_sign).or (op_notInD (G.room65))) (G.K ▸ (o_notIn.or o_sgNot).or o_dtNot) hm ha hb
theorem it_inA {gb : Bool} (G : Gx T X E n gb) (ha : IE T X E a ma) (hb : IE T X E b mb) (hm : behindInMarks .In b = false := by rfl) : IT T X E (.Compare a [.In] [b] pos) (mTst (mOp fInA ma mb)) :=
  it_cmp ((op_in_seq.or op_in_sign).or (op_inD (G.room65))) (G.K ▸ (o_in.or o_sgIn).or o_dtIn) hm ha hb
theorem it_notInA {gb : Bool} (G : Gx T X E n gb) (ha : IE T X E a ma) (hb : IE T X E b mb) (hm : behindInMarks .NotIn b = false := by rfl) : IT T X E (.Compare a [.NotIn] [b] pos) (mTst (mOp fNotInA ma mb)) :=
  it_cmp ((op_notIn_seq.or op_notIn_sign).or (op_notInD (G.room65))) (G.K ▸ (o_notIn.or o_sgNot).or o_dtNot) hm ha hb
/-- a name of the module that is a text, an int -/
theorem i_gstr {x z : Str} (hm : ∃ t, X.mg x = some (.str z t)) (hg : Gl X x := by rfl) (hd : (x == ("__debug__" : Str)) = false := by decide +kernel) : IE T X E (.Name x pos) (mC (.str z)) := by
  obtain ⟨t, hm⟩ := hm
  exact i_glob (v := .str z) hm ⟨t, rfl⟩ .str hg hd
theorem i_gint {x : Str} {i : Int} (hm : ∃ t, X.mg x = some (.int i t)) (hg : Gl X x := by rfl) (hd : (x == ("__debug__" : Str)) = false := by decide +kernel) : IE T X E (.Name x pos) (mC (.int i)) := by
  obtain ⟨t, hm⟩ := hm
  exact i_glob (v := .int i) hm ⟨t, rfl⟩ .int hg hd
end
end Fz

/-! l.index(i), l a list of ints -/
namespace Fz
open PySem PySem.Spec PyProof.Rows L2
def firstN (z : Int) : List Int → Option Nat
  | [] => none
  | y :: l => if y = z then some 0 else (firstN z l).map (· + 1)
theorem firstN_ok {z : Int} : ∀ {l : List Int} {j : Nat}, firstN z l = some j → l[j]? = some z ∧ ∀ (m : Nat) (y : Int), m < j → l[m]? = some y → y ≠ z
  | y :: l, j, e => by
    unfold firstN at e
    split at e
    · rename_i h
      cases e
      exact ⟨by rw [h]; rfl, fun m _ hm => absurd hm (Nat.not_lt_zero m)⟩
    · rename_i h
      cases q : firstN z l with
      | none => rw [q] at e; cases e
      | some k =>
        rw [q] at e
        simp only [Option.map_some, Option.some.injEq] at e
        subst e
        obtain ⟨h1, h2⟩ := firstN_ok q
        refine ⟨by simpa using h1, fun m x hm hx => ?_⟩
        cases m with
        | zero =>
          have : y = x := Option.some.inj hx
          exact this ▸ h
        | succ m => exact h2 m x (by omega) (by simpa using hx)
theorem ints_flat : ∀ ns : List Int, (ns.map V.int).all flatV = true
  | [] => rfl
  | _ :: ns => ints_flat ns
section
variable {T : Tab} {X : Cx} {E : WX} {n : Nat} {e o : Expr} {m mo : ME} {apos cpos : Pos}
def mLstIdx (mo m : ME) : ME := fun ρ h => (mo ρ h).bind fun x h1 => match rdL h1 x with
  | some _ => (m ρ h1).bind fun y h2 => (match rdL h2 x with
    | some l => (match intsW l, y with
      | some ns, .int z => (match firstN z ns with
        | some j => .ok (.int (j : Nat)) h2
        | none => .bad)
      | _, _ => .bad)
    | none => .bad)
  | none => .bad
theorem i_lstIdx {gb : Bool} (G : Gx T X E n gb) (ho : IE T X E o mo) (he : IE T X E e m) (hbase : attributeBase o "index" X.env (eval o X.env) = eval o X.env := by rfl)
    (hfew : ((backTo cpos (starEach [e] X.env)).all (fun x => !x.1) && (backToKw cpos (keywordEach [] X.env)).all (fun x => x.1.isSome)
      && decide ([e].length + ([] : List Keyword).length + (if ([] : List Keyword).isEmpty then 0 else 1) < 30)) = true := by rfl)
    (hline : (apos.endLine == cpos.line) = true := by rfl) (hs : starEach [e] X.env = (false, eval e X.env) :: starEach [] X.env := by rfl) (hplain : (backTo cpos (starEach [] X.env)).any (·.1) = false := by rfl) :
    IE T X E (.Call (.Attribute o "index" apos) [e] [] cpos) (mLstIdx mo m) :=
  PE.imp (pe_bm PySem.F.plainAttrs_list PySem.F.slot_list_index PySem.F.type_list_index mt_index ho (pa_cons he pa_nil hs) hbase hfew hline hs hplain) fun σ H Q ⟨w, ρ, h, s, en, p⟩ => ⟨w, ρ, h, s, en, Post.bind p fun x h1 w1 H1 v le s1 r1 p1 => by
    cases q0 : rdL h1 x with
    | none => rw [q0] at p1; exact p1.elim
    | some l0 =>
      rw [q0] at p1
      obtain ⟨a, vs, rfl, g1, g2⟩ := rdL_at s1 r1 q0
      refine ⟨.inl ⟨rfl, vs, by rw [G.K]; exact g1⟩, w1, ρ, h1, s1, en.mono le, Post.bind p1 fun y h2 w2 H2 u le2 s2 r2 p2 => ?_⟩
      cases q1 : rdL h2 x with
      | none => rw [q1] at p2; exact p2.elim
      | some l =>
        rw [q1] at p2
        obtain ⟨a', vs', e', k1, k2⟩ := rdL_at s2 (r1.mono le2) q1
        cases e'
        dsimp only at p2
        cases q : intsW l with
        | none => rw [q] at p2; exact p2.elim
        | some ns =>
          rw [q] at p2
          cases y with
          | int z =>
            dsimp only at p2
            cases q2 : firstN z ns with
            | none => rw [q2] at p2; exact p2.elim
            | some j =>
              rw [q2] at p2
              cases r2
              obtain ⟨f1, f2⟩ := firstN_ok q2
              rw [intsW_ok k2 q] at k1
              refine ⟨a, ns.map V.int, .int z, j, .int z, rfl, rfl, by rw [G.K]; exact k1, rfl, ints_flat ns, by rw [List.getElem?_map, f1]; rfl, by show (z == z) = true; simp, fun m z' hm hz => ?_, p2 w2 H2 _ (Le.refl _) s2 rfl⟩
              rw [List.getElem?_map] at hz
              cases qm : ns[m]? with
              | none => rw [qm] at hz; cases hz
              | some y =>
                rw [qm] at hz
                cases hz
                show (y == z) = false
                have := f2 m y hm qm
                simpa using this
          | _ => exact p2.elim⟩
/-- l[::-1] -/
def mRev (mo : ME) : ME := fun ρ h => (mo ρ h).bind fun x h1 => match rdL h1 x with
  | some l => .ok (.lst l.reverse) h1
  | none => .bad
theorem i_rev {p1 p2 p3 pos : Pos} {k : Nat} {gb : Bool} (G : Gx T X E n gb) (ho : IE T X E o mo) : IE T X E (.Subscript o (.Slice none none (some (.UnaryOp .USub (.Constant (.int 1) k p1) p2)) p3) pos) (mRev mo) :=
  PE.imp (pe_revL ho) fun σ H Q ⟨w, ρ, h, s, en, p⟩ => ⟨w, ρ, h, s, en, Post.bind p fun x h1 w1 H1 v le s1 r1 q1 => by
    cases q0 : rdL h1 x with
    | none => rw [q0] at q1; exact q1.elim
    | some l =>
      rw [q0] at q1
      obtain ⟨a, vs, rfl, g1, g2⟩ := rdL_at s1 r1 q0
      refine ⟨a, vs, rfl, by rw [G.K]; exact g1, fun t ht => ?_⟩
      obtain ⟨s2, le2⟩ := s1.frozen (o := .lst l.reverse) (u := .lst vs.reverse) ht ⟨_, upd_same, g2.reverse⟩
      exact q1 _ _ _ le2 s2 ⟨t, rfl, if_pos rfl⟩⟩
end
end Fz

namespace Fz
open PySem PySem.Spec PyProof.Rows L2
/-! ### meanings at a place, for simp -/
section
variable {ρ ρ' : EnvW} {h h' : List Cell} {a b : MS} {m ma mb mc mo : ME} {c ta tb : MT} {mr mk : MA} {i j k : Nat} {x y : W} {f : F2} {g : Fn} {dws l : List W} {α β : Type}
@[simp] theorem bind_ok {x : α} {f : α → List Cell → R β} : (R.ok x h).bind f = f x h := rfl
@[simp] theorem bind_exc {c : Nat} {vs : List W} {f : α → List Cell → R β} : (R.exc c vs h : R α).bind f = .exc c vs h := rfl
@[simp] theorem bind_bad {f : α → List Cell → R β} : (R.bad : R α).bind f = .bad := rfl
@[simp] theorem toS_ok {x : α} {f : α → List Cell → RS} : (R.ok x h).toS ρ f = f x h := rfl
@[simp] theorem toS_exc {c : Nat} {vs : List W} {f : α → List Cell → RS} : (R.exc c vs h : R α).toS ρ f = .exc c vs ρ h := rfl
@[simp] theorem ofO_some {x : α} : R.ofO (some x) h = .ok x h := rfl
@[simp] theorem toR_rt : (RS.rt x h).toR = .ok x h := rfl
@[simp] theorem toR_nx : (RS.nx ρ h).toR = .ok .non h := rfl
@[simp] theorem toR_exc {c : Nat} {vs : List W} : (RS.exc c vs ρ h).toR = .exc c vs h := rfl
def thn (r : RS) (b : MS) : RS := match r with
  | .nx ρ h => b ρ h
  | r => r
@[simp] theorem ap_seq : mSeq a b ρ h = thn (a ρ h) b := rfl
@[simp] theorem thn_nx : thn (.nx ρ h) b = b ρ h := rfl
@[simp] theorem thn_rt : thn (.rt x h) b = .rt x h := rfl
@[simp] theorem thn_bk : thn (.bk ρ h) b = .bk ρ h := rfl
@[simp] theorem thn_ct : thn (.ct ρ h) b = .ct ρ h := rfl
@[simp] theorem thn_exc {c : Nat} {vs : List W} : thn (.exc c vs ρ h) b = .exc c vs ρ h := rfl
@[simp] theorem thn_bad : thn .bad b = .bad := rfl
@[simp] theorem thn_ite {p : Prop} [Decidable p] {r s : RS} : thn (if p then r else s) b = if p then thn r b else thn s b := by split <;> rfl
@[simp] theorem bind_ite {p : Prop} [Decidable p] {r s : R α} {f : α → List Cell → R β} : (if p then r else s).bind f = if p then r.bind f else s.bind f := by split <;> rfl
@[simp] theorem toS_ite {p : Prop} [Decidable p] {r s : R α} {f : α → List Cell → RS} : (if p then r else s).toS ρ f = if p then r.toS ρ f else s.toS ρ f := by split <;> rfl
@[simp] theorem ap_skip : mSkip ρ h = .nx ρ h := rfl
@[simp] theorem ap_set : mSet i m ρ h = (m ρ h).toS ρ fun x h1 => .nx (ρ.set i (some x)) h1 := rfl
@[simp] theorem ap_ifS : mIfS c a b ρ h = (c ρ h).toS ρ fun x h1 => if x = true then a ρ h1 else b ρ h1 := rfl
@[simp] theorem ap_ret : mRet m ρ h = (m ρ h).toS ρ fun x h1 => .rt x h1 := rfl
@[simp] theorem ap_exp : mExp m ρ h = (m ρ h).toS ρ fun _ h1 => .nx ρ h1 := rfl
@[simp] theorem ap_c : mC x ρ h = .ok x h := rfl
theorem ap_var : mVar i ρ h = (match ρ[i]? with | some (some x) => .ok x h | _ => .bad) := rfl
@[simp] theorem var_0 {o : EnvW} : mVar 0 (some x :: o) h = .ok x h := rfl
@[simp] theorem var_s {o : EnvW} {z : Option W} : mVar (i + 1) (z :: o) h = mVar i o h := rfl
@[simp] theorem ap_op : mOp f ma mb ρ h = (ma ρ h).bind fun x h1 => (mb ρ h1).bind fun y h2 => R.ofO (f x y h2) h2 := rfl
@[simp] theorem ap_tst : mTst m ρ h = (m ρ h).bind fun x h1 => match x with | .bl b => .ok b h1 | _ => .bad := rfl
@[simp] theorem ap_tru : mTru m ρ h = (m ρ h).bind fun x h1 => R.ofO (truW h1 x) h1 := rfl
@[simp] theorem ap_not : mNot ta ρ h = (ta ρ h).bind fun x h1 => .ok (!x) h1 := rfl
@[simp] theorem ap_and : mAnd ta tb ρ h = (ta ρ h).bind fun x h1 => if x = true then tb ρ h1 else .ok false h1 := rfl
@[simp] theorem ap_or : mOr ta tb ρ h = (ta ρ h).bind fun x h1 => if x = true then .ok true h1 else tb ρ h1 := rfl
@[simp] theorem ap_nil : mNil ρ h = .ok [] h := rfl
@[simp] theorem ap_cons : mCons m mr ρ h = (m ρ h).bind fun x h1 => (mr ρ h1).bind fun l h2 => .ok (x :: l) h2 := rfl
@[simp] theorem ap_call : mCall g dws mr ρ h = (mr ρ h).bind fun xs h1 => g (xs ++ dws) h1 := rfl
@[simp] theorem ap_cb {f : FA} : mCB f mr ρ h = (mr ρ h).bind fun l h1 => R.ofO (f l h1) h1 := rfl
@[simp] theorem ap_asgG {g : MG} : mAsgG m g ρ h = (m ρ h).toS ρ fun x h1 => gOnly (g x ρ h1) := rfl
@[simp] theorem gOnly_nx : gOnly (.nx ρ h) = .nx ρ h := rfl
@[simp] theorem ap_gname : mGName i x ρ h = .nx (ρ.set i (some x)) h := rfl
@[simp] theorem fI_int {g : Int → Int → Option W} {i j : Int} : fI g (.int i) (.int j) h = g i j := rfl
@[simp] theorem fAdd_int {i j : Int} : fAdd (.int i) (.int j) h = some (.int (i + j)) := rfl
@[simp] theorem fMul_int {i j : Int} : fMul (.int i) (.int j) h = if smallI i || smallI j then some (.int (i * j)) else none := rfl
@[simp] theorem truW_bl {b : Bool} : truW h (.bl b) = some b := rfl
@[simp] theorem fInt_int {i : Int} : fInt [.int i] h = some (.int i) := rfl
@[simp] theorem fLen_lst : fLen [.lst l] h = some (.int l.length) := rfl
@[simp] theorem fLen_tup : fLen [.tup l] h = some (.int l.length) := rfl
@[simp] theorem fEq_int {i j : Int} : fEq (.int i) (.int j) h = some (.bl (decide (i = j))) := rfl
@[simp] theorem fNe_int {i j : Int} : fNe (.int i) (.int j) h = some (.bl (!decide (i = j))) := rfl
@[simp] theorem fEq_str {i j : Str} : fEq (.str i) (.str j) h = some (.bl (decide (i = j))) := rfl
@[simp] theorem fEq_bl {i j : Bool} : fEq (.bl i) (.bl j) h = some (.bl (decide (i = j))) := rfl
@[simp] theorem fIx_lst {i : Int} : fIx (.lst l) (.int i) h = atI l i := rfl
@[simp] theorem fIx_tup {i : Int} : fIx (.tup l) (.int i) h = atI l i := rfl
theorem fIx_loc {i : Int} (e : h[k]? = some (.lst l)) : fIx (.loc k) (.int i) h = atI l i := by
  show (match rdL h (.loc k) with | some l => atI l i | none => none) = _
  unfold rdL
  dsimp only
  rw [e]
theorem atI_natC {α : Type} {l : List α} {j : Nat} {x : α} (e : l[j]? = some x) : atI l (j : Int) = some x := by
  have hj := (List.getElem?_eq_some_iff.mp e).1
  unfold atI ixN
  rw [if_pos (by omega), if_pos (by omega)]
  simpa using e
theorem mGSub_loc {mo mi : ME} {k : Int} {t : Nat} (ho : mo ρ h = .ok (.loc j) h) (hi : mi ρ h = .ok (.int k) h) (e : h[j]? = some (.lst l)) (hx : ixN l.length k = some t) : mGSub mo mi x ρ h = .nx ρ (h.set j (.lst (l.set t x))) := by
  unfold mGSub
  rw [ho]
  show R.toS (mi ρ h) ρ _ = _
  rw [hi]
  show (match h[j]? with | some (.lst l) => _ | _ => _) = _
  rw [e]
  show (match ixN l.length k with | some t => _ | none => _) = _
  rw [hx]
/-- a def whose body leaves the heap at its length -/
theorem fnM_same {fz : Bool} {nv k : Nat} {m : MS} {xs : List W} (hl : xs.length = k) (e : m (xs.map some ++ List.replicate (nv - k) none) h = .rt x h') (hh : h'.length = h.length) (hx : fz = true → frzW 8 x h' = some (x, h')) : fnM fz nv k m xs h = .ok x h' := by
  have e1 : fnB nv k m xs h = .ok x h' := by
    unfold fnB
    rw [if_pos hl, e]
    rfl
  unfold fnM
  cases fz with
  | false =>
    rw [if_neg (by simp), e1]
    show (if h'.length ≤ h.length then _ else _) = _
    rw [if_pos (Nat.le_of_eq hh)]
  | true =>
    rw [if_pos rfl, e1]
    unfold frzR
    rw [bind_ok, hx rfl]
    show (if h'.length ≤ h.length then _ else _) = _
    rw [if_pos (Nat.le_of_eq hh)]
theorem frz_int {i : Int} : frzW 8 (.int i) h = some (.int i, h) := rfl
theorem frz_bl {i : Bool} : frzW 8 (.bl i) h = some (.bl i, h) := rfl
theorem frz_non : frzW 8 .non h = some (.non, h) := rfl
theorem frz_lst (e : cloL 0 l = true) : frzW 8 (.lst l) h = some (.lst l, h) := by
  show (if cloW 0 (.lst l) then _ else _) = _
  exact if_pos e
/-! ### loops by invariants -/
variable {src : Src} {gg : MG} {body : MS}
/-- P before each turn; Q of what leaves the loop in its midst (a break is what follows it) -/
theorem for_gen {xs : List W} (P : Nat → EnvW → List Cell → Prop) (Q : RS → Prop) (hsrc : ∀ i ρ h, i ≤ xs.length → P i ρ h → src i h = some xs[i]?)
    (hstep : ∀ i x ρ h, xs[i]? = some x → P i ρ h → ∃ ρ1 h1, gOnly (gg x ρ h) = .nx ρ1 h1 ∧ ((∃ ρ2 h2, (body ρ1 h1 = .nx ρ2 h2 ∨ body ρ1 h1 = .ct ρ2 h2) ∧ P (i + 1) ρ2 h2) ∨
      (∃ x h2, body ρ1 h1 = .rt x h2 ∧ Q (.rt x h2)) ∨ (∃ ρ2 h2, body ρ1 h1 = .bk ρ2 h2 ∧ Q (.nx ρ2 h2)))) :
    ∀ (m i : Nat) (ρ : EnvW) (h : List Cell), i ≤ xs.length → xs.length < i + m → P i ρ h → (∃ ρ' h', forW src gg body m i ρ h = .nx ρ' h' ∧ P xs.length ρ' h') ∨ Q (forW src gg body m i ρ h)
  | 0, i, ρ, h, hi, hm, p => absurd hm (by omega)
  | m + 1, i, ρ, h, hi, hm, p => by
    have e := hsrc i ρ h hi p
    unfold forW
    rw [e]
    cases q : xs[i]? with
    | none =>
      have : i = xs.length := Nat.le_antisymm hi (List.getElem?_eq_none_iff.mp q)
      subst this
      exact .inl ⟨ρ, h, rfl, p⟩
    | some x =>
      have hlt := (List.getElem?_eq_some_iff.mp q).1
      obtain ⟨ρ1, h1, e1, r⟩ := hstep i x ρ h q p
      dsimp only
      rw [e1]
      dsimp only
      rcases r with ⟨ρ2, h2, e2 | e2, p2⟩ | ⟨z, h2, e2, q2⟩ | ⟨ρ2, h2, e2, q2⟩
      · rw [e2]
        exact for_gen P Q hsrc hstep m (i + 1) ρ2 h2 hlt (by omega) p2
      · rw [e2]
        exact for_gen P Q hsrc hstep m (i + 1) ρ2 h2 hlt (by omega) p2
      · rw [e2]
        exact .inr q2
      · rw [e2]
        exact .inr q2
/-- no way out in the midst -/
theorem for_inv {xs : List W} (P : Nat → EnvW → List Cell → Prop) (hsrc : ∀ i ρ h, i ≤ xs.length → P i ρ h → src i h = some xs[i]?)
    (hstep : ∀ i x ρ h, xs[i]? = some x → P i ρ h → ∃ ρ1 h1 ρ2 h2, gOnly (gg x ρ h) = .nx ρ1 h1 ∧ body ρ1 h1 = .nx ρ2 h2 ∧ P (i + 1) ρ2 h2) {m : Nat} (hm : xs.length < m) (p : P 0 ρ h) :
    ∃ ρ' h', forW src gg body m 0 ρ h = .nx ρ' h' ∧ P xs.length ρ' h' := by
  rcases for_gen (src := src) (gg := gg) (body := body) P (fun _ => False) hsrc (fun i x ρ h e p => by
    obtain ⟨ρ1, h1, ρ2, h2, e1, e2, p2⟩ := hstep i x ρ h e p
    exact ⟨ρ1, h1, e1, .inl ⟨ρ2, h2, .inl e2, p2⟩⟩) m 0 ρ h (Nat.zero_le _) (by omega) p with h | h
  · exact h
  · exact h.elim
/-- the items of a range -/
def rngW (lo c : Int) (k : Nat) : List W := (List.range k).map fun i => .int (lo + (i : Nat) * c)
theorem src_rng_at {lo c : Int} {k i : Nat} (hi : i ≤ k) : srcRng lo c k i h = some (rngW lo c k)[i]? := by
  unfold srcRng rngW
  rw [List.getElem?_map]
  by_cases q : i < k
  · rw [if_pos q, List.getElem?_range q]
    rfl
  · rw [if_neg q, List.getElem?_eq_none (by simp; omega)]
    rfl
@[simp] theorem rngW_len {lo c : Int} {k : Nat} : (rngW lo c k).length = k := by simp [rngW]
theorem rngW_at {lo c : Int} {k i : Nat} {x : W} (e : (rngW lo c k)[i]? = some x) : i < k ∧ x = .int (lo + (i : Nat) * c) := by
  have hi := (List.getElem?_eq_some_iff.mp e).1
  rw [rngW_len] at hi
  unfold rngW at e
  rw [List.getElem?_map, List.getElem?_range hi] at e
  exact ⟨hi, (Option.some.inj e).symm⟩
@[simp] theorem ap_for {mi : MI} : mFor mi gg body ρ h = (mi ρ h).toS ρ fun s h1 => forW s.1 gg body s.2 0 ρ h1 := rfl
@[simp] theorem ap_rng1 : mIRng1 mr ρ h = (mr ρ h).bind fun xs h1 => match xs with | [.int j] => if inR j then .ok (srcRng 0 1 j.toNat, j.toNat + 1) h1 else .bad | _ => .bad := rfl
@[simp] theorem ap_rng2 : mIRng2 mr ρ h = (mr ρ h).bind fun xs h1 => match xs with | [.int i, .int j] => if inR i && inR j then .ok (srcRng i 1 (j - i).toNat, (j - i).toNat + 1) h1 else .bad | _ => .bad := rfl
@[simp] theorem ap_iseq : mISeq m ρ h = (m ρ h).bind fun x h1 => match seqLen h1 x with | some k => .ok (srcSeq x, k + 1) h1 | none => .bad := rfl
@[simp] theorem seqLen_scr : seqLen h (.scr l) = some l.length := rfl
@[simp] theorem seqLen_lst : seqLen h (.lst l) = some l.length := rfl
@[simp] theorem seqLen_tup : seqLen h (.tup l) = some l.length := rfl
theorem src_scr_at : srcSeq (.scr l) i h = some l[i]? := rfl
theorem src_lst_at : srcSeq (.lst l) i h = some l[i]? := rfl
theorem src_tup_at : srcSeq (.tup l) i h = some l[i]? := rfl
@[simp] theorem ap_lstC : mLstC mr ρ h = (mr ρ h).bind fun l h1 => if l.length ≤ sizeLine then .ok (.loc h1.length) (h1 ++ [.lst l]) else .bad := rfl
@[simp] theorem ap_lst : mLst mr ρ h = (mr ρ h).bind fun l h1 => if l.length ≤ sizeLine then .ok (.lst l) h1 else .bad := rfl
@[simp] theorem ap_tup : mTup mr ρ h = (mr ρ h).bind fun l h1 => if l.length ≤ sizeLine then .ok (.tup l) h1 else .bad := rfl
theorem app_loc {x : W} (ho : mo ρ h = .ok (.loc j) h) (e : h[j]? = some (.lst l)) (hx : m ρ h = .ok x h) (hl : l.length < sizeLine) : mApp mo m ρ h = .nx ρ (h.set j (.lst (l ++ [x]))) := by
  unfold mApp
  rw [ho]
  show (match h[j]? with | some (.lst _) => _ | _ => _) = _
  rw [e]
  show (m ρ h).toS ρ _ = _
  rw [hx]
  show (match h[j]? with | some (.lst l) => _ | _ => _) = _
  rw [e]
  exact if_pos hl
theorem cloL_ints {k : Nat} : ∀ ns : List Int, cloL k (ns.map .int) = true
  | [] => rfl
  | i :: ns => by
    show (_ && cloL k (ns.map .int)) = true
    rw [cloL_ints ns]
    rfl
end
end Fz

/-! what all laws do first: the draws -/
namespace Fz
open PySem PySem.Spec PyProof.Rows L2
def takeM : MS :=
    (mSeq (mAsgG (mOp fAdd (mOp fIx (mVar 1) (mC (.int 0))) (mC (.int 1))) (mGSub (mVar 1) (mC (.int 0))))
    (mSeq (mIfS (mTst (mOp fGt (mOp fIx (mVar 1) (mC (.int 0))) (mCB fLen (mCons (mVar 0) mNil)))) (mRet (mC (.int 0))) mSkip)
    (mRet (mOp fModI (mCB fInt (mCons (mOp fIx (mVar 0) (mOp fSubI (mOp fIx (mVar 1) (mC (.int 0))) (mC (.int 1)))) mNil)) (mVar 2)))))
/-- the k-th draw below size -/
def drw (ds : List Int) (k : Nat) (size : Int) : Int := match ds[k]? with
  | some d => d % size
  | none => 0
theorem drw_nn {ds : List Int} {k : Nat} {size : Int} (hs : 0 < size) : 0 ≤ drw ds k size := by
  unfold drw
  split
  · exact Int.emod_nonneg _ (by omega)
  · exact Int.le_refl 0
theorem drw_lt {ds : List Int} {k : Nat} {size : Int} (hs : 0 < size) : drw ds k size < size := by
  unfold drw
  split
  · exact Int.emod_lt_of_pos _ hs
  · exact hs
theorem take_ok {fz : Bool} {ds : List Int} {k j : Nat} {size : Int} {h : List Cell} (hj : h[j]? = some (.lst [.int (k : Int)])) (hs : 0 < size) :
    fnM fz 3 3 takeM [.lst (ds.map .int), .loc j, .int size] h = .ok (.int (drw ds k size)) (h.set j (.lst [.int ((k : Int) + 1)])) := by
  have hjl : j < h.length := (List.getElem?_eq_some_iff.mp hj).1
  have h2 : (h.set j (.lst [.int ((k : Int) + 1)]))[j]? = some (.lst [.int ((k : Int) + 1)]) := List.getElem?_set_self hjl
  have e1 : fIx (.loc j) (.int 0) h = some (.int k) := fIx_loc hj
  have e2 : fIx (.loc j) (.int 0) (h.set j (.lst [.int ((k : Int) + 1)])) = some (.int ((k : Int) + 1)) := fIx_loc h2
  have e3 : ∀ ρ, mGSub (mVar 1) (mC (.int 0)) (.int ((k : Int) + 1)) (some (.lst (ds.map .int)) :: some (.loc j) :: ρ) h = .nx (some (.lst (ds.map .int)) :: some (.loc j) :: ρ) (h.set j (.lst [.int ((k : Int) + 1)])) := fun ρ => mGSub_loc (t := 0) rfl rfl hj rfl
  refine fnM_same rfl ?_ (by simp) (fun _ => frz_int)
  show takeM [some (.lst (ds.map .int)), some (.loc j), some (.int size)] h = _
  unfold takeM drw
  cases hd : ds[k]? with
  | some d =>
    have hk : k < ds.length := (List.getElem?_eq_some_iff.mp hd).1
    have e4 : atI (ds.map W.int) (k : Int) = some (.int d) := atI_natC (by rw [List.getElem?_map, hd]; rfl)
    have hk2 : ¬ ((ds.length : Int) < (k : Int) + 1) := by omega
    simp [e1, e2, e3, e4, hs, hk2]
  | none =>
    have hk : ds.length ≤ k := List.getElem?_eq_none_iff.mp hd
    have hk2 : ((ds.length : Int) < (k : Int) + 1) := by omega
    simp [e1, e2, e3, hk2]
def drawsIn : MS := (mIfS (mTst (mOp fGt (mVar 3) (mC (.int 0)))) (mSeq (mApp (mVar 1) (mOp fModI (mCB fInt (mCons (mVar 3) mNil)) (mC (.int 1000))))
    (mSet 3 (mOp fDivI (mVar 3) (mC (.int 1000))))) mSkip)
def drawsBody : MS := (mIfS (mTst (mOp fGe (mVar 2) (mOp fPowI (mC (.int 10)) (mC (.int 18))))) (mSeq (mSet 3 (mCB fInt (mCons (mVar 2) mNil)))
    (mFor (mIRng1 (mCons (mC (.int 60)) mNil)) (mGName 4) drawsIn)) (mSeq (mSet 5 (mOp fModI (mCB fInt (mCons (mOp fAdd (mOp fMul (mVar 2) (mC (.int 48271))) (mC (.int 12345))) mNil)) (mC (.int 9973))))
    (mSeq (mApp (mVar 1) (mVar 5))
    (mApp (mVar 1) (mOp fModI (mCB fInt (mCons (mOp fAdd (mOp fAdd (mOp fMul (mVar 5) (mVar 5)) (mOp fMul (mC (.int 31)) (mVar 5))) (mOp fMul (mC (.int 17)) (mCB fLen (mCons (mVar 1) mNil)))) mNil)) (mC (.int 9949)))))))
def drawsM : MS :=
    (mSeq (mSet 1 (mLstC mNil))
    (mSeq (mFor (mISeq (mVar 0)) (mGName 2) drawsBody)
    (mRet (mVar 1))))
theorem app0 {m : ME} {ρ : EnvW} {ds : List Int} {i : Int} {a b : Option W} (hx : m (a :: some (.loc 0) :: ρ) [.lst (ds.map .int)] = .ok (.int i) [.lst (ds.map .int)]) (hl : ds.length < 100000) :
    mApp (mVar 1) m (a :: some (.loc 0) :: ρ) [.lst (ds.map .int)] = .nx (a :: some (.loc 0) :: ρ) [.lst ((ds ++ [i]).map .int)] := by
  rw [app_loc (j := 0) (l := ds.map .int) (x := .int i) rfl rfl hx (by rw [List.length_map]; exact Nat.lt_of_lt_of_le hl (by decide))]
  rw [List.map_append]
  rfl
theorem drawsIn_ok {s c o4 o5 : Option W} {r : Int} {ds : List Int} (hl : ds.length < 100000) :
    ∃ (r' : Int) (ds' : List Int), drawsIn [s, some (.loc 0), c, some (.int r), o4, o5] [.lst (ds.map .int)] = .nx [s, some (.loc 0), c, some (.int r'), o4, o5] [.lst (ds'.map .int)] ∧ ds'.length ≤ ds.length + 1 := by
  unfold drawsIn
  by_cases h : 0 < r
  · refine ⟨r / 1000, ds ++ [r % 1000], ?_, by simp⟩
    have e := app0 (m := mOp fModI (mCB fInt (mCons (mVar 3) mNil)) (mC (.int 1000))) (a := s) (b := none) (ρ := [c, some (.int r), o4, o5]) (ds := ds) (i := r % 1000) (by simp) hl
    simp [h, e]
  · exact ⟨r, ds, by simp [h], by omega⟩
theorem p64 : (2 : Int) ^ 64 = 18446744073709551616 := by decide
theorem smallI_of {i : Int} (h1 : -18446744073709551616 < i) (h2 : i < 18446744073709551616) : smallI i = true := by
  unfold smallI
  rw [p64]
  exact decide_eq_true ⟨h1, h2⟩
theorem ten18 : mOp fPowI (mC (.int 10)) (mC (.int 18)) = mC (.int 1000000000000000000) := by
  funext ρ h
  have : fPowI (.int 10) (.int 18) h = some (.int 1000000000000000000) := by
    show (if (0 : Int) ≤ 18 ∧ (18 : Int) ≤ 1000000 ∧ (10 : Int).natAbs < 2 ^ 64 then some (W.int ((10 : Int) ^ (18 : Int).toNat)) else none) = _
    rw [if_pos (by decide)]
    have : (10 : Int) ^ (Int.toNat 18) = 1000000000000000000 := by decide
    rw [this]
  show R.ofO (fPowI (.int 10) (.int 18) h) h = _
  rw [this]
  rfl
theorem drawsBody_ok {s o2 o3 o4 o5 : Option W} {c : Int} {ds : List Int} (hl : ds.length ≤ 5000) :
    ∃ (o3' o4' o5' : Option W) (ds' : List Int), drawsBody [s, some (.loc 0), some (.int c), o3, o4, o5] [.lst (ds.map .int)] = .nx [s, some (.loc 0), some (.int c), o3', o4', o5'] [.lst (ds'.map .int)] ∧ ds'.length ≤ ds.length + 60 := by
  unfold drawsBody
  rw [ten18]
  by_cases h : (1000000000000000000 : Int) ≤ c
  · obtain ⟨ρ', h', e, r', ds', o4', o5', rfl, rfl, hd⟩ := for_inv (src := srcRng 0 1 60) (gg := mGName 4) (body := drawsIn) (xs := rngW 0 1 60) (ρ := [s, some (.loc 0), some (.int c), some (.int c), o4, o5]) (h := [.lst (ds.map .int)]) (m := 61)
      (fun i ρ h => ∃ (r : Int) (ds' : List Int) (o4 o5 : Option W), ρ = [s, some (.loc 0), some (.int c), some (.int r), o4, o5] ∧ h = [.lst (ds'.map W.int)] ∧ ds'.length ≤ ds.length + i)
      (fun i ρ h hi _ => src_rng_at (by simpa using hi))
      (fun i x ρ h e ⟨r, ds', o4, o5, e1, e2, e3⟩ => by
        subst e1 e2
        obtain ⟨hi, rfl⟩ := rngW_at e
        obtain ⟨r', ds'', e4, e5⟩ := drawsIn_ok (s := s) (c := some (.int c)) (o4 := some (.int (0 + (i : Nat) * 1))) (o5 := o5) (r := r) (ds := ds') (by omega)
        exact ⟨_, _, _, _, rfl, e4, r', ds'', _, _, rfl, rfl, by omega⟩)
      (by simp) ⟨c, ds, o4, o5, rfl, rfl, Nat.le_refl _⟩
    rw [rngW_len] at hd
    refine ⟨some (.int r'), o4', o5', ds', ?_, hd⟩
    have i60 : inR 60 = true := by decide
    simp [h, i60]
    exact e
  · have e1 := app0 (m := mVar 5) (a := s) (b := none) (ρ := [some (.int c), o3, o4, some (.int ((c * 48271 + 12345) % 9973))]) (ds := ds) (i := (c * 48271 + 12345) % 9973) rfl (by omega)
    have e2 : ∃ z : Int, mOp fModI (mCB fInt (mCons (mOp fAdd (mOp fAdd (mOp fMul (mVar 5) (mVar 5)) (mOp fMul (mC (.int 31)) (mVar 5))) (mOp fMul (mC (.int 17)) (mCB fLen (mCons (mVar 1) mNil)))) mNil)) (mC (.int 9949))
        (s :: some (.loc 0) :: [some (.int c), o3, o4, some (.int ((c * 48271 + 12345) % 9973))]) [.lst ((ds ++ [(c * 48271 + 12345) % 9973]).map .int)] = .ok (.int z) [.lst ((ds ++ [(c * 48271 + 12345) % 9973]).map .int)] := by
      have h1 := Int.emod_nonneg (c * 48271 + 12345) (show (9973 : Int) ≠ 0 by decide)
      have h2 := Int.emod_lt_of_pos (c * 48271 + 12345) (show (0 : Int) < 9973 by decide)
      generalize (c * 48271 + 12345) % 9973 = q at h1 h2
      have s1 : smallI q = true := smallI_of (by omega) (by omega)
      have s2 : smallI 31 = true := by decide
      have s3 : smallI 17 = true := by decide
      have fl : ∀ l : List W, fLen [.loc 0] [.lst l] = some (.int l.length) := fun l => rfl
      simp only [ap_op, ap_cb, ap_cons, ap_nil, var_s, var_0, ap_c, bind_ok, fMul_int, s1, s2, s3, Bool.true_or, if_true, ofO_some, fAdd_int, fl, fInt_int]
      exact ⟨_, rfl⟩
    obtain ⟨z, e2⟩ := e2
    have e3 := app0 (i := z) (b := none) e2 (by simp; try omega)
    refine ⟨o3, o4, some (.int ((c * 48271 + 12345) % 9973)), ds ++ [(c * 48271 + 12345) % 9973] ++ [z], ?_, by simp⟩
    have s1 : smallI 48271 = true := by decide
    have hd : (fGe (.int c) (.int 1000000000000000000) [.lst (ds.map .int)]) = some (.bl false) := by
      show some (W.bl (decide ((1000000000000000000 : Int) ≤ c))) = _
      rw [decide_eq_false h]
    simp only [ap_ifS, ap_tst, ap_op, var_s, var_0, ap_c, bind_ok, hd, ofO_some, toS_ok, if_false, Bool.false_eq_true, ap_seq, ap_set, ap_cb, ap_cons, ap_nil, fMul_int, s1, Bool.or_true, if_true, fAdd_int, fInt_int]
    have hm : fModI (.int (c * 48271 + 12345)) (.int 9973) [.lst (ds.map .int)] = some (.int ((c * 48271 + 12345) % 9973)) := rfl
    rw [hm, ofO_some, toS_ok, thn_nx, ap_seq]
    show thn (mApp (mVar 1) (mVar 5) [s, some (W.loc 0), some (W.int c), o3, o4, some (W.int ((c * 48271 + 12345) % 9973))] [Cell.lst (List.map W.int ds)]) _ = _
    rw [e1, thn_nx]
    exact e3
theorem draws_ok {ns : List Int} (hn : ns.length ≤ 63) : ∃ ds : List Int, fnM true 6 1 drawsM [.scr (ns.map .int)] [] = .ok (.lst (ds.map .int)) [] := by
  obtain ⟨ρ', h', e, o2, o3, o4, o5, ds, rfl, rfl, hd⟩ := for_inv (src := srcSeq (.scr (ns.map .int))) (gg := mGName 2) (body := drawsBody) (xs := ns.map W.int) (ρ := [some (.scr (ns.map .int)), some (.loc 0), none, none, none, none]) (h := [.lst []]) (m := ns.length + 1)
    (fun i ρ h => ∃ (o2 o3 o4 o5 : Option W) (ds : List Int), ρ = [some (.scr (ns.map .int)), some (.loc 0), o2, o3, o4, o5] ∧ h = [.lst (ds.map W.int)] ∧ ds.length ≤ 60 * i)
    (fun i ρ h _ _ => src_scr_at)
    (fun i x ρ h e ⟨o2, o3, o4, o5, ds, e1, e2, e3⟩ => by
      subst e1 e2
      have hi := (List.getElem?_eq_some_iff.mp e).1
      rw [List.length_map] at hi
      obtain ⟨c, rfl⟩ : ∃ c, x = W.int c := by
        rw [List.getElem?_map] at e
        cases q : ns[i]? with
        | none => rw [q] at e; cases e
        | some c => rw [q] at e; exact ⟨c, (Option.some.inj e).symm⟩
      obtain ⟨o3', o4', o5', ds', e4, e5⟩ := drawsBody_ok (s := some (.scr (ns.map .int))) (o2 := none) (o3 := o3) (o4 := o4) (o5 := o5) (c := c) (ds := ds) (by omega)
      exact ⟨_, _, _, _, rfl, e4, _, _, _, _, ds', rfl, rfl, by omega⟩)
    (by simp) ⟨none, none, none, none, [], rfl, rfl, Nat.le_refl _⟩
  refine ⟨ds, ?_⟩
  have eb : fnB 6 1 drawsM [.scr (ns.map .int)] [] = .ok (.loc 0) [.lst (ds.map .int)] := by
    show (drawsM [some (.scr (ns.map .int)), none, none, none, none, none] []).toR = _
    unfold drawsM
    simp
    rw [e]
    simp
  have ef : frzW 8 (.loc 0) [.lst (ds.map .int)] = some (.lst (ds.map .int), [.dead]) := by
    show (match frzL (frzW 7) (ds.map .int) [.dead] with | some (l', h') => some (W.lst l', h') | none => none) = _
    have : ∀ l : List Int, frzL (frzW 7) (l.map .int) [.dead] = some (l.map .int, [.dead]) := fun l => by
      induction l with
      | nil => rfl
      | cons i l ih =>
        show (match frzW 7 (.int i) [.dead] with | some (y, h1) => (match frzL (frzW 7) (l.map .int) h1 with | some (l, h2) => some (y :: l, h2) | none => none) | none => none) = _
        show (match frzL (frzW 7) (l.map .int) [.dead] with | some (l, h2) => some (W.int i :: l, h2) | none => none) = _
        rw [ih]
        rfl
    rw [this]
  unfold fnM
  rw [if_pos rfl, eb]
  unfold frzR
  rw [bind_ok, ef]
  show (if (cloW 0 (W.lst (ds.map .int)) && true) = true then R.ok (W.lst (ds.map .int)) ([] : List Cell) else .bad) = _
  have : cloW 0 (W.lst (ds.map .int)) = true := cloL_ints ds
  rw [this]
  rfl
/-- a loop that looks for the first item that t finds, and returns r there -/
theorem for_test {σ : Type} {src : Src} {gg : MG} {body : MS} {h : List Cell} {xs : List W} {r : W} (t : W → Bool) (P : σ → EnvW) (hs : ∀ i, i ≤ xs.length → src i h = some xs[i]?)
    (hb : ∀ x o, x ∈ xs → ∃ ρ1, gOnly (gg x (P o) h) = .nx ρ1 h ∧ ((t x = false ∧ ∃ o', body ρ1 h = .nx (P o') h) ∨ (t x = true ∧ body ρ1 h = .rt r h))) {m : Nat} (hm : xs.length < m) (o : σ) :
    (∃ o', forW src gg body m 0 (P o) h = .nx (P o') h ∧ xs.all (fun x => !t x) = true) ∨ (forW src gg body m 0 (P o) h = .rt r h ∧ xs.all (fun x => !t x) = false) := by
  rcases for_gen (src := src) (gg := gg) (body := body) (xs := xs) (fun i ρ h' => h' = h ∧ (∃ o, ρ = P o) ∧ ∀ j, j < i → ∀ x, xs[j]? = some x → t x = false)
    (fun q => q = .rt r h ∧ ∃ x, x ∈ xs ∧ t x = true) (fun i ρ h' hi p => by rw [p.1]; exact hs i hi)
    (fun i x ρ h' e p => by
      obtain ⟨rfl, ⟨o, rfl⟩, p3⟩ := p
      have hx : x ∈ xs := List.mem_of_getElem? e
      obtain ⟨ρ1, e1, ⟨e2, o', e3⟩ | ⟨e2, e3⟩⟩ := hb x o hx
      · refine ⟨ρ1, h', e1, .inl ⟨_, _, .inl e3, rfl, ⟨o', rfl⟩, fun j hj y ey => ?_⟩⟩
        by_cases q : j = i
        · subst q
          rw [e] at ey
          cases ey
          exact e2
        · exact p3 j (by omega) y ey
      · exact ⟨ρ1, h', e1, .inr (.inl ⟨_, _, e3, rfl, x, hx, e2⟩)⟩)
    m 0 (P o) h (Nat.zero_le _) (by omega) ⟨rfl, ⟨o, rfl⟩, fun j hj => absurd hj (Nat.not_lt_zero j)⟩ with ⟨ρ', h', e, rfl, ⟨o', rfl⟩, p⟩ | ⟨e, x, hx, q⟩
  · refine .inl ⟨o', e, List.all_eq_true.mpr fun x hx => ?_⟩
    obtain ⟨j, hj, rfl⟩ := List.getElem_of_mem hx
    rw [p j hj _ (List.getElem?_eq_getElem hj)]
    rfl
  · refine .inr ⟨e, ?_⟩
    cases z : xs.all (fun x => !t x) with
    | false => rfl
    | true =>
      have := List.all_eq_true.mp z x hx
      rw [q] at this
      cases this
end Fz

namespace Fz
open PySem PySem.Spec PyProof.Rows L2

/-! ### a caught exception stands in the abstract heap -/
def ErO (cls : Value) (d : Option Addr) (a : Addr) : HO := .ext fun h => ∃ (oe : Obj) (vs : Array Value), h.get? a = some oe ∧ Zc cls d oe ∧ oe.data = .fields vs
theorem erO_at {H : Hp} {a C : Addr} {d : Option Addr} : ErrAt (upd H a (ErO (.ref C) d a)) a C d := ⟨_, upd_same, fun _ z => z⟩
section
variable {X : Cx} {pins : List (Addr × Obj)} {σ : L2.St} {H : Hp} {s : Shared}
theorem inv_track {a : Addr} {o : HO} (I : Inv X pins σ H s) (n0 : X.s_0.heap.get? a = none) (na : H a = none) (nL : a ≠ X.env.locals) (nc : ∀ x c, X.env.cells.lookup x = some c → c ≠ a) (np : ∀ p ∈ X.pn ++ pins, p.1 ≠ a) (new : ObjOk X.prog X.w (upd H a o) s.heap a o) :
    Inv X pins σ (upd H a o) s where
  ok := I.ok
  os := I.os
  bare := I.bare
  base := {
    keep := I.base.keep
    slot := I.base.slot
    free := fun b u e n hx => (upd_ne fun z => by rw [z, n0] at e; cases e).trans (I.base.free b u e n hx)
    there := I.base.there
    tups := fun b xs e => (upd_ne (ne_of_none (I.base.tups b xs e) na)).trans (I.base.tups b xs e)
    frzs := fun b u x e => (upd_ne (ne_of_none (I.base.frzs b u x e) na)).trans (I.base.frzs b u x e)
    tbls := fun b ps e => (I.base.tbls b ps e).imp fun m z => (upd_ne (ne_of_none z na)).trans z }
  loc := I.loc
  cell := I.cell
  free := (upd_ne (Ne.symm nL)).trans I.free
  freeC := fun x c e => (upd_ne (nc x c e)).trans (I.freeC x c e)
  pin := fun p hp => let ⟨e, n, r⟩ := I.pin p hp; ⟨e, (upd_ne (np p hp)).trans n, r⟩
  hok := fun b u e => by
    by_cases hb : b = a
    · rw [hb, upd_same] at e
      cases e
      rw [hb]
      exact new
    · rw [upd_ne hb] at e
      exact (I.hok b u e).stay (fun _ _ _ q => q) (fun c q => (upd_ne (ne_of_none q na)).trans q) fun c xs q => (upd_ne (ne_of_none q na)).trans q
  len := I.len
/-- an except suite's place: nothing may leave it by an exception -/
abbrev exS (X : Cx) (a : Addr) : Cx := { X with A := X.A.mark (some (.ref a)), calm := false, xe := fun _ _ => False }
theorem ok_exS (ok : X.Ok) (a : Addr) : (exS X a).Ok := { ok with hd := fun z => Bool.noConfusion (show false = true from z) }
theorem inv_exS (I : Inv X pins σ H s) (a : Addr) : Inv (exS X a) pins σ H s := { I with ok := ok_exS I.ok a }
theorem inv_ofS {a : Addr} (ok : X.Ok) (I : Inv (exS X a) pins σ H s) : Inv X pins σ H s := { I with ok := ok }
end
/-! ### clauses -/
/-- the exception at a has come to this frame -/
structure Land (X : Cx) (pins : List (Addr × Obj)) (σ : L2.St) (H : Hp) (a : Addr) (cls : Value) (d : Option Addr) (B : Heap) (sI s : Shared) : Prop where
  inv : Inv X pins σ H sI
  nb : ∀ b o, sI.heap.get? b = some o → b ∉ frs X.stack → B.get? b = some o
  up : sI.heap.UpToSlots s.heap
  fl : HandSPX.FlyingZ B (X.env :: X.outer) a (Zc cls d) s.heap
  na : H a = none
  os : s.os = sI.os
  ag : AllBare s.gens
/-- what clauses do of an exception that W speaks of -/
def PH (X : Cx) (hs : List ExceptHandler) (W : Ends → WX) : Prop :=
  ∀ (pins : List (Addr × Obj)) (D : Ends) (σ : L2.St) (H : Hp) (a : Addr) (cls : Value) (d : Option Addr) (B : Heap) (sI s : Shared), Land X pins σ H a cls d B sI s → W D cls d σ H → wpAny (model X.prog X.w) X.A (handleBy (.ref a) X.env hs) (SP X pins D) X.xe s
section
variable {X : Cx} {Wout : WX}
theorem ph_nil (hs : X.stack = X.env :: X.outer) (hf : X.env.frame = some X.env.locals) (tk : L2.Takes X Wout) : PH X [] (fun _ => Wout) := by
  intro pins D σ H a cls d B sI s L w
  refine wpAny_handleBy_nil ?_
  have fl := L.fl
  obtain ⟨_, _, _, oe, vs, tb, _, _, ge, _, de, ve, _⟩ := fl
  have last : wpAny (model X.prog X.w) X.A (setFlight (.ref a) X.env.frame) (fun _ s' => wpAny (model X.prog X.w) X.A (throw (.ref a) : Sem Flow) (SP X pins D) X.xe s') X.xe s := by
    rw [hf]
    exact HandSPX.setFlight_upZ L.fl fun h' held up' => wpAny_throw (tk _ _ ⟨a, B, sI, pins, σ, H, cls, d, rfl, L.inv, L.nb, L.up.trans up', .inr (.inr (by rw [hs]; exact held)), L.na, L.os, L.ag, w⟩)
  unfold PySem.passOn
  refine wpAny_bind (wpAny_field ge de ve ?_)
  rw [if_neg (show ¬ ((Value.ref tb == Value.none) = true) from by simp)]
  first
    | exact wpAny_bind (wpAny_pure (wpAny_bind last))
    | exact wpAny_bind last
theorem Land.more {pins : List (Addr × Obj)} {σ : L2.St} {H : Hp} {a : Addr} {cls : Value} {d : Option Addr} {B : Heap} {sI s : Shared} {h' : Heap} (L : Land X pins σ H a cls d B sI s) (fl : HandSPX.FlyingZ B (X.env :: X.outer) a (Zc cls d) h') (up : s.heap.UpToSlots h') : Land X pins σ H a cls d B sI { s with heap := h' } :=
  ⟨L.inv, L.nb, L.up.trans up, fl, L.na, L.os, L.ag⟩
theorem Land.now {pins : List (Addr × Obj)} {σ : L2.St} {H : Hp} {a : Addr} {cls : Value} {d : Option Addr} {B : Heap} {sI s : Shared} (L : Land X pins σ H a cls d B sI s) : Inv X pins σ H s := L.inv.landed L.nb L.fl.1 L.up L.os L.ag
theorem Land.frame {pins : List (Addr × Obj)} {σ : L2.St} {H : Hp} {a : Addr} {cls : Value} {d : Option Addr} {B : Heap} {sI s : Shared} (L : Land X pins σ H a cls d B sI s) : a ∉ frs (X.env :: X.outer) := fun hm => by
  obtain ⟨oe, vs, ge, _, de⟩ := L.fl.there
  obtain ⟨_, o', e', hnf⟩ := L.fl.2.2.1.mem hm
  rw [ge] at e'
  cases e'
  exact hnf _ de
theorem Land.tracked {pins : List (Addr × Obj)} {σ : L2.St} {H : Hp} {a : Addr} {cls : Value} {d : Option Addr} {B : Heap} {sI s : Shared} (hs : X.stack = X.env :: X.outer) (hf : X.env.frame = some X.env.locals) (hex : X.ex = []) (L : Land X pins σ H a cls d B sI s) : Inv X pins σ (upd H a (ErO cls d a)) s := by
  obtain ⟨oe, vs, ge, ze, de⟩ := L.fl.there
  have nfr := L.frame
  have nB : B.get? a = none := L.fl.2.1
  have nI : sI.heap.get? a = none := by
    cases q : sI.heap.get? a with
    | none => rfl
    | some o =>
      have z := L.nb a o q (by rw [hs]; exact nfr)
      rw [nB] at z
      cases z
  have n0 : X.s_0.heap.get? a = none := by
    cases q : X.s_0.heap.get? a with
    | none => rfl
    | some o =>
      obtain ⟨o', z⟩ := L.inv.base.there a o q (by rw [hex]; exact fun z => nomatch z)
      rw [nI] at z
      cases z
  refine inv_track L.now n0 L.na (fun z => nfr (List.mem_filterMap.mpr ⟨X.env, List.mem_cons_self, by rw [hf, z]⟩)) (fun x c e z => ?_) (fun p hp z => ?_) ⟨⟨oe, vs, ge, ze, de⟩, ⟨oe, ge⟩, fun h1 h2 ⟨o, v, q, r⟩ k => ⟨o, v, k o q, r⟩⟩
  · obtain ⟨v, o, g1, g2⟩ := L.now.cell x c e
    rw [z, ge] at g1
    cases g1
    rw [de] at g2
    cases g2
  · have g := (L.inv.pin p hp).1
    rw [z, nI] at g
    cases g
/-- the ends of a suite whose clause has the name at slot i -/
def endN (D : Ends) (i : Nat) : Ends := { nx := fun σ H => D.nx (σ.set i none) H, rt := D.rt, bk := fun σ H => D.bk (σ.set i none) H, ct := fun σ H => D.ct (σ.set i none) H }
/-- a clause's wish -/
def wCl (K : PySem.W.Frag) (c : Value) (ts : Addr → Value → Option Addr → Ends → L2.St → Hp → Prop) (W : Ends → WX) : Ends → WX := fun D cls d σ H =>
  ∃ b, PySem.W.exmOne K cls c = some b ∧ (b = true → ∀ a, H a = none → ts a cls d D σ (upd H a (ErO cls d a))) ∧ (b = false → W D cls d σ H)
section
variable {x n : Str} {c : Value} {i : Nat} {suite : List Stmt} {b₀ : Stmt} {rest : List ExceptHandler} {np pos pos' : Pos} {ts : Addr → TS} {W : Ends → WX} {pins : List (Addr × Obj)} {σ : L2.St} {H : Hp} {s : Shared}
theorem clause_test {a : Addr} {cls : Value} {b : Bool} {Q : Bool → Shared → Prop} {E : Value → Shared → Prop} (I : Inv (exS X a) pins σ H s) (hc : Names X x c) {oe : Obj} (ge : s.heap.get? a = some oe) (ce : oe.cls = cls) (hb : PySem.W.exmOne X.K cls c = some b) (q : Q b s) :
    wpAny (model X.prog X.w) (X.A.mark (some (.ref a))) (eval (.Name x np) X.env) (fun v s1 => wpAny (model X.prog X.w) (X.A.mark (some (.ref a))) (excMatches (.ref a) v) Q E s1) E s := by
  have LT : PySem.W.Looks (model X.prog X.w) s.heap (typeOf (.ref a)) cls := fun _ _ _ _ k g => wpAny_typeOf_ref (k _ _ ge) (by rw [ce]; exact g)
  have LM := PySem.W.exm_one (M := model X.prog X.w) I.kIn LT hb
  have fin : wpAny (model X.prog X.w) (X.A.mark (some (.ref a))) (excMatches (.ref a) c) Q E s := LM.here q
  obtain ⟨hg, hdb, hm | ⟨hm, hv, hn⟩⟩ := hc
  · exact ld_glob (X := exS X a) I hg hm fin hdb
  · exact ld_blt (X := exS X a) I hg hm hv fin hn hdb
theorem ph_as (hs : X.stack = X.env :: X.outer) (hf : X.env.frame = some X.env.locals) (hex : X.ex = []) (hN : X.N.Nodup) (hi : X.N[i]? = some n) (hl : X.env.kindOf n = some .local) (hc : Names X x c)
    (hsu : ∀ a, PSs (exS X a) (b₀ :: suite) (ts a)) (hr : PH X rest W) :
    PH X (.ExceptHandler (some (.Name x np)) (some n) (b₀ :: suite) pos' :: rest) (wCl X.K c (fun a _ _ D σ H => ts a (endN D i) (σ.set i (some (.ref a))) H) W) := by
  intro pins D σ H a cls d B sI s L ⟨b, hb, yes, no⟩
  obtain ⟨oe, vs, ge, ze, de⟩ := L.fl.there
  have I0 := inv_exS L.now a
  refine wpAny_handleBy_cons (codeAny_handlers_test (clause_test I0 hc ge ze.1 hb ?_)) (by intro q; cases q)
  cases b with
  | false => exact hr pins D σ H a cls d B sI s L (no rfl)
  | true =>
    refine codeAny_handlers_suite_as ?_
    refine HandSPX.lands_againZ L.fl fun h' fl' up' => ?_
    have L' := L.more fl' up'
    have J := inv_exS (L'.tracked hs hf hex) a
    refine store_ok (X := exS X a) (v := .ref a) J hN hi (.inl hl) rfl (fun s5 J5 => ?_) (.inr hl)
    refine wpAny_mono ((hsu a).run pins s5 _ _ _ J5 (yes rfl a L.na)) (fun f s6 q => ?_) (fun _ _ z => z.elim)
    have over : ∀ {σ6 : L2.St} {H6 : Hp} {Q : Shared → Prop}, Inv (exS X a) pins σ6 H6 s6 → (∀ s7, Inv X pins (σ6.set i none) H6 s7 → Q s7) → wpAny (model X.prog X.w) X.A (do bindName X.env n .none; unbindBehindTheSuite X.env n pos') (fun _ s7 => Q s7) X.xe s6 :=
      fun {σ6 H6 Q} I6 k => gone_ok (inv_ofS L.inv.ok I6) hN hi hl k
    cases f with
    | next => obtain ⟨σ6, H6, I6, q6⟩ := q; exact over I6 fun s7 J7 => ⟨_, _, J7, q6⟩
    | brk => obtain ⟨σ6, H6, I6, q6⟩ := q; exact over I6 fun s7 J7 => ⟨_, _, J7, q6⟩
    | cont => obtain ⟨σ6, H6, I6, q6⟩ := q; exact over I6 fun s7 J7 => ⟨_, _, J7, q6⟩
    | ret u => obtain ⟨v, σ6, H6, I6, r6, q6⟩ := q; exact over I6 fun s7 J7 => ⟨v, _, _, J7, r6, q6⟩
theorem ph_only (hs : X.stack = X.env :: X.outer) (hf : X.env.frame = some X.env.locals) (hex : X.ex = []) (hc : Names X x c)
    (hsu : ∀ a, PSs (exS X a) (b₀ :: suite) (ts a)) (hr : PH X rest W) :
    PH X (.ExceptHandler (some (.Name x np)) none (b₀ :: suite) pos' :: rest) (wCl X.K c (fun a _ _ D σ H => ts a D σ H) W) := by
  intro pins D σ H a cls d B sI s L ⟨b, hb, yes, no⟩
  obtain ⟨oe, vs, ge, ze, de⟩ := L.fl.there
  have I0 := inv_exS L.now a
  refine wpAny_handleBy_cons (codeAny_handlers_test (clause_test I0 hc ge ze.1 hb ?_)) (by intro q; cases q)
  cases b with
  | false => exact hr pins D σ H a cls d B sI s L (no rfl)
  | true =>
    refine codeAny_handlers_suite ?_
    refine HandSPX.lands_againZ L.fl fun h' fl' up' => ?_
    have L' := L.more fl' up'
    have J := inv_exS (L'.tracked hs hf hex) a
    refine wpAny_mono ((hsu a).run pins _ _ _ _ J (yes rfl a L.na)) (fun f s6 q => ?_) (fun _ _ z => z.elim)
    cases f with
    | next => obtain ⟨σ6, H6, I6, q6⟩ := q; exact ⟨_, _, inv_ofS L.inv.ok I6, q6⟩
    | brk => obtain ⟨σ6, H6, I6, q6⟩ := q; exact ⟨_, _, inv_ofS L.inv.ok I6, q6⟩
    | cont => obtain ⟨σ6, H6, I6, q6⟩ := q; exact ⟨_, _, inv_ofS L.inv.ok I6, q6⟩
    | ret u => obtain ⟨v, σ6, H6, I6, r6, q6⟩ := q; exact ⟨v, _, _, inv_ofS L.inv.ok I6, r6, q6⟩
/-- try: body, the clauses hh -/
theorem ps_tryC {body : List Stmt} {h₀ : ExceptHandler} {hh : List ExceptHandler} {tb : WX → TS} (hs : X.stack = X.env :: X.outer) (hf : X.env.frame = some X.env.locals)
    (hb : ∀ (W : WX) (pn : List (Addr × Obj)) (xe : Value → Shared → Prop), L2.Takes (X.tr pn xe) W → PassesOwn (model X.prog X.w) X.A X.env xe → PSs (X.tr pn xe) body (tb W)) (hh' : PH X (h₀ :: hh) W) :
    PS X (.Try body (h₀ :: hh) [] [] pos) (fun D σ H => tb (W D) D σ H) := by
  refine ⟨fun pins s σ H D I h => ?_⟩
  have ok := I.ok
  have hfr : X.A.frames = some (X.env :: X.outer) := by rw [ok.frames, hs]
  refine wpAny_Try_except ?_
  refine wpAny_mono ((hb (W D) (X.pn ++ pins) (fun e s₁ => wpAny (model X.prog X.w) X.A (noteFrame e X.env) (fun _ s₂ => wpAny (model X.prog X.w) X.A (setFlight e none) (fun _ s₃ =>
    wpAny (model X.prog X.w) X.A (handleBy e X.env (h₀ :: hh)) (SP X pins D) X.xe s₃) X.xe s₂) X.xe s₁) (fun u s' x => ?_) PassesOwn.looking).run [] s σ H D (I.toTry _) h) (fun f s1 q => ?_) fun _ _ z => z
  · obtain ⟨a, B, sI, pn', σ', H', cls, d, rfl, J, nb, up, sky, na, os, ag, w⟩ := x
    have J' : Inv X pins σ' H' sI := J.ofTry ok
    have sky' : Sky B (X.env :: X.outer) a (Zc cls d) X.env.locals s'.heap := by rw [← hs]; exact sky
    exact Sky.land Zc.steady hfr hf sky' fun h3 fl up3 => hh' pins D σ' H' a cls d B sI { s' with heap := h3 } ⟨J', nb, up.trans up3, fl, na, os, ag⟩ w
  · cases f with
    | next => obtain ⟨σ', H', J, q⟩ := q; exact wpAny_execs_nil ⟨σ', H', J.ofTry ok, q⟩
    | brk => obtain ⟨σ', H', J, q⟩ := q; exact ⟨σ', H', J.ofTry ok, q⟩
    | cont => obtain ⟨σ', H', J, q⟩ := q; exact ⟨σ', H', J.ofTry ok, q⟩
    | ret u => obtain ⟨v, σ', H', J, r, q⟩ := q; exact ⟨v, σ', H', J.ofTry ok, r, q⟩
end
end
end Fz

namespace Fz
open PySem PySem.Spec PyProof.Rows L2

/-! ### super().__init__(..) in an exception class's own __init__ -/
/-- the class at C, below the class at D whose __init__ says super() -/
structure SupC (K : PySem.W.Frag) (C D : Addr) : Prop where
  mro : PySem.W.mroIn K C (.ref D) = some true
  sup : PySem.W.ks_superIn K C D "__init__" = some (some (.builtin "ValueError.__init__"))
  sub : PySem.W.subIn K (.ref C) (.type "ValueError") = some true
  opq : PySem.W.nsIn K cStatics "thirdparty.any" = some none
  cld : (PySem.W.clsIn K D).isSome = true
/-- a def that closes over __class__ alone -/
structure FunS (P : Program) (K : PySem.W.Frag) (x qual : Str) (params : Arguments) (body : List Stmt) (scope : Scope) (f : Addr) (fd : FuncData) (D : Addr) : Prop where
  ex : ∃ (oc : Value) (od : Option Addr) (doc pm ct : Value) (an : Option Addr) (osl : Array (Option Value)) (cc cda : Addr), fd = PySem.W.fnX x qual params body scope [("__class__", cc)] .none .none doc pm an (.ref cda) ct ∧ K.lookup f = some ⟨oc, od, .func fd, osl⟩ ∧ PySem.W.codeIn K (.ref cda) qual = true ∧
    (∃ cl cld csl, K.lookup cc = some ⟨cl, cld, .cell (some (.ref D)), csl⟩) ∧ ∃ ccl cdd vs ccs file tf, K.lookup cda = some ⟨ccl, cdd, .fields vs, ccs⟩ ∧ vs[2]? = some (.str file tf) ∧ (P.main.file == file) = true
  kp : PySem.W.keepIn K (.ref f) = true
section
variable {X : Cx} {pins : List (Addr × Obj)} {σ : L2.St} {H : Hp} {s : Shared}
theorem super_stmt {pl : Sem Bool} {Qn : Hp → Prop} {E1 : Value → Shared → Prop} {body : List Stmt} {f cda cc D a C : Addr} {fd : FuncData} {ar : Arg} {oc cl ccl : Value} {od cld cdd : Option Addr} {osl csl ccs : Array (Option Value)} {vs : Array Value} {file : Str} {tf : Tok} {e : Expr} {te : TE} {p0 p1 p2 p3 p4 : Pos}
    (I : Inv X pins σ H s) (hfu : X.env.func = some f) (lk : X.K.lookup f = some ⟨oc, od, .func fd, osl⟩) (hp : (fd.params.posonlyargs ++ fd.params.args).head? = some ar) (hco : X.env.code = .ref cda) (lc : X.K.lookup cda = some ⟨ccl, cdd, .fields vs, ccs⟩) (hvs : vs[2]? = some (.str file tf))
    (hfile : (X.prog.main.file == file) = true) (lcc : X.K.lookup cc = some ⟨cl, cld, .cell (some (.ref D)), csl⟩) (hcc : X.env.cells.lookup ("__class__" : Str) = some cc) (hks : X.env.scope.names.lookup ("super" : Str) = some .globalImplicit) (hkc : X.env.scope.names.lookup ("__class__" : Str) = some .free)
    (hka : X.env.scope.names.lookup ar.arg = some .local) (hN : X.N[0]? = some ar.arg) (hσ : σ[0]? = some (some (.ref a))) (ea : H a = some (exo a C none)) (O : OexC X.K C) (SU : SupC X.K C D) (hm : X.mg ("super" : Str) = none) (htop : (X.prog.main.scope.names.lookup ("super" : Str)).isSome = false)
    (he : PE X e te) (q : te σ H fun _ H1 => H1 a = some (exo a C none) ∧ Qn H1)
    (hi : interactive X.env = false) (hsw : swapsWith (.Call (.Attribute (.Call (.Name "super" p0) [] [] p1) "__init__" p2) [e] [] p3) none p4.line X.env = pure false)
    (hev : eval (.Call (.Attribute (.Call (.Name "super" p0) [] [] p1) "__init__" p2) [e] [] p3) X.env = (do
      let ov ← attributeBase (.Call (.Name "super" p0) [] [] p1) "__init__" X.env (eval (.Call (.Name "super" p0) [] [] p1) X.env)
      standAt p2.atName
      let (f, first) ← holding [ov] (getMethod ov "__init__" pl)
      callWith p3 f first (backTo p3 (starEach [e] X.env)) []))
    (hst : starEach [e] X.env = (false, eval e X.env) :: starEach [] X.env := by rfl) :
    _root_.PySem.wpAt (model X.prog X.w) X.A (.func body X.env) (exec (.Expr (.Call (.Attribute (.Call (.Name "super" p0) [] [] p1) "__init__" p2) [e] [] p3) p4) X.env) (fun fl s' => fl = .next ∧ ∃ H1, Inv X pins σ H1 s' ∧ Qn H1) X.xe s := by
  refine PySem.ks_wpAt_Expr_any ?_ hi hsw
  refine PySem.ks_wpAt_MethodCall (pl := pl) ?_ hev
  have X0 := I.kIn
  -- the object that super() makes
  obtain ⟨mb, b1, b2⟩ := I.mod.blt
  obtain ⟨cdD, hD⟩ := Option.isSome_iff_exists.mp SU.cld
  obtain ⟨oD, gD, dD⟩ : ∃ oD, s.heap.get? D = some oD ∧ oD.data = .cls cdD := by
    unfold PySem.W.clsIn at hD
    split at hD
    · rename_i c d cd' sl ho
      cases hD
      exact ⟨_, X0 _ _ ho, rfl⟩
    · cases hD
  obtain ⟨t1, ge⟩ := exo_at I.hok ea
  obtain ⟨m, hns, hl⟩ := I.loc
  obtain ⟨u, ru, lu⟩ := hl 0 ar.arg (.ref a) hN hσ (.inl hka)
  cases ru
  have mself : m ar.arg = some (.ref a) := by
    rcases lu with ⟨_, z⟩ | ⟨z, _⟩
    · exact z
    · have z : X.env.scope.names.lookup ar.arg = some .cell ∨ X.env.scope.names.lookup ar.arg = some .free := z
      rcases z with z | z <;> rw [hka] at z <;> cases z
  refine PySem.ks_wpAt_super_base (env := X.env) hks hkc (by decide +kernel) hfu (X0 _ _ lk) rfl hp hco (X0 _ _ lc) rfl hvs hfile htop ?_
  refine PySem.W.ks_loadName_global I.ok.kind hks (PySem.Calls.loadGlobal_builtin (by rw [I.ok.glob]; exact I.mod.glob.keeps I.bk) hm (by rw [I.ok.blt]; exact b1.keeps I.bk) ((b2 _ (by decide +kernel)).trans (by decide +kernel)) ⟨rfl, ?_⟩)
  refine wpAny_loadName_free I.ok.kind hkc hcc ⟨_, X0 _ _ lcc, rfl⟩ ?_
  refine wpAny_loadName_local I.ok.kind hka hns mself ?_
  obtain ⟨hp0, g0, d0, k0, os0⟩ := s
  refine PySem.ks_wpAny_isType_cls gD dD ⟨rfl, ?_⟩
  refine PySem.ks_wpAny_call_super gD dD ge rfl (fun c z => nomatch z) (PySem.W.looks_mroIn X0 SU.mro) fun h1 hso k1 => ?_
  have I1 : Inv X pins σ H ⟨h1, g0, d0, k0, os0⟩ := I.kept (t' := k0) fun b o z => k1 b o z
  have X1 := I1.kIn
  have ge1 := k1 _ _ ge
  -- its __init__
  have hsup := SU.sup
  cases hc : PySem.W.clsIn X.K C with
  | none => unfold PySem.W.ks_superIn at hsup; rw [hc] at hsup; cases hsup
  | some cd =>
    unfold PySem.W.ks_superIn at hsup
    rw [hc] at hsup
    have J1 : PySem.W.InstAt h1 a _ C none := ⟨ge1, rfl, rfl, trivial⟩
    have hI : PySem.W.Looks (model X.prog X.w) h1 (isInstance (.ref a) (.type "ValueError")) true := J1.type.andThen (PySem.W.looks_subIn X1 SU.sub)
    refine PySem.W.kxs_getMethod PySem.W.kxs_ValueError hso (PySem.W.looks_opaque X1 SU.opq) (l₀ := cd.mro) (fun A Q E s k q => wpAny_bind ((PySem.W.looks_clsIn X1 hc) A _ E s k (wpAny_pure q))) rfl X1 hsup hI (PySem.W.ks_ne X1 J1 hc) (by decide +kernel) ?_
    have mwk : ∀ b o, h1.get? b = some o → (h1.push (PySem.W.kxs_mw "ValueError.__init__" a)).get? b = some o := fun b o z => Heap.get?_push_of_some _ z
    have I2 : Inv X pins σ H ⟨h1.push (PySem.W.kxs_mw "ValueError.__init__" a), g0, d0, k0 + 1, os0⟩ := I1.kept (t' := k0 + 1) mwk
    have gu : (h1.push (PySem.W.kxs_mw "ValueError.__init__" a)).get? h1.objs.size = some (PySem.W.kxs_mw "ValueError.__init__" a) := Heap.get?_push_size _ rfl
    have nu : H h1.objs.size = none := I1.hok.fresh (Nat.le_refl _)
    -- the call
    have fo := I1.fpOk (b := h1.objs.size) (Nat.le_refl _) nu
    have J2 : Inv X (pins ++ [(h1.objs.size, PySem.W.kxs_mw "ValueError.__init__" a)]) σ H ⟨h1.push (PySem.W.kxs_mw "ValueError.__init__" a), g0, d0, k0 + 1, os0⟩ := I2.pins_of fun p hp => (List.mem_append.mp hp).elim (fun z => I2.pin p (List.mem_append_right _ z)) fun z => by
      rw [List.mem_singleton.mp z]
      exact ⟨gu, nu, fo.2.1, fo.2.2.1, fun v y => nomatch y⟩
    show wpAny _ _ (callWith p3 (.ref h1.objs.size) [] (backTo p3 (starEach [e] X.env)) []) _ _ _
    rw [hst]
    refine PySem.W.kxs_callWith (i := "ValueError.__init__") (x := a) rfl (PySem.Calls.evalArgs_plain ?_)
    show wpAny _ _ (spliced ((false, eval e X.env) :: backTo p3 (starEach [] X.env))) _ _ _
    refine PySem.Calls.spliced_cons (wpAny_mono (he.run _ _ σ H _ J2 q) (fun v1 s1 ⟨v, H1, J3, r1, ea1, qn⟩ => ?_) fun _ _ z => z)
    have gu1 := (J3.pin (h1.objs.size, PySem.W.kxs_mw "ValueError.__init__" a) (List.mem_append_right _ (List.mem_append_right _ List.mem_cons_self))).1
    refine PySem.Calls.spliced_nil ⟨gu1, ?_⟩
    obtain ⟨nm, qn1, N1, bs, bm, sn, sub, ab, col, dd, q0, q1, q2, q3, q5, hC, hbm⟩ := O.cls
    obtain ⟨t2, ge2⟩ := exo_at J3.hok ea1
    have X3 := J3.kIn
    obtain ⟨h3, g3, d3, k3, os3⟩ := s1
    refine wpAny_call (codeAny_of_tree ?_)
    show wpAny _ X.A.in1 (callAny (.ref h1.objs.size) ⟨[v1], []⟩) _ _ _
    simp only [callAny]
    refine wpAny_bind (wpAny_load gu1 ?_)
    simp only [PySem.W.kxs_mw, show (Value.type "method-wrapper" == Value.type "method" || Value.type "method-wrapper" == Value.type "builtin_function_or_method" || Value.type "method-wrapper" == Value.type "method-wrapper") = true by decide, if_true]
    refine PySem.W.KFB.if_so (by decide) ?_
    refine wpAny_bind (PySem.W.check_bound_init F.excBase_ValueError.toExcCallFacts (X3 _ _ hC) ge2 rfl ?_)
    refine wpAny_bind (wpAny_pure (wpAny_pure ?_))
    refine ⟨plainId_quiet F.excBase_ValueError.init.plain _, codeAny_builtin F.excBase_ValueError.initEntry ?_⟩
    refine PySem.W.exc_init_tree (cls := .ref C) (t0 := t2) (dv := none) (c2 := .none) (c3 := .none) (b4 := .bool false) ge2 (by show 1 ≤ sizeLine; rw [sizeLine_eq]; omega) fun h' keep hx ht => ?_
    have J4 := J3.write (t' := k3) (x := a) (e := a) (o := exo a C none) (by rw [ea1]; exact True.intro) (.inl rfl) keep ⟨_, hx⟩ (exo_ok hx)
    have eu : upd H1 a (exo a C none) = H1 := funext fun b => by
      by_cases hb : b = a
      · rw [hb, upd_same, ea1]
      · exact upd_ne hb
    rw [eu] at J4
    exact ⟨trivial, H1, J4.unpinned, qn⟩
end
/-! ### such a def -/
section
variable {P : Program} {w : World} {K : PySem.W.Frag} {mg : Str → Option Value} {base : Heap} {x qual : Str} {params : Arguments} {scope : Scope} {f D : Addr} {fd : FuncData} {N ps : List Str} {rest : List Stmt}
/-- the def as the nested ones are told -/
abbrev nfS (x qual : Str) (params : Arguments) (body : List Stmt) (scope : Scope) (cc cda : Addr) : NdefX.NF := ⟨x, qual, params, body, scope, [("__class__", cc)], cda⟩
theorem fn_sup {pl : Sem Bool} {sp : Sp} {txt : Str} {jj : Nat} {ar : Arg} {p0 p1 p2 p3 p4 cp : Pos}
    (F : FunS P K x qual params (.Expr (.Call (.Attribute (.Call (.Name "super" p0) [] [] p1) "__init__" p2) [.Constant (.str txt) jj cp] [] p3) p4 :: rest) scope f fd D) (S : NdefX.NScope N ps ["__class__"] scope) (hp : (params.posonlyargs ++ params.args).head? = some ar) (hN : N[0]? = some ar.arg) (hps : ps[0]? = some ar.arg)
    (hks : scope.names.lookup ("super" : Str) = some .globalImplicit) (hm : mg ("super" : Str) = none) (htop : (P.main.scope.names.lookup ("super" : Str)).isSome = false) (len : ∀ vs H Q E, sp vs H Q E → vs.length = ps.length)
    (hev : ∀ env : Env, eval (.Call (.Attribute (.Call (.Name "super" p0) [] [] p1) "__init__" p2) [.Constant (.str txt) jj cp] [] p3) env = (do
      let ov ← attributeBase (.Call (.Name "super" p0) [] [] p1) "__init__" env (eval (.Call (.Name "super" p0) [] [] p1) env)
      standAt p2.atName
      let (f, first) ← holding [ov] (getMethod ov "__init__" pl)
      callWith p3 f first (backTo p3 (starEach [.Constant (.str txt) jj cp] env)) []))
    (hb : ∀ (cc cda : Addr) (A : Around) (outer : List Env) (s : Shared) (H : Hp) (vs : List V) (Q : VK) (E : XK), Room 0 (A.deeper (NdefX.envF (nfS x qual params (.Expr (.Call (.Attribute (.Call (.Name "super" p0) [] [] p1) "__init__" p2) [.Constant (.str txt) jj cp] [] p3) p4 :: rest) scope cc cda) f s.heap.objs.size)) → sp vs H Q E →
      ∃ t a C, PSs (NdefX.ncx (L2.CX P w) P w K mg base N (nfS x qual params (.Expr (.Call (.Attribute (.Call (.Name "super" p0) [] [] p1) "__init__" p2) [.Constant (.str txt) jj cp] [] p3) p4 :: rest) scope cc cda) f A outer s H E) rest t ∧ vs[0]? = some (.ref a) ∧ H a = some (exo a C none) ∧ OexC K C ∧ SupC K C D ∧
        t { nx := fun _ H' => Q .non H', rt := Q } (NdefX.startF N vs [some (.ref D)]) H) :
    FnOk P w K mg base (L2.CX P w) 1 f fd ps sp := by
  obtain ⟨oc, od, doc, pm, ct, an, osl, cc, cda, rfl, lk, hcd, ⟨cl, cld, csl, lcc⟩, ccl, cdd, vs0, ccs, file, tf, lcd, hvs, hfile⟩ := F.ex
  refine ⟨len, fun A outer s H args us vs Q E hr e0 hbind r hsp => ?_⟩
  have hl := len _ _ _ _ hsp
  have KX : K.In s.heap := e0.mod.kin.keeps fun b o z => (e0.bs b o z).1
  have lim : s.heap.NoLimit := e0.mod.nolimit.keeps fun b o z => (e0.bs b o z).1
  have ncell : ∀ {b : Addr} {o : Obj}, K.lookup b = some o → H b = none := fun {b o} z => (e0.bs b o (e0.mod.kin b o z)).2
  have hlen : us.length = ps.length := by rw [← r.length]; exact hl
  have CA : NdefX.CellsAt [("__class__", cc)] ["__class__"] [some (.ref D)] s.heap H := by
    refine ⟨rfl, fun y c z => ?_, fun y z c e1 e2 => ?_, fun i y z => ?_⟩
    · obtain ⟨rfl⟩ : c = cc := by
        simp only [List.lookup] at z
        split at z <;> cases z
        rfl
      exact ⟨ncell lcc, some (.ref D), _, KX _ _ lcc, rfl⟩
    · simp only [List.lookup] at e1 e2
      split at e1
      · rename_i h1
        split at e2
        · rename_i h2
          rw [beq_iff_eq] at h1 h2
          rw [h1, h2]
        · cases e2
      · cases e1
    · match i, z with
      | 0, z =>
        cases z
        exact ⟨cc, rfl, fun v ev => by
          cases ev
          exact ⟨.ref D, rfl, _, KX _ _ lcc, rfl⟩⟩
  refine PySem.ks_codeAny_call_defAt (binds := ps.zip us) hr.depth (KX _ _ lk) rfl lim (PySem.W.codeRec_of KX hcd) rfl hbind S.nocell (fun y hy => S.par y.1 (List.of_mem_zip hy).1) (fun h₀ hns keep => ?_) S.co S.gen S.kind
  obtain ⟨t, a, C, hrest, ha, ea, O, SU, q⟩ := hb cc cda A outer s H vs Q E (hr.deeper _) hsp
  have I : Inv (NdefX.ncx (L2.CX P w) P w K mg base N (nfS x qual params (.Expr (.Call (.Attribute (.Call (.Name "super" p0) [] [] p1) "__init__" p2) [.Constant (.str txt) jj cp] [] p3) p4 :: rest) scope cc cda) f A outer s H E) [] (NdefX.startF N vs [some (.ref D)]) H { s with heap := h₀, toks := s.toks + (ps.zip us).length } :=
    NdefX.inv_startN S hr.hd e0 hl r CA hns keep
  refine PySem.ks_wpAt_execs_cons ?_
  have σ0 : (NdefX.startF N vs [some (.ref D)])[0]? = some (some (.ref a)) := by
    unfold NdefX.startF
    rw [List.getElem?_append_left (by rw [List.length_map]; exact (List.getElem?_eq_some_iff.mp ha).1), List.getElem?_map, ha]
    rfl
  have st := super_stmt (X := NdefX.ncx (L2.CX P w) P w K mg base N (nfS x qual params (.Expr (.Call (.Attribute (.Call (.Name "super" p0) [] [] p1) "__init__" p2) [.Constant (.str txt) jj cp] [] p3) p4 :: rest) scope cc cda) f A outer s H E)
    (pl := pl) (E1 := fun _ _ => False) (body := (.Expr (.Call (.Attribute (.Call (.Name "super" p0) [] [] p1) "__init__" p2) [.Constant (.str txt) jj cp] [] p3) p4 :: rest)) (p0 := p0) (p1 := p1) (p2 := p2) (p3 := p3) (p4 := p4) (Qn := fun H1 => t { nx := fun _ H' => Q .non H', rt := Q } (NdefX.startF N vs [some (.ref D)]) H1)
    I rfl lk hp rfl lcd hvs hfile lcc rfl hks (S.frk _ List.mem_cons_self) (S.par _ (List.mem_of_getElem? hps)) hN σ0 ea O SU hm htop pe_str ⟨ea, q⟩ (show (scope.kind == .module && _) = false by rw [S.kind]; rfl) (by rfl) (hev _) (by rfl)
  refine PySem.ks_wpAt_mono st (fun fl s1 ⟨e1, H1, I1, q1⟩ => ?_) fun _ _ z => z
  subst e1
  refine PySem.wpAt_of_wpAny ?_
  refine wpAny_mono (hrest.run [] s1 (NdefX.startF N vs [some (.ref D)]) H1 _ I1 q1) (fun fl s' hs => ?_) fun e s' hs => hs
  have fin : ∀ {σ' : L2.St} {H' : Hp} {v : V} {u : Value}, Inv (NdefX.ncx (L2.CX P w) P w K mg base N (nfS x qual params (.Expr (.Call (.Attribute (.Call (.Name "super" p0) [] [] p1) "__init__" p2) [.Constant (.str txt) jj cp] [] p3) p4 :: rest) scope cc cda) f A outer s H E) [] σ' H' s' → L2.RelV v u → Q v H' → CE outer P w H s Q u s' :=
    fun {σ' H' v u} J rv g => ⟨v, H', J.os, J.bare, J.base, J.hok, rv, g⟩
  cases fl with
  | ret u =>
    obtain ⟨v, σ', H', J, rv, g⟩ := hs
    exact fin J rv g
  | next =>
    obtain ⟨σ', H', J, g⟩ := hs
    exact fin (v := V.non) (u := Value.none) J rfl g
  | brk => exact (show False from hs.elim fun _ z => z.elim fun _ z => z.2).elim
  | cont => exact (show False from hs.elim fun _ z => z.elim fun _ z => z.2).elim
/-- what such an __init__ promises: the fields fs, in the order of their stores -/
def spXi (K : PySem.W.Frag) (D : Addr) (fs : List Str) : Sp := fun vs H Q _ => ∃ (a C : Addr) (ws : List V), vs = .ref a :: ws ∧ ws.length = fs.length ∧ OexC K C ∧ SupC K C D ∧ (∀ f ∈ fs, PySem.W.findIn K (.ref C) f = some none) ∧ H a = some (exo a C none) ∧
  ∀ d, H d = none → d ≠ a → Q .non (upd (upd H d (exd d (fs.zip ws).reverse)) a (exo a C (some d)))
theorem upd_swap {H : Hp} {a d : Addr} {o u v : HO} (ne : d ≠ a) : upd (upd (upd H d o) a u) d v = upd (upd H d v) a u := funext fun b => by
  by_cases h1 : b = d
  · rw [h1, upd_same, upd_ne ne, upd_same]
  · by_cases h2 : b = a
    · rw [h2, upd_ne (fun z => ne z.symm), upd_same, upd_same]
    · rw [upd_ne h1, upd_ne h2, upd_ne h1, upd_ne h2, upd_ne h1]
section
variable {pl : Sem Bool} {txt : Str} {jj : Nat} {ar : Arg} {p0 p1 p2 p3 p4 cp q0 q1 q2 q3 r0 r1 r2 r3 : Pos} {sf v1 v2 f1 f2 : Str}
theorem fn_xi1 (F : FunS P K x qual params (.Expr (.Call (.Attribute (.Call (.Name "super" p0) [] [] p1) "__init__" p2) [.Constant (.str txt) jj cp] [] p3) p4 :: [.Assign [.Attribute (.Name sf q0) f1 q1] (.Name v1 q2) q3]) scope f fd D) (S : NdefX.NScope [sf, v1, "__class__"] [sf, v1] ["__class__"] scope)
    (hp : (params.posonlyargs ++ params.args).head? = some ar) (har : ar.arg = sf) (hks : scope.names.lookup ("super" : Str) = some .globalImplicit) (hm : mg ("super" : Str) = none) (htop : (P.main.scope.names.lookup ("super" : Str)).isSome = false)
    (hd1 : (sf == ("__debug__" : Str)) = false) (hd2 : (v1 == ("__debug__" : Str)) = false) (hc1 : (sf == ("__classdict__" : Str)) = false) (hc2 : (v1 == ("__classdict__" : Str)) = false)
    (hev : ∀ env : Env, eval (.Call (.Attribute (.Call (.Name "super" p0) [] [] p1) "__init__" p2) [.Constant (.str txt) jj cp] [] p3) env = (do
      let ov ← attributeBase (.Call (.Name "super" p0) [] [] p1) "__init__" env (eval (.Call (.Name "super" p0) [] [] p1) env)
      standAt p2.atName
      let (f, first) ← holding [ov] (getMethod ov "__init__" pl)
      callWith p3 f first (backTo p3 (starEach [.Constant (.str txt) jj cp] env)) [])) : FnOk P w K mg base (L2.CX P w) 1 f fd [sf, v1] (spXi K D [f1]) := by
  refine fn_sup F S hp (by rw [har]; rfl) (by rw [har]; rfl) hks hm htop (fun vs H Q E ⟨a, C, ws, e, l, _⟩ => by rw [e]; show ws.length + 1 = 2; rw [l]; rfl) hev fun cc cda A outer s H vs Q E hr ⟨a, C, ws, e, l, O, SU, no, ea, k⟩ => ?_
  obtain ⟨y, rfl⟩ : ∃ y, ws = [y] := by
    match ws, l with
    | [y], _ => exact ⟨y, rfl⟩
  subst e
  refine ⟨_, a, C, pss_one (ps_ost (pe_var (i := 0) (x := sf) rfl (.inl (S.par _ (by simp))) hd1 hc1) (pe_var (i := 1) (x := v1) rfl (.inl (S.par _ (by simp))) hd2 hc2)), rfl, ea, O, SU, ?_⟩
  exact ⟨y, rfl, .ref a, rfl, a, C, rfl, O, no f1 (by simp), .inl ⟨ea, fun d hd ne => k d hd ne⟩⟩
theorem fn_xi2 (F : FunS P K x qual params (.Expr (.Call (.Attribute (.Call (.Name "super" p0) [] [] p1) "__init__" p2) [.Constant (.str txt) jj cp] [] p3) p4 :: [.Assign [.Attribute (.Name sf q0) f1 q1] (.Name v1 q2) q3, .Assign [.Attribute (.Name sf r0) f2 r1] (.Name v2 r2) r3]) scope f fd D) (S : NdefX.NScope [sf, v1, v2, "__class__"] [sf, v1, v2] ["__class__"] scope)
    (hp : (params.posonlyargs ++ params.args).head? = some ar) (har : ar.arg = sf) (hks : scope.names.lookup ("super" : Str) = some .globalImplicit) (hm : mg ("super" : Str) = none) (htop : (P.main.scope.names.lookup ("super" : Str)).isSome = false)
    (hd1 : (sf == ("__debug__" : Str)) = false) (hd2 : (v1 == ("__debug__" : Str)) = false) (hd3 : (v2 == ("__debug__" : Str)) = false) (hc1 : (sf == ("__classdict__" : Str)) = false) (hc2 : (v1 == ("__classdict__" : Str)) = false) (hc3 : (v2 == ("__classdict__" : Str)) = false)
    (hev : ∀ env : Env, eval (.Call (.Attribute (.Call (.Name "super" p0) [] [] p1) "__init__" p2) [.Constant (.str txt) jj cp] [] p3) env = (do
      let ov ← attributeBase (.Call (.Name "super" p0) [] [] p1) "__init__" env (eval (.Call (.Name "super" p0) [] [] p1) env)
      standAt p2.atName
      let (f, first) ← holding [ov] (getMethod ov "__init__" pl)
      callWith p3 f first (backTo p3 (starEach [.Constant (.str txt) jj cp] env)) [])) : FnOk P w K mg base (L2.CX P w) 1 f fd [sf, v1, v2] (spXi K D [f1, f2]) := by
  refine fn_sup F S hp (by rw [har]; rfl) (by rw [har]; rfl) hks hm htop (fun vs H Q E ⟨a, C, ws, e, l, _⟩ => by rw [e]; show ws.length + 1 = 3; rw [l]; rfl) hev fun cc cda A outer s H vs Q E hr ⟨a, C, ws, e, l, O, SU, no, ea, k⟩ => ?_
  obtain ⟨y, z, rfl⟩ : ∃ y z, ws = [y, z] := by
    match ws, l with
    | [y, z], _ => exact ⟨y, z, rfl⟩
  subst e
  refine ⟨_, a, C, pss_cons (ps_ost (pe_var (i := 0) (x := sf) rfl (.inl (S.par _ (by simp))) hd1 hc1) (pe_var (i := 1) (x := v1) rfl (.inl (S.par _ (by simp))) hd2 hc2)) (pss_one (ps_ost (pe_var (i := 0) (x := sf) rfl (.inl (S.par _ (by simp))) hd1 hc1) (pe_var (i := 2) (x := v2) rfl (.inl (S.par _ (by simp))) hd3 hc3))), rfl, ea, O, SU, ?_⟩
  refine ⟨y, rfl, .ref a, rfl, a, C, rfl, O, no f1 (by simp), .inl ⟨ea, fun d hd ne => ?_⟩⟩
  refine ⟨z, rfl, .ref a, rfl, a, C, rfl, O, no f2 (by simp), .inr ⟨d, [(f1, y)], upd_same, (upd_ne ne).trans upd_same, (by show 1 ≤ 900; decide), ?_⟩⟩
  have q := k d hd ne
  rw [← upd_swap (o := exd d [(f1, y)]) ne] at q
  exact q
end
end
end Fz

namespace Fz
open PySem PySem.Spec PyProof.Rows L2

/-! ### what is said of an exception class -/
structure XcC (K : PySem.W.Frag) (C : Addr) : Prop where
  cl : (PySem.W.clsIn K C).isSome = true
  ga : PySem.W.findIn K (.ref C) "__getattribute__" = some (some (.builtin "BaseException.__getattribute__"))
  gt : PySem.W.findIn K (.ref C) "__getattr__" = some none
  ex : PySem.W.subIn K (.ref C) (.type "BaseException") = some true
  hd : PySem.W.hasDictIn K C = true
  ha : PySem.W.findIn K (.ref C) "__class__" = some (some (.builtin "object.__class__"))
  hn : PySem.W.specialIn K (.builtin "object.__class__") "__get__" = some (some (.builtin "getset_descriptor.__get__"))
  ht : PySem.W.takesIn K (.builtin "object.__class__") = some true
  hm : PySem.W.mroIn K C (.type "object") = some true
  ve : PySem.W.subIn K (.ref C) (.type "ValueError") = some true
  ty : PySem.W.typeIn K (.ref C) = some (.type "type")
  kp : PySem.W.keepIn K (.ref C) = true
  sa : PySem.W.findIn K (.ref C) "__setattr__" = some (some (.builtin "object.__setattr__"))
def xcB (K : PySem.W.Frag) (C : Addr) : Bool := (PySem.W.clsIn K C).isSome && (He.eqO (PySem.W.findIn K (.ref C) "__getattribute__") (some (some (.builtin "BaseException.__getattribute__"))) && (He.eqO (PySem.W.findIn K (.ref C) "__getattr__") (some none) && (decide (PySem.W.subIn K (.ref C) (.type "BaseException") = some true) && (PySem.W.hasDictIn K C &&
  (He.eqO (PySem.W.findIn K (.ref C) "__class__") (some (some (.builtin "object.__class__"))) && (He.eqO (PySem.W.specialIn K (.builtin "object.__class__") "__get__") (some (some (.builtin "getset_descriptor.__get__"))) && (decide (PySem.W.takesIn K (.builtin "object.__class__") = some true) && (decide (PySem.W.mroIn K C (.type "object") = some true) &&
  (decide (PySem.W.subIn K (.ref C) (.type "ValueError") = some true) && (decide (PySem.W.typeIn K (.ref C) = some (.type "type")) && (PySem.W.keepIn K (.ref C) && He.eqO (PySem.W.findIn K (.ref C) "__setattr__") (some (some (.builtin "object.__setattr__"))))))))))))))
theorem xcB_ok {K : PySem.W.Frag} {C : Addr} (h : xcB K C = true) : XcC K C := by
  obtain ⟨h1, h⟩ := He.ba h
  obtain ⟨h2, h⟩ := He.ba h
  obtain ⟨h3, h⟩ := He.ba h
  obtain ⟨h4, h⟩ := He.ba h
  obtain ⟨h5, h⟩ := He.ba h
  obtain ⟨h6, h⟩ := He.ba h
  obtain ⟨h7, h⟩ := He.ba h
  obtain ⟨h8, h⟩ := He.ba h
  obtain ⟨h9, h⟩ := He.ba h
  obtain ⟨h10, h⟩ := He.ba h
  obtain ⟨h11, h⟩ := He.ba h
  obtain ⟨h12, h13⟩ := He.ba h
  exact ⟨h1, He.eqO_ok h2, He.eqO_ok h3, of_decide_eq_true h4, h5, He.eqO_ok h6, He.eqO_ok h7, of_decide_eq_true h8, of_decide_eq_true h9, of_decide_eq_true h10, of_decide_eq_true h11, h12, He.eqO_ok h13⟩
/-- .. and of its making -/
def oexB (K : PySem.W.Frag) (C : Addr) : Bool := match K.lookup C with
  | some ⟨.type "type", _, .cls cd, sl⟩ => (match cd.mro, sl.toList with
    | .ref C' :: bm, [_, _, _, _, some (.builtin n), _] => decide (C' = C) && (n == "ValueError.__new__" && (!cd.hasDel && (cd.hasDict && PySem.HandSPX.refsVE bm)))
    | _, _ => false)
  | _ => false
theorem oexB_ok {K : PySem.W.Frag} {C : Addr} (x : XcC K C) (h : oexB K C = true) : OexC K C := by
  refine ⟨?_, x.sa, x.ex, x.ty, x.kp⟩
  unfold oexB at h
  split at h
  · rename_i dd cd sl ho
    split at h
    · rename_i C' bm k0 k1 k2 k3 n k5 hm hs
      obtain ⟨nm, bs, mro, ns, qn, hd, sn, sub, ab, col, del⟩ := cd
      obtain ⟨l⟩ := sl
      obtain ⟨g1, h⟩ := He.ba h
      obtain ⟨g2, h⟩ := He.ba h
      obtain ⟨g3, h⟩ := He.ba h
      obtain ⟨g4, g5⟩ := He.ba h
      have e1 : C' = C := of_decide_eq_true g1
      have e2 : n = "ValueError.__new__" := beq_iff_eq.mp g2
      dsimp only at hm g3 g4 hs
      have e3 : del = false := by cases del <;> simp_all
      subst e1 e2 e3 hm g4 hs
      exact ⟨nm, qn, ns, bs, bm, sn, sub, ab, col, dd, k0, k1, k2, k3, k5, ho, g5⟩
    · cases h
  · cases h
def supB (K : PySem.W.Frag) (C D : Addr) : Bool := decide (PySem.W.mroIn K C (.ref D) = some true) && (He.eqO (PySem.W.ks_superIn K C D "__init__") (some (some (.builtin "ValueError.__init__"))) && (He.eqO (PySem.W.nsIn K cStatics "thirdparty.any") (some none) && (PySem.W.clsIn K D).isSome))
theorem supB_ok {K : PySem.W.Frag} {C D : Addr} (x : XcC K C) (h : supB K C D = true) : SupC K C D := by
  obtain ⟨h1, h⟩ := He.ba h
  obtain ⟨h2, h⟩ := He.ba h
  obtain ⟨h3, h4⟩ := He.ba h
  exact ⟨of_decide_eq_true h1, He.eqO_ok h2, x.ve, He.eqO_ok h3, h4⟩

/-! ### isinstance, fields -/
section
variable {X : Cx} {pins : List (Addr × Obj)} {σ : L2.St} {H : Hp} {s : Shared}
theorem xd_at {dd : Addr} {fs : List (Str × V)} (hok : HOk X.prog X.w H s.heap) (x : XdAt H dd fs) : ∃ mA, s.heap.Ns1 dd mA ∧ ∀ f, RelO (fs.lookup f) (mA f) := by
  rcases x with x | x
  · exact hok dd _ x
  · exact exd_at hok x
def DictOk (H : Hp) (d : Option Addr) : Prop := d = none ∨ ∃ dd fs, d = some dd ∧ XdAt H dd fs
theorem inst_of {a C : Addr} {d : Option Addr} (I : Inv X pins σ H s) (e : ErrAt H a C d) (k : DictOk H d) : ∃ oe od, PySem.W.InstAt s.heap a oe C od := by
  obtain ⟨φ, e1, e2⟩ := e
  obtain ⟨q, _, _⟩ := I.hok a _ e1
  obtain ⟨oe, vs, ge, ze, de⟩ := e2 _ q
  have nc : PySem.W.notCls oe = true := by unfold PySem.W.notCls; rw [de]
  rcases k with rfl | ⟨dd, fs, rfl, x⟩
  · exact ⟨oe, none, ge, ze.1, nc, by rw [ze.2]; trivial⟩
  · obtain ⟨mA, hns, hr⟩ := xd_at I.hok x
    obtain ⟨od, ho, hl⟩ := lookIn_ns hns
    exact ⟨oe, some od, ge, ze.1, nc, by rw [ze.2]; exact ho⟩
def rIsX (K : PySem.W.Frag) : List V → Hp → VK → Prop := fun xs H Q => ∃ (a C : Addr) (d : Option Addr) (c : V) (u : Value) (b : Bool), xs = [.ref a, c] ∧ ClsV c u ∧ ErrAt H a C d ∧ DictOk H d ∧ XcC K C ∧ PySem.W.kitOne K (.ref C) u = some b ∧ Q (.bl b) H
theorem call_isX : CallR X (.builtin "isinstance") (rIsX X.K) := fun pins s σ H xs us Q I r q => by
  obtain ⟨a, C, d, c, u, b, rfl, kc, e, kd, F, hb, q⟩ := q
  cases r with
  | cons r1 r =>
    cases r with
    | cons r2 r =>
      cases r
      cases r1
      have eu := kc.eq r2
      subst eu
      obtain ⟨oe, od, J⟩ := inst_of I e kd
      exact PySem.W.kia_one (PySem.W.kitx_exc F.cl F.ga F.gt F.ex F.ha F.hn F.ht F.hm) I.kIn J hb (fun z => nomatch z) fun tk => ⟨.bl b, H, I.tok tk, rfl, q⟩
def tXf (K : PySem.W.Frag) (n : Str) (te : TE) : TE := fun σ H Q => te σ H fun x H1 => ∃ (a C dd : Addr) (fs : List (Str × V)) (v : V), x = .ref a ∧ ErrAt H1 a C (some dd) ∧ XdAt H1 dd fs ∧ XcC K C ∧ PySem.W.findIn K (.ref C) n = some none ∧ fs.lookup n = some v ∧ Q v H1
theorem pe_xfT {e : Expr} {te : TE} {n : Str} {pos : Pos} (he : PE X e te) (hb : attributeBase e n X.env (eval e X.env) = eval e X.env := by rfl) : PE X (.Attribute e n pos) (tXf X.K n te) := by
  refine ⟨fun pins s σ H Q I h => attr_of hb (wpAny_mono (he.run pins s σ H _ I h) (fun u s1 q => ?_) fun _ _ z => z)⟩
  obtain ⟨x, H1, I1, rx, a, C, dd, fs, v, rfl, er, xd, F, no, lk, q⟩ := q
  cases rx
  obtain ⟨φ, e1, e2⟩ := er
  obtain ⟨g, _, _⟩ := I1.hok a _ e1
  obtain ⟨oe, vs, ge, ze, de⟩ := e2 _ g
  obtain ⟨mA, hns, hr⟩ := xd_at I1.hok xd
  obtain ⟨od, ho, hl⟩ := lookIn_ns hns
  obtain ⟨u, hu, ru⟩ := RelO.some_of (v := v) (o := mA n) (by rw [← lk]; exact hr n)
  have J : PySem.W.InstAt s1.heap a oe C (some od) := ⟨ge, ze.1, by unfold PySem.W.notCls; rw [de], by rw [ze.2]; exact ho⟩
  exact HandSPX.exc_get I1.kIn J F.ga F.gt F.ex (PySem.W.findObj_own F.hd no rfl (by rw [hl, hu])) (handed_of ru) ⟨v, H1, I1.tok _, ru, q⟩
end
section
variable {T : Tab} {X : Cx} {E : WX} {n : Nat} {gb : Bool} {a b e : Expr} {ma mb m : ME} {pos : Pos}
theorem exn_at {w : Wd} {h : List Cell} {H : Hp} {c : Nat} {vs : List W} {v : V} (s : StR T w h H) (r : VR T w (.exn c vs) v) : ∃ a d us, v = .ref a ∧ ErrAt H a (T.ca c) d ∧ VRs T w vs us ∧ ((vs = [] ∧ d = none) ∨ ∃ dd, d = some dd ∧ XdAt H dd ((T.fl c).zip us) ∧ vs.length = (T.fl c).length) := by
  obtain ⟨a, rfl, q⟩ := r
  obtain ⟨d, us, h1, h2, h4⟩ := s.fz a _ q
  exact ⟨a, d, us, rfl, h1, h2, h4⟩
/-- isinstance(x, c), x an exception -/
def fIsX (isx : Nat → Tg → Option Bool) : FA := fun xs _ => match xs with
  | [.exn c _, k] => (match clsW k with
    | some u => (match isx c u with
      | some b => some (.bl b)
      | none => none)
    | none => none)
  | _ => none
structure IsxOk (T : Tab) (isx : Nat → Tg → Option Bool) : Prop where
  kit : ∀ c u b, isx c u = some b → PySem.W.kitOne T.K (.ref (T.ca c)) (u.val T) = some b
  exm : ∀ c u b, isx c u = some b → PySem.W.exmOne T.K (.ref (T.ca c)) (u.val T) = some b
  xc : ∀ c u b, isx c u = some b → XcC T.K (T.ca c)
theorem c_isx {isx : Nat → Tg → Option Bool} (ok : IsxOk T isx) : CallI T (fIsX isx) (rIsX T.K) := fun w h H xs vs z Q s r e q => by
  unfold fIsX at e
  split at e
  · rename_i c l k
    cases e1 : clsW k with
    | none => rw [e1] at e; cases e
    | some u =>
      rw [e1] at e
      dsimp only at e
      cases e2 : isx c u with
      | none => rw [e2] at e; cases e
      | some b =>
        rw [e2] at e
        cases e
        cases r with
        | cons r1 r =>
          cases r with
          | cons r2 r =>
            cases r
            obtain ⟨a, d, us, rfl, h1, h2, h4⟩ := exn_at s r1
            refine ⟨a, T.ca c, d, _, u.val T, b, rfl, clsW_ok r2 e1, h1, ?_, ok.xc c u b e2, ok.kit c u b e2, q w H (.bl b) (Le.refl w) s rfl⟩
            rcases h4 with ⟨_, rfl⟩ | ⟨dd, rfl, x, _⟩
            · exact .inl rfl
            · exact .inr ⟨dd, _, rfl, x⟩
  · cases e
theorem i_isx {isx : Nat → Tg → Option Bool} {p : Pos} (ok : IsxOk T isx) (G : Gx T X E n gb) (ha : IE T X E a ma) (hb : IE T X E b mb) (hm : X.mg "isinstance" = none) (hg : Gl X "isinstance" := by rfl) (hs : starEach [a, b] X.env = (false, eval a X.env) :: starEach [b] X.env := by rfl)
    (hs2 : starEach [b] X.env = (false, eval b X.env) :: starEach [] X.env := by rfl) (hpl : (backTo pos (starEach [b] X.env)).any (·.1) = false := by rfl) : IE T X E (.Call (.Name "isinstance" p) [a, b] [] pos) (mCB (fIsX isx) (mCons ma (mCons mb mNil))) :=
  i_cb (c_isx ok) (G.K ▸ call_isX) hg hm (by decide +kernel) (ia_cons ha (ia_cons hb ia_nil hs2) hs) (by decide +kernel) (by decide +kernel) hs hpl
/-- x.f, x an exception: fx tells the place of f in its class's fields -/
def mXFld (fx : Nat → Option Nat) (m : ME) : ME := fun ρ h => (m ρ h).bind fun x h1 => match x with
  | .exn c vs => (match fx c with
    | some j => (match vs[j]? with
      | some y => .ok y h1
      | none => .bad)
    | none => .bad)
  | _ => .bad
structure FxOk (T : Tab) (n : Str) (fx : Nat → Option Nat) : Prop where
  at_ : ∀ c j, fx c = some j → (T.fl c)[j]? = some n
  nd : ∀ c j, fx c = some j → (T.fl c).Nodup
  xc : ∀ c j, fx c = some j → XcC T.K (T.ca c)
  no : ∀ c j, fx c = some j → PySem.W.findIn T.K (.ref (T.ca c)) n = some none
theorem i_xfld {f : Str} {fx : Nat → Option Nat} (ok : FxOk T f fx) (G : Gx T X E n gb) (he : IE T X E e m) (hb : attributeBase e f X.env (eval e X.env) = eval e X.env := by rfl) : IE T X E (.Attribute e f pos) (mXFld fx m) :=
  PE.imp (pe_xfT he hb) fun σ H Q ⟨w, ρ, h, s, en, p⟩ => ⟨w, ρ, h, s, en, Post.bind p fun x h1 w1 H1 v le s1 r1 p1 => by
    cases x with
    | exn c vs =>
      dsimp only at p1
      cases e1 : fx c with
      | none => rw [e1] at p1; exact p1.elim
      | some j =>
        rw [e1] at p1
        dsimp only at p1
        cases e2 : vs[j]? with
        | none => rw [e2] at p1; exact p1.elim
        | some y =>
          rw [e2] at p1
          obtain ⟨a, d, us, rfl, h1, h2, h4⟩ := exn_at s1 r1
          obtain ⟨u, eu, ru⟩ := h2.get e2
          rcases h4 with ⟨rfl, _⟩ | ⟨dd, rfl, x, h3⟩
          · cases e2
          · refine ⟨a, T.ca c, dd, _, u, rfl, h1, x, G.K ▸ ok.xc c j e1, G.K ▸ ok.no c j e1, ?_, p1 w1 H1 u (Le.refl _) s1 ru⟩
            rw [zip_lookup (ok.nd c j e1) (ok.at_ c j e1) (by rw [← h2.length, h3]; exact Nat.le_refl _)]
            exact eu
    | _ => exact p1.elim⟩
end
end Fz

namespace Fz
open PySem PySem.Spec PyProof.Rows L2

/-! ### try -/
/-- a clause's doing: the exception's class, its fields -/
abbrev MCl := Nat → List W → EnvW → List Cell → RS
def noE : WX := fun _ _ _ _ => False
def noXS : RS → RS
  | .exc _ _ _ _ => .bad
  | r => r
def unN (i : Nat) : RS → RS
  | .nx ρ h => .nx (ρ.set i none) h
  | .bk ρ h => .bk (ρ.set i none) h
  | .ct ρ h => .ct (ρ.set i none) h
  | r => r
def mCNil : MCl := fun c vs ρ h => .exc c vs ρ h
def mCAs (isx : Nat → Tg → Option Bool) (u : Tg) (i : Nat) (ms : MS) (rest : MCl) : MCl := fun c vs ρ h => match isx c u with
  | some true => unN i (noXS (ms (ρ.set i (some (.exn c vs))) h))
  | some false => rest c vs ρ h
  | none => .bad
def mCOnly (isx : Nat → Tg → Option Bool) (u : Tg) (ms : MS) (rest : MCl) : MCl := fun c vs ρ h => match isx c u with
  | some true => noXS (ms ρ h)
  | some false => rest c vs ρ h
  | none => .bad
def mTry (mb : MS) (cl : MCl) : MS := fun ρ h => match mb ρ h with
  | .exc c vs ρ1 h1 => cl c vs ρ1 h1
  | r => r
def wI (T : Tab) (E : WX) (m : MCl) : Ends → WX := fun D cls d σ H => ∃ w ρ h c vs, cls = .ref (T.ca c) ∧ StR T w h H ∧ EnvR T w ρ σ ∧ EOk T w H c vs d ∧ PostS T w D E (m c vs ρ h)
def IH (T : Tab) (X : Cx) (E : WX) (hs : List ExceptHandler) (m : MCl) : Prop := PH X hs (wI T E m)
theorem PH.imp {X : Cx} {hs : List ExceptHandler} {W W' : Ends → WX} (p : PH X hs W) (k : ∀ D cls d σ H, W' D cls d σ H → W D cls d σ H) : PH X hs W' := fun pins D σ H a cls d B sI s L w => p pins D σ H a cls d B sI s L (k _ _ _ _ _ w)
theorem gx_exS {T : Tab} {X : Cx} {E : WX} {n : Nat} {gb : Bool} (G : Gx T X E n gb) (a : Addr) : Gx T (exS X a) noE n false :=
  ⟨G.K, (fun z => nomatch z), G.nd, ⟨G.roomH.dp, G.roomH.un⟩, (fun z => nomatch z), fun _ _ ⟨_, _, _, _, _, _, _, _, _, _, _, _, _, _, _, _, w⟩ => w.elim, PassesOwn.never⟩
theorem gx_tr {T : Tab} {X : Cx} {E W : WX} {n : Nat} {gb : Bool} (G : Gx T X E n gb) {pn : List (Addr × Obj)} {xe : Value → Shared → Prop} (tk : L2.Takes (X.tr pn xe) W) (po : PassesOwn (model X.prog X.w) X.A X.env xe) : Gx T (X.tr pn xe) W n gb :=
  ⟨G.K, G.calmB, G.nd, ⟨G.roomH.dp, G.roomH.un⟩, G.hdB, tk, po⟩
theorem EnvR.setN {T : Tab} {w : Wd} {ρ : EnvW} {σ : L2.St} (en : EnvR T w ρ σ) (i : Nat) : EnvR T w (ρ.set i none) (σ.set i none) := All2.set (fun y e => nomatch e) i en
theorem noXS_of {T : Tab} {w : Wd} {D : Ends} {E : WX} {r : RS} (p : PostS T w D E (noXS r)) : PostS T w D noE r := by
  cases r with
  | exc c vs ρ h => exact p.elim
  | _ => exact p
theorem unN_of {T : Tab} {w : Wd} {D : Ends} {E : WX} {i : Nat} {r : RS} (p : PostS T w D E (unN i (noXS r))) : PostS T w (endN D i) noE r := by
  cases r with
  | nx ρ h => exact fun w' σ' H' l s e => p w' _ H' l s (e.setN i)
  | bk ρ h => exact fun w' σ' H' l s e => p w' _ H' l s (e.setN i)
  | ct ρ h => exact fun w' σ' H' l s e => p w' _ H' l s (e.setN i)
  | rt x h => exact p
  | exc c vs ρ h => exact p.elim
  | bad => exact p.elim
/-- the exception caught becomes data -/
theorem StR.caught {T : Tab} {w : Wd} {h : List Cell} {H : Hp} {c : Nat} {vs : List W} {d : Option Addr} (s : StR T w h H) (k : EOk T w H c vs d) {a : Addr} (na : H a = none) :
    StR T (w.addF a (.exn c vs)) h (upd H a (ErO (.ref (T.ca c)) d a)) ∧ Le w (w.addF a (.exn c vs)) ∧ VR T (w.addF a (.exn c vs)) (.exn c vs) (.ref a) := by
  obtain ⟨s1, le⟩ := s.frozen (o := .exn c vs) (u := ErO (.ref (T.ca c)) d a) na (by
    rcases k with ⟨rfl, rfl⟩ | ⟨dd, us, rfl, h1, h2, h3⟩
    · exact ⟨none, [], erO_at, .nil, .inl ⟨rfl, rfl⟩⟩
    · refine ⟨some dd, us, erO_at, h2, .inr ⟨dd, rfl, .inl ?_, h3⟩⟩
      rw [upd_ne (ne_of_none h1 na)]
      exact h1)
  exact ⟨s1, le, a, rfl, if_pos rfl⟩
section
variable {T : Tab} {X : Cx} {E : WX} {n : Nat} {gb : Bool} {a b e : Expr} {ma mb m : ME} {pos pos' np : Pos} {body suite : List Stmt} {b₀ : Stmt} {rest hs : List ExceptHandler} {mb' ms : MS} {mr : MCl} {isx : Nat → Tg → Option Bool} {x nm : Str} {u : Tg} {i : Nat}
theorem ih_nil (G : Gx T X E n gb) (hs : X.stack = X.env :: X.outer := by rfl) (hf : X.env.frame = some X.env.locals := by rfl) : IH T X E [] mCNil :=
  (ph_nil hs hf G.tk).imp fun D cls d σ H ⟨w, ρ, h, c, vs, e, s, en, k, p⟩ => by
    subst e
    exact p w σ H d (Le.refl w) s en k
theorem ih_as (ok : IsxOk T isx) (u : Tg) (i : Nat) (G : Gx T X E n gb) (hm : X.mg x = some (u.val T) ∨ (X.mg x = none ∧ bootBuiltins x = some (u.val T) ∧ x ≠ "__name__")) (hsu : ∀ a, Gx T (exS X a) noE n false → ISs T (exS X a) noE (b₀ :: suite) ms) (hr : IH T X E rest mr)
    (hg : Gl X x := by rfl) (hdb : (x == ("__debug__" : Str)) = false := by decide +kernel) (hi : X.N[i]? = some nm := by rfl) (hl : X.env.kindOf nm = some .local := by rfl) (hs : X.stack = X.env :: X.outer := by rfl) (hf : X.env.frame = some X.env.locals := by rfl) (hex : X.ex = [] := by rfl) :
    IH T X E (.ExceptHandler (some (.Name x np)) (some nm) (b₀ :: suite) pos' :: rest) (mCAs isx u i ms mr) :=
  (ph_as hs hf hex G.nd hi hl ⟨hg, hdb, hm⟩ (fun a => hsu a (gx_exS G a)) hr).imp fun D cls d σ H ⟨w, ρ, h, c, vs, e, s, en, k, p⟩ => by
    subst e
    unfold mCAs at p
    cases q : isx c u with
    | none => rw [q] at p; exact p.elim
    | some b =>
      rw [q] at p
      refine ⟨b, G.K ▸ ok.exm c u b q, fun hb a na => ?_, fun hb => ?_⟩
      · subst hb
        obtain ⟨s1, le, r⟩ := s.caught k na
        exact ⟨_, _, h, s1, (en.mono le).set r i, PostS.mono le (unN_of p)⟩
      · subst hb
        exact ⟨w, ρ, h, c, vs, rfl, s, en, k, p⟩
theorem ih_only (ok : IsxOk T isx) (u : Tg) (G : Gx T X E n gb) (hm : X.mg x = some (u.val T) ∨ (X.mg x = none ∧ bootBuiltins x = some (u.val T) ∧ x ≠ "__name__")) (hsu : ∀ a, Gx T (exS X a) noE n false → ISs T (exS X a) noE (b₀ :: suite) ms) (hr : IH T X E rest mr)
    (hg : Gl X x := by rfl) (hdb : (x == ("__debug__" : Str)) = false := by decide +kernel) (hs : X.stack = X.env :: X.outer := by rfl) (hf : X.env.frame = some X.env.locals := by rfl) (hex : X.ex = [] := by rfl) :
    IH T X E (.ExceptHandler (some (.Name x np)) none (b₀ :: suite) pos' :: rest) (mCOnly isx u ms mr) :=
  (ph_only hs hf hex ⟨hg, hdb, hm⟩ (fun a => hsu a (gx_exS G a)) hr).imp fun D cls d σ H ⟨w, ρ, h, c, vs, e, s, en, k, p⟩ => by
    subst e
    unfold mCOnly at p
    cases q : isx c u with
    | none => rw [q] at p; exact p.elim
    | some b =>
      rw [q] at p
      refine ⟨b, G.K ▸ ok.exm c u b q, fun hb a na => ?_, fun hb => ?_⟩
      · subst hb
        obtain ⟨s1, le, r⟩ := s.caught k na
        exact ⟨_, ρ, h, s1, en.mono le, PostS.mono le (noXS_of p)⟩
      · subst hb
        exact ⟨w, ρ, h, c, vs, rfl, s, en, k, p⟩
theorem is_try {h₀ : ExceptHandler} (G : Gx T X E n gb) (hb : ∀ (pn : List (Addr × Obj)) (xe : Value → Shared → Prop) (W : WX), Gx T (X.tr pn xe) W n gb → ISs T (X.tr pn xe) W body mb') (hc : IH T X E (h₀ :: rest) mr) (hs : X.stack = X.env :: X.outer := by rfl) (hf : X.env.frame = some X.env.locals := by rfl) :
    IS T X E (.Try body (h₀ :: rest) [] [] pos) (mTry mb' mr) :=
  PS.imp (ps_tryC hs hf (fun W pn xe tk po => hb pn xe W (gx_tr G tk po)) hc) fun D σ H ⟨w, ρ, h, s, en, p⟩ => ⟨w, ρ, h, s, en, by
    unfold mTry at p
    cases q : mb' ρ h with
    | exc c vs ρ1 h1 =>
      rw [q] at p
      exact fun w' σ' H' d l s' e' k => ⟨w', ρ1, h1, c, vs, rfl, s', e', k, PostS.mono l p⟩
    | nx ρ1 h1 => rw [q] at p; exact p
    | rt z h1 => rw [q] at p; exact p
    | bk ρ1 h1 => rw [q] at p; exact p
    | ct ρ1 h1 => rw [q] at p; exact p
    | bad => rw [q] at p; exact p⟩
end

/-! ### raise, and exceptions as values -/
theorem zip_rev {α β : Type} : ∀ {l : List α} {m : List β}, l.length = m.length → (l.zip m).reverse = l.reverse.zip m.reverse
  | [], [], _ => rfl
  | a :: l, b :: m, h => by
    have h' : l.length = m.length := by simpa using h
    rw [List.zip_cons_cons, List.reverse_cons, List.reverse_cons, List.reverse_cons, zip_rev h', List.zip_append (by simp [h'])]
    rfl
/-- the class c of exceptions, its __init__ at f (said in the class at D), the fields in the order of their stores -/
structure XmC (T : Tab) (c : Nat) (D f : Addr) (fs : List Str) : Prop where
  oex : OexC T.K (T.ca c)
  sup : SupC T.K (T.ca c) D
  no : ∀ g ∈ fs, PySem.W.findIn T.K (.ref (T.ca c)) g = some none
  fl : T.fl c = fs.reverse
  ini : PySem.W.findIn T.K (.ref (T.ca c)) "__init__" = some (some (.ref f))
  ty : PySem.W.typeIn T.K (.ref f) = some (.type "function")
def mRaise (c n : Nat) (mr : MA) : MS := fun ρ h => (mr ρ h).toS ρ fun xs h1 => if xs.length = n then .exc c xs.reverse ρ h1 else .bad
def mMkX (c n : Nat) (mr : MA) : ME := fun ρ h => (mr ρ h).bind fun xs h1 => if xs.length = n then .ok (.exn c xs.reverse) h1 else .bad
section
variable {T : Tab} {X : Cx} {E : WX} {n k : Nat} {gb : Bool} {a e : Expr} {es : List Expr} {mr : MA} {pos p pos' : Pos} {f D : Addr} {fd : FuncData} {ps fs : List Str} {c : Nat} {x : Str}
theorem spXi_at {w : Wd} {h : List Cell} {H : Hp} {xs : List W} {us : List V} (M : XmC T c D f fs) (s : StR T w h H) (r : VRs T w xs us) (l : xs.length = fs.length) {b : Addr} (hb : H b = none) {Q : VK} {EE : XK}
    (q : ∀ d, H d = none → d ≠ b → Q .non (upd (upd (upd H b (exo b (T.ca c) none)) d (exd d ((T.fl c).zip us.reverse))) b (exo b (T.ca c) (some d)))) : spXi T.K D fs (.ref b :: us) (upd H b (exo b (T.ca c) none)) Q EE := by
  refine ⟨b, T.ca c, us, rfl, by rw [← r.length]; exact l, M.oex, M.sup, M.no, upd_same, fun d hd ne => ?_⟩
  rw [zip_rev (by rw [← r.length, l]), ← M.fl]
  rw [upd_ne ne] at hd
  exact q d hd ne
theorem is_raise (c : Nat) (M : XmC T c D f fs) (F1 : FnOk X.prog X.w X.K X.mg X.base (L2.CX X.prog X.w) 1 f fd ps (spXi X.K D fs)) (G : Gd T X E n) (hn : 2 ≤ n) (hm : X.mg x = some (.ref (T.ca c))) (hb : Binds X.K fd ps []) (ha : IA T X E (e :: es) mr) (hfs : fs.length ≤ 1000 := by decide) (hg : Gl X x := by rfl)
    (hdb : (x == ("__debug__" : Str)) = false := by decide +kernel) (he : starEach (e :: es) X.env = (false, eval e X.env) :: starEach es X.env := by rfl) (hpl : (backTo pos (starEach es X.env)).any (·.1) = false := by rfl) :
    IS T X E (.Raise (some (.Call (.Name x p) (e :: es) [] pos)) none pos') (mRaise c fs.length mr) := by
  have hK := G.K
  refine PS.imp (ps_raise G.calm G.tk (pmk_oex (hK ▸ M.oex) (hK ▸ M.ini) (hK ▸ M.ty) F1 (G.room.mono hn) hb (dvs := []) .nil passes_no hg hm ha hdb he hpl)) fun DD σ H ⟨w, ρ, h, s, en, p⟩ => ⟨w, ρ, h, s, en, PostS.of en p fun xs h1 w1 H1 us le s1 r1 p1 => ?_⟩
  split at p1
  · rename_i hl
    refine ⟨?_, fun b hbn => ?_⟩
    · rw [← r1.length, hl]
      exact hfs
    · rw [List.append_nil]
      refine hK ▸ spXi_at M s1 r1 hl hbn fun d hd ne => ?_
      refine ⟨rfl, d, _, upd_same, (upd_ne ne).trans upd_same, hd, ?_⟩
      have eH : upd (del (upd (upd (upd H1 b (exo b (T.ca c) none)) d (exd d ((T.fl c).zip us.reverse))) b (exo b (T.ca c) (some d))) b) d (.xd ((T.fl c).zip us.reverse)) = upd H1 d (.xd ((T.fl c).zip us.reverse)) := funext fun z => by
        by_cases h1 : z = d
        · rw [h1, upd_same, upd_same]
        · by_cases h2 : z = b
          · rw [h2, upd_ne (Ne.symm ne), upd_ne (Ne.symm ne), del_same, hbn]
          · rw [upd_ne h1, upd_ne h1, del_ne h2, upd_ne h2, upd_ne h1, upd_ne h2]
      rw [eH]
      exact p1 w1 σ _ (some d) (Le.refl _) (s1.other hd) (en.mono le) (.inr ⟨d, us.reverse, rfl, upd_same, r1.reverse, by rw [List.length_reverse, hl, M.fl, List.length_reverse]⟩)
  · exact p1.elim
/-- X(e, ..) as a value -/
theorem pe_oex {sp : Sp} {C fI : Addr} {ta : TA} (O : OexC X.K C) (iC : PySem.W.findIn X.K (.ref C) "__init__" = some (some (.ref fI))) (tI : PySem.W.typeIn X.K (.ref fI) = some (.type "function")) (F1 : FnOk X.prog X.w X.K X.mg X.base (L2.CX X.prog X.w) k fI fd ps sp) (hr : Room (k + 1) X.A) (hb : Binds X.K fd ps []) (hg : Gl X x) (hm : X.mg x = some (.ref C)) (ha : PA X (e :: es) ta)
    (hdb : (x == ("__debug__" : Str)) = false) (he : starEach (e :: es) X.env = (false, eval e X.env) :: starEach es X.env) (hpl : (backTo pos (starEach es X.env)).any (·.1) = false) :
    PE X (.Call (.Name x p) (e :: es) [] pos) (fun σ H Q => ta σ H fun vs H1 => vs.length ≤ 1000 ∧ ∀ b, H1 b = none → sp (.ref b :: vs) (upd H1 b (exo b C none)) (fun v H2 => v = .non ∧ Q (.ref b) H2) fun _ _ _ => False) := by
  refine ⟨fun pins s σ H Q I h => ?_⟩
  obtain ⟨nm, q, N, bs, bm, sn, sub, ab, col, dd, k0, k1, k2, k3, k5, hC, hbm⟩ := O.cls
  refine wpAny_Call_Name_kw (ld_glob I hg hm ?_ hdb)
  refine PySem.W.callWith_K (h₀ := X.base) I.ok.mod.kin O.kC (wpAny_mono (ha.run pos pins s σ H _ I h) (fun us s1 ⟨vs, H1, I1, r1, hz, q1⟩ => ⟨I1.kIn, ?_⟩) fun _ _ z => z) he hpl
  show wpAny _ _ (call (.ref C) us) _ _ _
  obtain ⟨hp, g, dr, tk, os⟩ := s1
  have new : H1 (hp.objs.size + 1) = none := I1.hok.fresh (Nat.le_succ _)
  have g1 := q1 _ new
  have keep : ∀ b o, hp.get? b = some o → ((hp.push (PySem.W.kdv_tup us)).push (PySem.HandSPX.excO C hp.objs.size)).get? b = some o := fun b o z => Heap.get?_push_of_some _ (Heap.get?_push_of_some _ z)
  have I2 : Inv X pins σ (upd H1 (hp.objs.size + 1) (exo (hp.objs.size + 1) C none)) ⟨(hp.push (PySem.W.kdv_tup us)).push (PySem.HandSPX.excO C hp.objs.size), g, dr, tk, os⟩ :=
    I1.laid (t' := tk) keep (Nat.le_succ _) (exo_ok (by heap_get))
  have r2 : Vals (V.ref (hp.objs.size + 1) :: vs) (Value.ref (hp.objs.size + 1) :: us) := .cons rfl r1
  have hl : (Value.ref (hp.objs.size + 1) :: us).length = ps.length := by rw [← r2.length]; exact F1.len _ _ _ _ g1
  have hus : us.length ≤ sizeLine := by rw [← r1.length, sizeLine_eq]; omega
  have bd := hb _ (Value.ref (hp.objs.size + 1) :: us) I2.kIn (by rw [List.append_nil]; exact hl)
  rw [List.append_nil] at bd
  refine wpAny_call (PySem.HandSPX.call_own F.excBase_ValueError (fun Y => PySem.HandSPX.refsVE_contains Y bm hbm) (I1.kIn _ _ hC) (PySem.W.looks_findIn I1.kIn iC) (fun self => PySem.W.bind_fn I1.kIn self tI) hus
    (codeAny_mono (F1.run _ X.stack _ _ ⟨Value.ref (hp.objs.size + 1) :: us, []⟩ (Value.ref (hp.objs.size + 1) :: us) _ _ (fun _ _ _ => False) (hr.make C us []) (I2.env0.make C us []) bd r2 g1) fun r s' g2 => ?_))
  cases r with
  | error er => exact (passes_no (X := X) pins σ _ _ er s' I2 g2)
  | ok fl =>
    cases fl with
    | ret u =>
      obtain ⟨v, H2, os2, bare2, un2, hok2, rv, ev, g3⟩ := g2
      subst ev
      obtain ⟨h2, g2', d2, t2, os'⟩ := s'
      exact ⟨rv, .ref _, H2, I2.call' (ch := []) os2 un2 hok2 bare2 (fun b z => nomatch z), rfl, g3⟩
    | next => exact g2.elim
    | brk => exact g2.elim
    | cont => exact g2.elim
theorem i_mkX (c : Nat) (M : XmC T c D f fs) (F1 : FnOk X.prog X.w X.K X.mg X.base (L2.CX X.prog X.w) 1 f fd ps (spXi X.K D fs)) (G : Gd T X E n) (hn : 2 ≤ n) (hm : X.mg x = some (.ref (T.ca c))) (hb : Binds X.K fd ps []) (ha : IA T X E (e :: es) mr) (hfs : fs.length ≤ 1000 := by decide) (hg : Gl X x := by rfl)
    (hdb : (x == ("__debug__" : Str)) = false := by decide +kernel) (he : starEach (e :: es) X.env = (false, eval e X.env) :: starEach es X.env := by rfl) (hpl : (backTo pos (starEach es X.env)).any (·.1) = false := by rfl) :
    IE T X E (.Call (.Name x p) (e :: es) [] pos) (mMkX c fs.length mr) := by
  have hK := G.K
  refine PE.imp (pe_oex (hK ▸ M.oex) (hK ▸ M.ini) (hK ▸ M.ty) F1 (G.room.mono hn) hb hg hm ha hdb he hpl) fun σ H Q ⟨w, ρ, h, s, en, p⟩ => ⟨w, ρ, h, s, en, Post.bind p fun xs h1 w1 H1 us le s1 r1 p1 => ?_⟩
  split at p1
  · rename_i hl
    refine ⟨by rw [← r1.length, hl]; exact hfs, fun b hbn => hK ▸ spXi_at M s1 r1 hl hbn fun d hd ne => ⟨rfl, ?_⟩⟩
    have s2 : StR T w1 h1 (upd H1 d (exd d ((T.fl c).zip us.reverse))) := s1.other hd
    have nb : (upd H1 d (exd d ((T.fl c).zip us.reverse))) b = none := (upd_ne (Ne.symm ne)).trans hbn
    have er : ErrAt (upd (upd H1 d (exd d ((T.fl c).zip us.reverse))) b (exo b (T.ca c) (some d))) b (T.ca c) (some d) := ⟨_, upd_same, fun hh ⟨t1, z⟩ => ⟨_, _, z, ⟨rfl, rfl⟩, rfl⟩⟩
    obtain ⟨s3, le3⟩ := s2.frozen (o := .exn c xs.reverse) (u := exo b (T.ca c) (some d)) nb ⟨some d, us.reverse, er, r1.reverse, .inr ⟨d, rfl, .inr ((upd_ne ne).trans upd_same), by rw [List.length_reverse, hl, M.fl, List.length_reverse]⟩⟩
    have eH : upd (upd (upd H1 b (exo b (T.ca c) none)) d (exd d ((T.fl c).zip us.reverse))) b (exo b (T.ca c) (some d)) = upd (upd H1 d (exd d ((T.fl c).zip us.reverse))) b (exo b (T.ca c) (some d)) := funext fun z => by
      by_cases h1 : z = b
      · rw [h1, upd_same, upd_same]
      · by_cases h2 : z = d
        · rw [h2, upd_ne ne, upd_ne ne, upd_same, upd_same]
        · rw [upd_ne h1, upd_ne h1, upd_ne h2, upd_ne h2, upd_ne h1]
    rw [eH]
    exact p1 _ _ (.ref b) le3 s3 ⟨b, rfl, if_pos rfl⟩
  · exact p1.elim
end

/-! ### defs called where something may be handled -/
structure FnN (P : Program) (w : World) (K : PySem.W.Frag) (mg : Str → Option Value) (base : Heap) (k : Nat) (f : Addr) (fd : FuncData) (ps : List Str) (sp : Sp) : Prop where
  len : ∀ vs H Q E, sp vs H Q E → vs.length = ps.length
  run : ∀ (A : Around) (outer : List Env) (s : Shared) (H : Hp) (args : Args) (us : List Value) (vs : List V) (Q : VK) (E : XK), L2H.RoomH k A → Env0 P w K mg base A outer s H → BindsTo s fd args (ps.zip us) → Vals vs us → sp vs H Q E → codeAny (model P w) A (.call (.ref f) args) (CR (L2.CX P w) outer P w H s Q E) s
abbrev cxN (P : Program) (w : World) (K : PySem.W.Frag) (mg : Str → Option Value) (base : Heap) (N : List Str) (qual : Str) (scope : Scope) (f : Addr) (cd : Value) (A : Around) (outer : List Env) (s : Shared) (H : Hp) (E : XK) : Cx := { cxOf (L2.CX P w) P w K mg base N qual scope f cd A outer s H E with calm := false }
section
variable {P : Program} {w : World} {T : Tab} {mg : Str → Option Value} {base : Heap} {x qual : Str} {params : Arguments} {body : List Stmt} {scope : Scope} {dvs : List V} {kws : List (Str × V)} {f : Addr} {fd : FuncData} {N ps : List Str} {n : Nat}
theorem fnN_ok {m : MS} {fz : Bool} {nv k : Nat} (F : FunD T.K x qual params body scope dvs kws f fd) (S : FnScope N ps scope) (hn : N.length = nv := by rfl) (hk : ps.length = k := by rfl)
    (hb : ∀ (cdv : Value) (A : Around) (outer : List Env) (s : Shared) (H : Hp) (E : XK), Gx T (cxN P w T.K mg base N qual scope f cdv A outer s H E) (cxE E) n false → ISs T (cxN P w T.K mg base N qual scope f cdv A outer s H E) (cxE E) body m) :
    FnN P w T.K mg base (n + 1) f fd ps (spI T k (fnM fz nv k m)) := by
  obtain ⟨oc, od, dV, kV, doc, pm, an, cdv, ct, osl, rfl, lk, hcd, _, _⟩ := F.ex
  refine ⟨fun vs H Q E ⟨w, h, xs, s, r, l, _⟩ => by rw [l, hk], fun A outer s H args us vs Q E hr e0 hbd r ⟨wd, h, xs, st, rx, l, p⟩ => ?_⟩
  have KX : T.K.In s.heap := e0.mod.kin.keeps fun b o z => (e0.bs b o z).1
  have lim : s.heap.NoLimit := e0.mod.nolimit.keeps fun b o z => (e0.bs b o z).1
  have kinds : ∀ y ∈ ps.zip us, scope.names.lookup y.1 = some .local ∨ (scope.names.lookup y.1 = some .cell ∧ ((cellsFrom (s.heap.objs.size + 1) scope.names []).lookup y.1).isSome = true) := fun y hy =>
    (S.par y.1 (List.of_mem_zip hy).1).imp id fun z => ⟨z, PySem.W.cellsFrom_some _ _ _ (.inl z)⟩
  refine codeAny_call_function hr.depth (KX _ _ lk) rfl S.co S.gen rfl (PySem.W.codeRec_of KX hcd) (hbd _ _ _ _ ?_)
  refine wpAny_newFunctionEnv_cells S.kind kinds fun env he s1 ic => ?_
  subst he
  refine ⟨lim.keeps ic.toInCall.keep, codeAny_func ?_⟩
  have J : Inv (cxOf (L2.CX P w) P w T.K mg base N qual scope f cdv { A with handled := none } outer s H E) [] (L2.start N vs) H s1 := inv_start S rfl { e0 with frames := e0.frames } (by rw [l, hk]) r ic
  have I : Inv (cxN P w T.K mg base N qual scope f cdv A outer s H E) [] (L2.start N vs) H s1 := { J with ok := { J.ok with hd := (fun z => nomatch (show false = true from z)), frames := Around.frames_deeper e0.frames } }
  have p1 : Post T (VR T) wd Q E (fnB nv k m xs h) := by
    have p0 := post_trim st p
    cases fz with
    | true => exact post_frz p0
    | false => exact p0
  unfold fnB at p1
  rw [if_pos (by rw [All2.length rx, l])] at p1
  have en := start_env (nv := nv) rx hn
  rw [l] at en
  refine wpAny_mono ((hb cdv A outer s H E ⟨rfl, (fun z => nomatch z), S.nd, hr.deeper _, (fun z => nomatch z), takes_of rfl rfl rfl rfl, passes_of rfl⟩).run [] s1 (L2.start N vs) H { nx := fun _ H' => Q .non H', rt := Q } I ⟨wd, _, h, st, en, post_body (h := h) p1⟩) (fun fl s' hs => ?_) fun _ _ z => z
  have fin : ∀ {σ' : L2.St} {H' : Hp} {v : V} {u : Value}, Inv (cxN P w T.K mg base N qual scope f cdv A outer s H E) [] σ' H' s' → L2.RelV v u → Q v H' → CE outer P w H s Q u s' :=
    fun {σ' H' v u} J rv g => ⟨v, H', J.os, J.bare, J.base, J.hok, rv, g⟩
  cases fl with
  | ret u =>
    obtain ⟨v, σ', H', J, rv, g⟩ := hs
    exact fin J rv g
  | next =>
    obtain ⟨σ', H', J, g⟩ := hs
    exact fin (v := V.non) (u := Value.none) J rfl g
  | brk => exact (show False from hs.elim fun _ z => z.elim fun _ z => z.2).elim
  | cont => exact (show False from hs.elim fun _ z => z.elim fun _ z => z.2).elim
end
structure KnN (T : Tab) (P : Program) (w : World) (K : PySem.W.Frag) (mg : Str → Option Value) (base : Heap) (k : Nat) (f : Addr) (fd : FuncData) (ps : List Str) (g : Fn) : Prop where
  ok : FnN P w K mg base k f fd ps (spI T ps.length g)
  ar : Arity g ps.length
  kp : PySem.W.keepIn K (.ref f) = true
theorem knN_zero {T : Tab} {P : Program} {w : World} {K : PySem.W.Frag} {mg : Str → Option Value} {base : Heap} {k : Nat} {f : Addr} {fd : FuncData} {ps : List Str} (kp : PySem.W.keepIn K (.ref f) = true) : KnN T P w K mg base k f fd ps (fun _ _ => .bad) :=
  ⟨⟨fun vs H Q E ⟨_, _, _, _, _, l, _⟩ => l, fun A outer s H args us vs Q E _ _ _ _ ⟨_, _, _, _, _, _, p⟩ => (p : False).elim⟩, fun _ _ _ => rfl, kp⟩
section
variable {T : Tab} {X : Cx} {E : WX} {n k : Nat} {gb : Bool} {a e : Expr} {es : List Expr} {mr : MA} {pos p : Pos} {f : Addr} {fd : FuncData} {ps : List Str} {g : Fn} {x : Str} {dws : List W} {dvs : List V} {ds : List Value}
theorem i_callN (Fk : KnN T X.prog X.w X.K X.mg X.base k f fd ps g) (hk : k ≤ n) (G : Gx T X E n gb) (hm : X.mg x = some (.ref f)) (hb : Binds X.K fd ps ds) (hd : Vals dvs ds) (kd : KVs T dws dvs) (ha : IA T X E (e :: es) mr) (hg : Gl X x := by rfl)
    (hdb : (x == ("__debug__" : Str)) = false := by decide +kernel) (he : starEach (e :: es) X.env = (false, eval e X.env) :: starEach es X.env := by rfl) (hpl : (backTo pos (starEach es X.env)).any (·.1) = false := by rfl) :
    IE T X E (.Call (.Name x p) (e :: es) [] pos) (mCall g dws mr) := by
  refine ⟨fun pins s σ H Q I ⟨w, ρ, h, st, en, q⟩ => ?_⟩
  refine wpAny_Call_Name_kw (ld_glob I hg hm ?_ hdb)
  refine PySem.W.callWith_K (h₀ := X.base) I.ok.mod.kin Fk.kp (wpAny_mono (ha.run pos pins s σ H (fun vs H' => ∃ w1 h1 xs, StR T w1 h1 H' ∧ VRs T w1 xs vs ∧ Post T (VR T) w1 Q (fun c d H' => E c d σ H') (g (xs ++ dws) h1)) I
    ⟨w, ρ, h, st, en, Post.bind q fun xs h1 w1 H1 vs le s1 r1 p1 => ⟨w1, h1, xs, s1, r1, p1⟩⟩) (fun us s1 ⟨vs, H1, I1, r, w1, h1, xs, q1, q2, q3⟩ => ⟨I1.kIn, ?_⟩) fun _ _ z => z) he hpl
  have sp := sp_of' Fk.ar q1 (q2.append kd.vrs) q3
  have r2 := r.append hd
  have hl : (us ++ ds).length = ps.length := by rw [← r2.length]; exact Fk.ok.len _ _ _ _ sp
  refine wpAny_call (codeAny_mono (Fk.ok.run X.A X.stack s1 H1 ⟨us, []⟩ (us ++ ds) (vs ++ dvs) Q _ ⟨by have := G.roomH.dp; omega, by have := G.roomH.un; omega⟩ I1.env0 (hb s1 us I1.kIn hl) r2 sp) fun r s' hq => ?_)
  cases r with
  | error er => exact passAt G.tk σ pins H1 s1 er s' I1 hq
  | ok fl =>
    cases fl with
    | ret u => exact I1.after hq
    | next => exact hq.elim
    | brk => exact hq.elim
    | cont => exact hq.elim
end
end Fz

namespace Fz
open PySem PySem.Spec PyProof.Rows L2

/-! ### what the head tells, with defs that close over __class__ -/
/-- such a def: where it stands, what it is, its class -/
structure DS where
  adr : PySem.W.Frag → Addr
  d : He.DefD
  D : PySem.W.Frag → Addr
def fnS (K : PySem.W.Frag) (a : Addr) : He.FnW := match K.lookup a with
  | some ⟨_, _, .func F, _⟩ => some (F.name, F.qualname, F.params, F.body, F.scope, F.globals, [], F.builtins)
  | _ => none
def fnSH (file : Str) (K : PySem.W.Frag) (cl : List (Str × Addr)) (cd : Value) (D : Addr) : Bool := (match cl with
  | [(n, cc)] => n == ("__class__" : Str) && (match K.lookup cc with
    | some ⟨_, _, .cell (some (.ref D')), _⟩ => decide (D' = D)
    | _ => false)
  | _ => false) && (match cd with
  | .ref cda => (match K.lookup cda with
    | some ⟨_, _, .fields vs, _⟩ => (match (vs[2]? : Option Value) with
      | some (.str fl _) => file == fl
      | _ => false)
    | _ => false)
  | _ => false)
def DS.ok (file : Str) (K : PySem.W.Frag) (q : DS) : Bool := (match K.lookup (q.adr K) with
  | some ⟨_, _, .func F, _⟩ => PySem.W.codeIn K F.code q.d.qual && (fnSH file K F.closure F.code (q.D K) && (match F.defaults, F.kwdefaults with | .none, .none => true | _, _ => false))
  | _ => false) && PySem.W.keepIn K (.ref (q.adr K))
theorem fnSH_ok {file : Str} {K : PySem.W.Frag} {cl : List (Str × Addr)} {cd : Value} {D : Addr} (h : fnSH file K cl cd D = true) : ∃ cc cda, cl = [(("__class__" : Str), cc)] ∧ cd = .ref cda ∧ (∃ c1 c2 c3, K.lookup cc = some ⟨c1, c2, .cell (some (.ref D)), c3⟩) ∧ ∃ c1 c2 vs c3 fl tf, K.lookup cda = some ⟨c1, c2, .fields vs, c3⟩ ∧ vs[2]? = some (.str fl tf) ∧ (file == fl) = true := by
  unfold fnSH at h
  obtain ⟨h1, h2⟩ := Bool.and_eq_true_iff.mp h
  split at h1
  · rename_i n cc
    obtain ⟨g1, g2⟩ := Bool.and_eq_true_iff.mp h1
    split at g2
    · rename_i c1 c2 D' c3 lk
      have e1 : n = "__class__" := beq_iff_eq.mp g1
      have e2 : D' = D := of_decide_eq_true g2
      subst e1 e2
      split at h2
      · rename_i cda
        split at h2
        · rename_i d1 d2 vs d3 lk2
          split at h2
          · rename_i fl tf hv
            exact ⟨cc, cda, rfl, rfl, ⟨c1, c2, c3, lk⟩, d1, d2, vs, d3, fl, tf, lk2, hv, h2⟩
          · cases h2
        · cases h2
      · cases h2
    · cases g2
  · cases h1
def fdOS (K : PySem.W.Frag) (f : Addr) : FuncData := fdOf K f
theorem DS.funS {P : Program} {K : PySem.W.Frag} {q : DS} (e : fnS K (q.adr K) = q.d.val) (c : q.ok P.main.file K = true) : FunS P K q.d.name q.d.qual q.d.params q.d.body q.d.scope (q.adr K) (fdOf K (q.adr K)) (q.D K) := by
  obtain ⟨c2, kp⟩ := Bool.and_eq_true_iff.mp c
  unfold fnS at e
  cases hq : K.lookup (q.adr K) with
  | none => rw [hq] at c2; cases c2
  | some z =>
    obtain ⟨zc, zd, zt, zs⟩ := z
    rw [hq] at c2 e
    cases zt with
    | func F =>
      have eF : fdOf K (q.adr K) = F := by unfold fdOf; rw [hq]
      rw [eF]
      obtain ⟨c3, c4⟩ := Bool.and_eq_true_iff.mp c2
      obtain ⟨c4, c5⟩ := Bool.and_eq_true_iff.mp c4
      obtain ⟨cc, cda, k1, k2, k3, k4⟩ := fnSH_ok c4
      obtain ⟨m1, m2, m3, m4, m5, m6, m7, m8, m9, m10, m11, m12, m13, m14, m15⟩ := F
      have e2 : (some (m1, m2, m3, m4, m5, m6, [], m15) : He.FnW) = some (q.d.name, q.d.qual, q.d.params, .stmts q.d.body, q.d.scope, mainGlobals, [], builtinsNs) := e
      simp only [Option.some.injEq, Prod.mk.injEq] at e2
      obtain ⟨g1, g2, g3, g4, g5, g6, g7, g8⟩ := e2
      dsimp only at k1 k2
      subst g1 g2 g3 g4 g5 g6 g8 k1 k2
      have e9 : m8 = .none ∧ m9 = .none := by
        dsimp only at c5
        split at c5
        · exact ⟨rfl, rfl⟩
        · cases c5
      obtain ⟨rfl, rfl⟩ := e9
      exact ⟨⟨zc, zd, m10, m11, m14, m12, zs, cc, cda, rfl, hq, c3, k3, k4⟩, kp⟩
    | _ => cases c2
def asY (g : Addr → Option Obj) (n : Nat) : List Addr := cStatics :: He.asD g n
def obsY (file : Str) (facts : PySem.W.Frag → List Bool) (fn : List DD) (fs : List DS) (K : PySem.W.Frag) : He.AlD := (((facts K).all fun b => b) && (fn.all (fun d => d.ok K) && fs.all fun d => d.ok file K), fn.map (fun d => fnA K (d.adr K)) ++ fs.map fun d => fnS K (d.adr K))
def valY (fn : List DD) (fs : List DS) : He.AlD := (true, fn.map (fun d => d.d.val) ++ fs.map fun d => d.d.val)
def FySays (file : Str) (facts : PySem.W.Frag → List Bool) (fn : List DD) (fs : List DS) (K : PySem.W.Frag) : Prop := obsY file facts fn fs K = valY fn fs
def obsYG (n : Nat) (file : Str) (facts : PySem.W.Frag → List Bool) (fn : List DD) (fs : List DS) (g : Addr → Option Obj) : He.AlD := obsY file facts fn fs (He.frG g (asY g n))
def hookY (n : Nat) (file : Str) (facts : PySem.W.Frag → List Bool) (fn : List DD) (fs : List DS) : PySem.W.Hook where
  α := He.AlD
  obs := fun s => obsYG n file facts fn fs s.heap.get?
  val := fun _ => valY fn fs
  says := fun _ h => ∃ K : PySem.W.Frag, K.In h ∧ FySays file facts fn fs K
  of := fun _ _ e => ⟨_, He.frG_in, e⟩
  keeps := fun _ _ _ ⟨K, hK, c⟩ k => ⟨K, PySem.W.Frag.In.keeps hK k, c⟩
theorem obsYG_eq {n : Nat} {file : Str} {facts : PySem.W.Frag → List Bool} {fn : List DD} {fs : List DS} {g : Addr → Option Obj} {s : Shared} (h : ∀ a, g a = s.heap.get? a) : obsYG n file facts fn fs g = (hookY n file facts fn fs).obs s := by
  have e : g = s.heap.get? := funext h
  rw [e] <;> rfl
section
variable {file : Str} {facts : PySem.W.Frag → List Bool} {fn : List DD} {fs : List DS} {K : PySem.W.Frag}
theorem FySays.fact (c : FySays file facts fn fs K) (i : Nat) {b : Bool} (h : (facts K)[i]? = some b) : b = true := by
  have c1 := (He.ba (show (((facts K).all fun b => b) && (fn.all (fun d => d.ok K) && fs.all fun d => d.ok file K)) = true from congrArg (fun z : He.AlD => z.1) c)).1
  exact List.all_eq_true.mp c1 b (List.mem_of_getElem? h)
theorem FySays.def_ (c : FySays file facts fn fs K) (i : Nat) {d : DD} (h : fn[i]? = some d) : ∃ fd, FunD K d.d.name d.d.qual d.d.params d.d.body d.d.scope (d.d.dvs K) (d.d.kws K) (d.adr K) fd := by
  have c2 := (He.ba (He.ba (show (((facts K).all fun b => b) && (fn.all (fun d => d.ok K) && fs.all fun d => d.ok file K)) = true from congrArg (fun z : He.AlD => z.1) c)).2).1
  have e : fn.map (fun d => fnA K (d.adr K)) ++ fs.map (fun d => fnS K (d.adr K)) = fn.map (fun d => d.d.val) ++ fs.map (fun d => d.d.val) := congrArg (fun z : He.AlD => z.2) c
  have e2 := congrArg (fun l => l[i]?) (List.append_inj_left e (by simp))
  rw [List.getElem?_map, List.getElem?_map, h] at e2
  exact DD.funD (Option.some.inj e2) (List.all_eq_true.mp c2 d (List.mem_of_getElem? h))
theorem FySays.sup_ {P : Program} (c : FySays P.main.file facts fn fs K) (i : Nat) {d : DS} (h : fs[i]? = some d) : FunS P K d.d.name d.d.qual d.d.params d.d.body d.d.scope (d.adr K) (fdOf K (d.adr K)) (d.D K) := by
  have c2 := (He.ba (He.ba (show (((facts K).all fun b => b) && (fn.all (fun d => d.ok K) && fs.all fun d => d.ok P.main.file K)) = true from congrArg (fun z : He.AlD => z.1) c)).2).2
  have e : fn.map (fun d => fnA K (d.adr K)) ++ fs.map (fun d => fnS K (d.adr K)) = fn.map (fun d => d.d.val) ++ fs.map (fun d => d.d.val) := congrArg (fun z : He.AlD => z.2) c
  have e2 := congrArg (fun l => l[i]?) (List.append_inj_right e (by simp))
  rw [List.getElem?_map, List.getElem?_map, h] at e2
  exact DS.funS (Option.some.inj e2) (List.all_eq_true.mp c2 d (List.mem_of_getElem? h))
end
/-- how such a def binds -/
theorem FunS.bindsN {P : Program} {K : PySem.W.Frag} {x qual : Str} {params : Arguments} {body : List Stmt} {scope : Scope} {f : Addr} {fd : FuncData} {D : Addr} {ps : List Str} (F : FunS P K x qual params body scope f fd D)
    (h : ∀ (doc pm : Value) (an : Option Addr) (cdv ct : Value) (cl : List (Str × Addr)) (us : List Value), us.length = ps.length → bindArgs (PySem.W.fnX x qual params body scope cl .none .none doc pm an cdv ct) ⟨us, []⟩ = pure (ps.zip us)) : Binds K fd ps [] := by
  obtain ⟨oc, od, doc, pm, ct, an, osl, cc, cda, rfl, _⟩ := F.ex
  exact .all (h doc pm an (.ref cda) ct [("__class__", cc)])

/-! ### text * int -/
def strRep (x : Str) (n : Int) : Str := if n < 1 then Str.empty else if (n == 1 || x.length == 0) = true then x else ⟨(List.replicate n.toNat x.cps).foldl (· ++ ·) #[]⟩
def fMulS : F2 := fun x y _ => match x, y with
  | .str x, .int n => if n < 1000 ∧ -1000 < n ∧ x.length < 1000 then some (.str (strRep x n)) else none
  | _, _ => none
def rMulS : R2 := fun x y H Q => ∃ (a : Str) (n : Int), x = .str a ∧ y = .int n ∧ n < 1000 ∧ -1000 < n ∧ a.length < 1000 ∧ Q (.str (strRep a n)) H
theorem rep_size {α : Type} {x : Array α} : ∀ (k : Nat) (acc : Array α), ((List.replicate k x).foldl (· ++ ·) acc).size = acc.size + k * x.size
  | 0, acc => by simp
  | k + 1, acc => by
    rw [List.replicate_succ, List.foldl_cons, rep_size k, Array.size_append, Nat.succ_mul]
    omega
theorem op_mulS {X : Cx} : OpR X (binaryOp .Mult) rMulS := by
  intro pins s σ H x y v u Q I rx ry h
  obtain ⟨a, n, rfl, rfl, h1, h2, h3, q⟩ := h
  obtain ⟨t, rfl⟩ := rx
  obtain ⟨t', rfl⟩ := ry
  have big : a.length * n.toNat ≤ 1000 * 1000 := Nat.mul_le_mul (by omega) (by omega)
  have len_ok : PySem.Builtin.Str.tooLong (a.length * n.toNat) = false := by
    unfold PySem.Builtin.Str.tooLong
    rw [sizeLine_eq]
    exact decide_eq_false (by omega)
  refine PySem.P.mul_str (by rw [Bool.or_eq_false_iff]; exact ⟨decide_eq_false (by omega), decide_eq_false (by omega)⟩) (fun g1 g2 => ?_) (fun g1 g2 => ?_) ?_
  · have e1 : (a.length : Int) * n ≤ 1000 * 1000 := Int.mul_le_mul (by omega) (by omega) (by omega) (by omega)
    have e2 : (a.length : Int) ≤ (2 ^ 63 - 1) / n := Int.le_ediv_of_mul_le (by omega) (by omega)
    omega
  · exact len_ok
  · unfold strRep at q
    by_cases g1 : n < 1
    · rw [if_pos g1] at q ⊢
      exact ⟨by decide, .str Str.empty, H, I.tok _, ⟨_, rfl⟩, q⟩
    · rw [if_neg g1] at q ⊢
      by_cases g2 : (n == 1 || a.length == 0) = true
      · rw [if_pos g2] at q ⊢
        exact ⟨.str a, H, I, ⟨_, rfl⟩, q⟩
      · rw [if_neg g2] at q ⊢
        exact ⟨by
          show (List.foldl _ #[] (List.replicate n.toNat a.cps)).size ≤ sizeLine
          rw [rep_size, sizeLine_eq]
          have : n.toNat * a.cps.size ≤ 1000 * 1000 := Nat.mul_le_mul (by omega) (Nat.le_of_lt (show a.cps.size < 1000 from h3))
          simp only [List.size_toArray, List.length_nil]
          omega, .str _, H, I.tok _, ⟨_, rfl⟩, q⟩
theorem o_mulS {T : Tab} : OpI T fMulS rMulS := fun w h H x y z v u Q s r1 r2 e q => by
  cases x with
  | str a =>
    cases y with
    | int n =>
      cases r1
      cases r2
      have e : (if n < 1000 ∧ -1000 < n ∧ a.length < 1000 then some (W.str (strRep a n)) else none) = some z := e
      split at e
      · rename_i hc
        cases e
        exact ⟨a, n, rfl, rfl, hc.1, hc.2.1, hc.2.2, q w H _ (Le.refl w) s rfl⟩
      · cases e
    | _ => cases e
  | _ => cases e
theorem i_mulS {T : Tab} {X : Cx} {E : WX} {a b : Expr} {ma mb : ME} {pos : Pos} (ha : IE T X E a ma) (hb : IE T X E b mb) : IE T X E (.BinOp a .Mult b pos) (mOp fMulS ma mb) := i_op op_mulS o_mulS ha hb
end Fz

namespace Fz
open PySem PySem.Spec PyProof.Rows L2
/-! ### tables about exceptions -/
def isxT (l : List (Nat × Tg × Bool)) (c : Nat) (u : Tg) : Option Bool := match l.find? fun q => decide (q.1 = c) && decide (q.2.1 = u) with
  | some q => some q.2.2
  | none => none
theorem isxT_mem {l : List (Nat × Tg × Bool)} {c : Nat} {u : Tg} {b : Bool} (e : isxT l c u = some b) : (c, u, b) ∈ l := by
  unfold isxT at e
  cases q : l.find? fun q => decide (q.1 = c) && decide (q.2.1 = u) with
  | none => rw [q] at e; cases e
  | some r =>
    rw [q] at e
    cases e
    have h1 := List.find?_some q
    have h2 := List.mem_of_find?_eq_some q
    rw [Bool.and_eq_true] at h1
    obtain ⟨a, t, b⟩ := r
    have e1 : a = c := of_decide_eq_true h1.1
    have e2 : t = u := of_decide_eq_true h1.2
    subst e1 e2
    exact h2
theorem isxT_ok {T : Tab} {l : List (Nat × Tg × Bool)} (k : ∀ q ∈ l, PySem.W.kitOne T.K (.ref (T.ca q.1)) (q.2.1.val T) = some q.2.2) (x : ∀ q ∈ l, PySem.W.exmOne T.K (.ref (T.ca q.1)) (q.2.1.val T) = some q.2.2) (c : ∀ q ∈ l, XcC T.K (T.ca q.1)) : IsxOk T (isxT l) :=
  ⟨fun _ _ _ e => k _ (isxT_mem e), fun _ _ _ e => x _ (isxT_mem e), fun _ _ _ e => c _ (isxT_mem e)⟩
def fxT (l : List (Nat × Nat)) (c : Nat) : Option Nat := l.lookup c
theorem fxT_mem : ∀ {l : List (Nat × Nat)} {c j : Nat}, fxT l c = some j → (c, j) ∈ l
  | [], _, _, e => nomatch e
  | (a, b) :: l, c, j, e => by
    unfold fxT at e
    rw [List.lookup_cons] at e
    by_cases h : c = a
    · subst h
      simp at e
      subst e
      exact List.mem_cons_self
    · have : (c == a) = false := by simpa using h
      rw [this] at e
      exact List.mem_cons_of_mem _ (fxT_mem (l := l) e)
theorem fxT_ok {T : Tab} {n : Str} {l : List (Nat × Nat)} (a : ∀ q ∈ l, (T.fl q.1)[q.2]? = some n) (nd : ∀ c, (T.fl c).Nodup) (x : ∀ q ∈ l, XcC T.K (T.ca q.1)) (o : ∀ q ∈ l, PySem.W.findIn T.K (.ref (T.ca q.1)) n = some none) : FxOk T n (fxT l) :=
  ⟨fun _ _ e => a _ (fxT_mem e), fun _ _ _ => nd _, fun _ _ e => x _ (fxT_mem e), fun _ _ e => o _ (fxT_mem e)⟩
def xmB (K : PySem.W.Frag) (C D f : Addr) (fs : List Str) : Bool := oexB K C && (supB K C D && ((fs.all fun g => He.eqO (PySem.W.findIn K (.ref C) g) (some none)) && (He.eqO (PySem.W.findIn K (.ref C) "__init__") (some (some (.ref f))) && decide (PySem.W.typeIn K (.ref f) = some (.type "function")))))
theorem xmB_ok {T : Tab} {C D f : Addr} {fs : List Str} {c : Nat} (hC : C = T.ca c) (xc : XcC T.K (T.ca c)) (hf : T.fl c = fs.reverse) (h : xmB T.K C D f fs = true) : XmC T c D f fs := by
  subst hC
  obtain ⟨h1, h⟩ := He.ba h
  obtain ⟨h2, h⟩ := He.ba h
  obtain ⟨h3, h⟩ := He.ba h
  obtain ⟨h4, h5⟩ := He.ba h
  exact ⟨oexB_ok xc h1, supB_ok xc h2, fun g hg => He.eqO_ok (List.all_eq_true.mp h3 g hg), hf, He.eqO_ok h4, of_decide_eq_true h5⟩
end Fz

namespace Fz
open PySem PySem.Spec PyProof.Rows L2

mutual
theorem cloW_mono {j k : Nat} (le : j ≤ k) : ∀ x : W, cloW j x = true → cloW k x = true
  | .tup l, h => cloL_mono le l h
  | .lst l, h => cloL_mono le l h
  | .scr l, h => cloL_mono le l h
  | .ins _ l, h => cloL_mono le l h
  | .dk _ l, h => cloL_mono le l h
  | .dt _ l, h => cloL_mono le l h
  | .exn _ l, h => cloL_mono le l h
  | .loc n, h => decide_eq_true (Nat.lt_of_lt_of_le (of_decide_eq_true (show decide (n < j) = true from h)) le)
  | .non, _ => rfl
  | .bl _, _ => rfl
  | .int _, _ => rfl
  | .str _, _ => rfl
  | .cls _, _ => rfl
  | .ty _, _ => rfl
theorem cloL_mono {j k : Nat} (le : j ≤ k) : ∀ l : List W, cloL j l = true → cloL k l = true
  | [], _ => rfl
  | x :: l, h => by
    have h : (cloW j x && cloL j l) = true := h
    rw [Bool.and_eq_true] at h
    show (cloW k x && cloL k l) = true
    rw [cloW_mono le x h.1, cloL_mono le l h.2]
    rfl
end
theorem cloL_app {k : Nat} : ∀ {a b : List W}, cloL k (a ++ b) = (cloL k a && cloL k b)
  | [], b => rfl
  | x :: a, b => by
    show (cloW k x && cloL k (a ++ b)) = ((cloW k x && cloL k a) && cloL k b)
    rw [cloL_app, Bool.and_assoc]
theorem cloC_mono {j k : Nat} (le : j ≤ k) : ∀ c : Cell, cloC j c = true → cloC k c = true
  | .lst l, h => cloL_mono le l h
  | .dk l, h => cloL_mono le _ h
  | .dt l, h => cloL_mono le _ h
  | .ins _ l, h => cloL_mono le l h
  | .dead, _ => rfl
def Clo (h : List Cell) : Prop := h.all (cloC h.length) = true
theorem Clo.push {h : List Cell} {c : Cell} (a : Clo h) (b : cloC (h.length + 1) c = true) : Clo (h ++ [c]) := by
  unfold Clo at *
  rw [List.length_append, List.all_append, Bool.and_eq_true]
  refine ⟨List.all_eq_true.mpr fun x hx => cloC_mono (Nat.le_add_right _ _) x (List.all_eq_true.mp a x hx), ?_⟩
  rw [List.all_cons, List.all_nil, Bool.and_true]
  exact b
/-! ### a comprehension whose parts leave the heap -/
theorem lcW_pure {src : Src} {g : MG} {t : MT} {e : ME} {ρ : EnvW} {xs : List W} {h : List Cell} (p : W → Bool) (q : W → W) (hsrc : ∀ (k : Nat) (l : List W), k ≤ xs.length → src k (h ++ [.lst l]) = some xs[k]?)
    (hb : ∀ (k : Nat) (x : W), xs[k]? = some x → ∀ l : List W, cloL 0 l = true → ∃ ρ1, g x ρ (h ++ [.lst l]) = .nx ρ1 (h ++ [.lst l]) ∧ t ρ1 (h ++ [.lst l]) = .ok (p x) (h ++ [.lst l]) ∧ (p x = true → e ρ1 (h ++ [.lst l]) = .ok (q x) (h ++ [.lst l]))) (hq : ∀ (k : Nat) (x : W), xs[k]? = some x → cloW 0 (q x) = true) (hz : xs.length < sizeLine) :
    ∀ (m k : Nat) (l : List W), cloL 0 l = true → l.length ≤ k → k ≤ xs.length → xs.length < k + m → lcW src g t e ρ h.length m k (h ++ [.lst l]) = .ok (.loc h.length) (h ++ [.lst (l ++ ((xs.drop k).filter p).map q)])
  | 0, k, l, _, _, h2, h3 => absurd h3 (by omega)
  | m + 1, k, l, hc, h1, h2, h3 => by
    unfold lcW
    rw [hsrc k l h2]
    cases ex : xs[k]? with
    | none =>
      have : xs.length ≤ k := List.getElem?_eq_none_iff.mp ex
      rw [List.drop_eq_nil_of_le this]
      simp
    | some x =>
      obtain ⟨ρ1, e1, e2, e3⟩ := hb k x ex l hc
      have hk := (List.getElem?_eq_some_iff.mp ex).1
      have hd : xs.drop k = x :: xs.drop (k + 1) := by
        rw [List.drop_eq_getElem_cons hk]
        rw [(List.getElem?_eq_some_iff.mp ex).2]
      dsimp only
      rw [e1]
      dsimp only
      rw [e2, hd]
      show (if p x = true then _ else _) = _
      cases hp : p x with
      | true =>
        rw [if_pos rfl, e3 hp]
        show (match (h ++ [Cell.lst l])[h.length]? with | some (.lst l) => _ | _ => _) = _
        rw [List.getElem?_append_right (Nat.le_refl _), Nat.sub_self]
        show (if l.length < sizeLine then _ else _) = _
        rw [if_pos (by omega)]
        have es : (h ++ [Cell.lst l]).set h.length (.lst (l ++ [q x])) = h ++ [.lst (l ++ [q x])] := by
          rw [List.set_append_right (s := h) (t := [Cell.lst l]) h.length _ (Nat.le_refl _), Nat.sub_self]
          rfl
        rw [es, lcW_pure p q hsrc hb hq hz m (k + 1) (l ++ [q x]) (by rw [cloL_app, hc]; show (cloW 0 (q x) && true) = true; rw [hq k x ex]; rfl) (by simp; omega) hk (by omega)]
        rw [List.filter_cons_of_pos hp, List.map_cons, List.append_assoc]
        rfl
      | false =>
        rw [if_neg (by decide), lcW_pure p q hsrc hb hq hz m (k + 1) l hc (by omega) hk (by omega), List.filter_cons_of_neg (by rw [hp]; decide)]
/-- a value that is data throughout is frozen as it stands -/
theorem frzW_clo {k : Nat} {x : W} {h : List Cell} (c : cloW 0 x = true) (n : ∀ j, x ≠ .loc j) : frzW (k + 1) x h = some (x, h) := by
  cases x <;> first | rfl | (exfalso; exact n _ rfl) | (show (if cloW 0 _ then _ else _) = _; exact if_pos c)
theorem frzL_clo {k : Nat} {h : List Cell} : ∀ {l : List W}, cloL 0 l = true → frzL (frzW (k + 1)) l h = some (l, h)
  | [], _ => rfl
  | x :: l, c => by
    have c : (cloW 0 x && cloL 0 l) = true := c
    rw [Bool.and_eq_true] at c
    have nl : ∀ j, x ≠ .loc j := fun j z => by
      rw [z] at c
      exact absurd c.1 (by simp [cloW])
    unfold frzL
    rw [frzW_clo c.1 nl]
    dsimp only
    rw [frzL_clo c.2]
/-- a list just made, of data, is frozen -/
theorem frz_new {h : List Cell} {l : List W} (c : cloL 0 l = true) : frzW 8 (.loc h.length) (h ++ [.lst l]) = some (.lst l, h ++ [.dead]) := by
  have e0 : (h ++ [Cell.lst l])[h.length]? = some (.lst l) := by rw [List.getElem?_append_right (Nat.le_refl _), Nat.sub_self]; rfl
  unfold frzW
  dsimp only
  rw [e0]
  dsimp only
  rw [frzL_clo (k := 6) c]
  dsimp only
  have es : (h ++ [Cell.lst l]).set h.length .dead = h ++ [.dead] := by
    rw [List.set_append_right (s := h) (t := [Cell.lst l]) h.length _ (Nat.le_refl _), Nat.sub_self]
    rfl
  rw [es]
/-- a def's end: the cells made in it are given up -/
theorem fnM_tail {fz : Bool} {nv k : Nat} {m : MS} {xs : List W} {h t : List Cell} {x y : W} (hl : xs.length = k) (e : m (xs.map some ++ List.replicate (nv - k) none) h = .rt x (h ++ t)) (hf : fz = true → frzW 8 x (h ++ t) = some (y, h ++ t)) (hf' : fz = false → y = x) (cy : cloW h.length y = true) (ch : Clo h) :
    fnM fz nv k m xs h = .ok y h := by
  have e1 : fnB nv k m xs h = .ok x (h ++ t) := by
    unfold fnB
    rw [if_pos hl, e]
    rfl
  have fin : trimR h.length (.ok y (h ++ t)) = .ok y h := by
    show (if (h ++ t).length ≤ h.length then _ else _) = _
    by_cases q : (h ++ t).length ≤ h.length
    · rw [if_pos q]
      have : t = [] := by
        rw [List.length_append] at q
        exact List.eq_nil_of_length_eq_zero (by omega)
      rw [this, List.append_nil]
    · rw [if_neg q, List.take_left, cy]
      rw [show (true && h.all (cloC h.length)) = true from ch]
      exact if_pos rfl
  unfold fnM
  cases fz with
  | false =>
    rw [if_neg (by simp), e1, ← hf' rfl]
    exact fin
  | true =>
    rw [if_pos rfl, e1]
    unfold frzR
    rw [bind_ok, hf rfl]
    exact fin
end Fz

namespace Fz
open PySem PySem.Spec PyProof.Rows L2

/-! ### the laws' comparison -/
/-- plain data, at most d deep -/
def plD : Nat → W → Bool
  | _, .non => true
  | _, .bl _ => true
  | _, .int _ => true
  | _, .str _ => true
  | d + 1, .lst l => l.all (plD d) && decide (l.length < 1000000)
  | d + 1, .tup l => l.all (plD d) && decide (l.length < 1000000)
  | _, _ => false
/-- equal, kinds and all -/
def sameD : Nat → W → W → Bool
  | _, .non, .non => true
  | _, .bl a, .bl b => a == b
  | _, .int a, .int b => decide (a = b)
  | _, .str a, .str b => decide (a = b)
  | d + 1, .lst a, .lst b => decide (a.length = b.length) && (List.range b.length).all fun k => sameD d (a.getD k .non) (b.getD k .non)
  | d + 1, .tup a, .tup b => decide (a.length = b.length) && (List.range b.length).all fun k => sameD d (a.getD k .non) (b.getD k .non)
  | _, _, _ => false
theorem plD_clo {d : Nat} {x : W} (h : plD d x = true) (k : Nat) : cloW k x = true := by
  induction d generalizing x with
  | zero => cases x <;> first | rfl | cases h
  | succ d ih =>
    have all : ∀ l : List W, l.all (plD d) = true → cloL k l = true := fun l => by
      induction l with
      | nil => intro _; rfl
      | cons y l ihl =>
        intro q
        rw [List.all_cons, Bool.and_eq_true] at q
        show (cloW k y && cloL k l) = true
        rw [ih q.1, ihl q.2]
        rfl
    cases x with
    | lst l =>
      have h : (l.all (plD d) && decide (l.length < 1000000)) = true := h
      rw [Bool.and_eq_true] at h
      exact all l h.1
    | tup l =>
      have h : (l.all (plD d) && decide (l.length < 1000000)) = true := h
      rw [Bool.and_eq_true] at h
      exact all l h.1
    | non => rfl
    | bl => rfl
    | int => rfl
    | str => rfl
    | _ => cases h
def sameAM (isi : Tg → Tg → Option Bool) (f : Fn) : MS :=
    (mSeq (mIfS (mTst (mOp fIsN (mVar 1) (mC .non))) (mRet (mOp fIsN (mVar 0) (mC .non))) mSkip)
    (mSeq (mIfS (mTru (mCB (fIsi isi) (mCons (mVar 1) (mCons (mTup (mCons (mC (.ty .int)) (mCons (mC (.ty .str)) mNil))) mNil)))) (mSeq (mIfS (mNot (mTru (mCB (fIsi isi) (mCons (mVar 0) (mCons (mTup (mCons (mC (.ty .int)) (mCons (mC (.ty .str)) mNil))) mNil))))) (mRet (mC (.bl false))) mSkip)
    (mSeq (mIfS (mTst (mOp fNe (mCB (fIsi isi) (mCons (mVar 0) (mCons (mC (.ty .str)) mNil))) (mCB (fIsi isi) (mCons (mVar 1) (mCons (mC (.ty .str)) mNil))))) (mRet (mC (.bl false))) mSkip)
    (mRet (mAndV (mOp fEq (mCB (fIsi isi) (mCons (mVar 0) (mCons (mC (.ty .bool)) mNil))) (mCB (fIsi isi) (mCons (mVar 1) (mCons (mC (.ty .bool)) mNil)))) (mOp fEq (mVar 0) (mVar 1)))))) mSkip)
    (mSeq (mIfS (mOr (mNot (mTru (mCB (fIsi isi) (mCons (mVar 0) (mCons (mTup (mCons (mC (.ty .list)) (mCons (mC (.ty .tuple)) mNil))) mNil))))) (mTst (mOp fNe (mCB (fIsi isi) (mCons (mVar 0) (mCons (mC (.ty .list)) mNil))) (mCB (fIsi isi) (mCons (mVar 1) (mCons (mC (.ty .list)) mNil)))))) (mRet (mC (.bl false))) mSkip)
    (mSeq (mIfS (mTst (mOp fNe (mCB fLen (mCons (mVar 0) mNil)) (mCB fLen (mCons (mVar 1) mNil)))) (mRet (mC (.bl false))) mSkip)
    (mRet (mOp fEq (mCB fLen (mCons (mFrz (mLc (mIRng1 (mCons (mCB fLen (mCons (mVar 1) mNil)) mNil)) (mGName 2) (mNot (mTru (mCall f [] (mCons (mOp fIx (mVar 0) (mVar 2)) (mCons (mOp fIx (mVar 1) (mVar 2)) mNil))))) (mVar 2) [2])) mNil)) (mC (.int 0))))))))
/-- the last row: how many places differ -/
def sameAL (f : Fn) : MS := mRet (mOp fEq (mCB fLen (mCons (mFrz (mLc (mIRng1 (mCons (mCB fLen (mCons (mVar 1) mNil)) mNil)) (mGName 2) (mNot (mTru (mCall f [] (mCons (mOp fIx (mVar 0) (mVar 2)) (mCons (mOp fIx (mVar 1) (mVar 2)) mNil))))) (mVar 2) [2])) mNil)) (mC (.int 0)))
theorem fEq_lenI {n : Nat} {h : List Cell} : fEq (.int (n : Int)) (.int 0) h = some (.bl (decide (n = 0))) := by
  rw [fEq_int]
  congr 2
  by_cases q : n = 0
  · subst q; rfl
  · rw [decide_eq_false q, decide_eq_false (by omega)]
theorem sameAL_ok {f : Fn} {x y : W} {a b : List W} {h : List Cell} (hx : ∀ (k : Nat) (z : W) (t : List Cell), a[k]? = some z → fIx x (.int (k : Int)) (h ++ t) = some z) (hy : ∀ (k : Nat) (z : W) (t : List Cell), b[k]? = some z → fIx y (.int (k : Int)) (h ++ t) = some z)
    (hlen : fLen [y] h = some (.int b.length)) (hl : a.length = b.length) (hz : b.length < 1000000) (r : Nat → Bool) (hf : ∀ (k : Nat) (z u : W) (t : List W), cloL 0 t = true → a[k]? = some z → b[k]? = some u → f [z, u] (h ++ [.lst t]) = .ok (.bl (r k)) (h ++ [.lst t])) :
    sameAL f [some x, some y, none] h = .rt (.bl ((List.range b.length).all r)) (h ++ [.dead]) := by
  have ir : Fz.inR (b.length : Int) = true := by
    unfold Fz.inR
    exact decide_eq_true ⟨by omega, by omega⟩
  have lc : lcW (srcRng 0 1 b.length) (mGName 2) (mNot (mTru (mCall f [] (mCons (mOp fIx (mVar 0) (mVar 2)) (mCons (mOp fIx (mVar 1) (mVar 2)) mNil))))) (mVar 2) [some x, some y, none] h.length (b.length + 1) 0 (h ++ [.lst []]) =
      .ok (.loc h.length) (h ++ [.lst ([] ++ (((rngW 0 1 b.length).drop 0).filter (fun z => match z with | .int i => !r i.toNat | _ => false)).map id)]) := by
    refine lcW_pure _ _ (fun k l hk => src_rng_at (by simpa using hk)) (fun k z e l hc => ?_) (fun k z e => ?_) (by rw [rngW_len, sizeLine_eq]; omega) (b.length + 1) 0 [] rfl (Nat.le_refl _) (Nat.zero_le _) (by rw [rngW_len]; omega)
    · obtain ⟨hk, rfl⟩ := rngW_at e
      have ea : a[k]? = some a[k] := List.getElem?_eq_getElem (by omega)
      have eb : b[k]? = some b[k] := List.getElem?_eq_getElem hk
      refine ⟨[some x, some y, some (.int (0 + (k : Int) * 1))], rfl, ?_, fun _ => rfl⟩
      have e0 : (0 + (k : Int) * 1) = (k : Int) := by omega
      rw [e0]
      simp -implicitDefEqProofs [hx k _ [.lst l] ea, hy k _ [.lst l] eb, hf k _ _ l hc ea eb]
    · obtain ⟨hk, rfl⟩ := rngW_at e
      rfl
  have frz : frzW 8 (.loc h.length) (h ++ [.lst ([] ++ (((rngW 0 1 b.length).drop 0).filter (fun z => match z with | .int i => !r i.toNat | _ => false)).map id)]) = some (.lst (((rngW 0 1 b.length).filter (fun z => match z with | .int i => !r i.toNat | _ => false))), h ++ [.dead]) := by
    rw [List.map_id, List.nil_append, List.drop_zero]
    refine frz_new ?_
    have all : ∀ l : List W, (∀ z ∈ l, cloW 0 z = true) → cloL 0 l = true := fun l => by
      induction l with
      | nil => intro _; rfl
      | cons z l ih =>
        intro q
        show (cloW 0 z && cloL 0 l) = true
        rw [q z (by simp), ih fun z hz => q z (by simp [hz])]
        rfl
    refine all _ fun z hz => ?_
    obtain ⟨i, hi⟩ := List.mem_iff_getElem?.mp (List.mem_filter.mp hz).1
    obtain ⟨_, rfl⟩ := rngW_at hi
    rfl
  unfold sameAL
  rw [ap_ret]
  have step : mLc (mIRng1 (mCons (mCB fLen (mCons (mVar 1) mNil)) mNil)) (mGName 2) (mNot (mTru (mCall f [] (mCons (mOp fIx (mVar 0) (mVar 2)) (mCons (mOp fIx (mVar 1) (mVar 2)) mNil))))) (mVar 2) [2] [some x, some y, none] h = .ok (.loc h.length) (h ++ [.lst ([] ++ (((rngW 0 1 b.length).drop 0).filter (fun z => match z with | .int i => !r i.toNat | _ => false)).map id)]) := by
    rw [← lc]
    unfold mLc
    simp -implicitDefEqProofs [hlen, ir, wipeW]
  have st2 : mFrz (mLc (mIRng1 (mCons (mCB fLen (mCons (mVar 1) mNil)) mNil)) (mGName 2) (mNot (mTru (mCall f [] (mCons (mOp fIx (mVar 0) (mVar 2)) (mCons (mOp fIx (mVar 1) (mVar 2)) mNil))))) (mVar 2) [2]) [some x, some y, none] h = .ok (.lst (((rngW 0 1 b.length).filter (fun z => match z with | .int i => !r i.toNat | _ => false)))) (h ++ [.dead]) := by
    unfold mFrz frzR
    rw [step, bind_ok, frz]
  have cnt : decide (((rngW 0 1 b.length).filter (fun z => match z with | .int i => !r i.toNat | _ => false)).length = 0) = (List.range b.length).all r := by
    rw [Bool.eq_iff_iff, decide_eq_true_iff, List.length_eq_zero_iff, List.filter_eq_nil_iff, List.all_eq_true]
    constructor
    · intro q k hk
      have m : W.int (k : Int) ∈ rngW 0 1 b.length := List.mem_map.mpr ⟨k, hk, by simp⟩
      have := q _ m
      simpa using this
    · intro q z hz
      obtain ⟨k, hk, rfl⟩ := List.mem_map.mp hz
      have := q k hk
      simp [this]
  simp -implicitDefEqProofs only [ap_op, ap_cb, ap_cons, ap_nil, bind_ok, st2, fLen_lst, ofO_some, ap_c, fEq_lenI, toS_ok, cnt]

theorem all_getD {d : Nat} {l : List W} (h : l.all (plD d) = true) (k : Nat) : plD d (l.getD k .non) = true := by
  by_cases q : k < l.length
  · rw [List.getD_eq_getElem?_getD, List.getElem?_eq_getElem q]
    exact List.all_eq_true.mp h _ (List.getElem_mem q)
  · rw [List.getD_eq_getElem?_getD, List.getElem?_eq_none (by omega)]
    cases d <;> rfl
theorem sameA_seq {l : List (Tg × Tg × Bool)} {f : Fn} {x y : W} {a b : List W} {h : List Cell} {d : Nat} (hx : ∀ (k : Nat) (z : W) (t : List Cell), a[k]? = some z → fIx x (.int (k : Int)) (h ++ t) = some z) (hy : ∀ (k : Nat) (z : W) (t : List Cell), b[k]? = some z → fIx y (.int (k : Int)) (h ++ t) = some z)
    (hlen : fLen [y] h = some (.int b.length)) (hz : b.length < 1000000) (pa : a.all (plD d) = true) (pb : b.all (plD d) = true) (ch : Clo h)
    (hm : sameAM (isiT l) f [some x, some y, none] h = thn ((R.ok (!decide ((a.length : Int) = b.length)) h).toS [some x, some y, none] fun q h1 => if q = true then .rt (.bl false) h1 else .nx [some x, some y, none] h1) (sameAL f))
    (ih : ∀ (x y : W) (h : List Cell), plD d x = true → plD d y = true → Clo h → f [x, y] h = .ok (.bl (sameD d x y)) h) :
    fnM true 3 2 (sameAM (isiT l) f) [x, y] h = .ok (.bl (decide (a.length = b.length) && (List.range b.length).all fun k => sameD d (a.getD k .non) (b.getD k .non))) h := by
  by_cases q : a.length = b.length
  · have e1 : sameAM (isiT l) f [some x, some y, none] h = .rt (.bl ((List.range b.length).all fun k => sameD d (a.getD k .non) (b.getD k .non))) (h ++ [.dead]) := by
      rw [hm]
      have : (!decide ((a.length : Int) = b.length)) = false := by rw [decide_eq_true (by omega)]; rfl
      rw [this]
      show sameAL f _ h = _
      refine sameAL_ok hx hy hlen q hz _ fun k z u t hc e1 e2 => ?_
      have ez : a.getD k .non = z := by rw [List.getD_eq_getElem?_getD, e1]; rfl
      have eu : b.getD k .non = u := by rw [List.getD_eq_getElem?_getD, e2]; rfl
      have pz := all_getD pa k
      have pu := all_getD pb k
      rw [ez] at pz
      rw [eu] at pu
      rw [ih z u _ pz pu (ch.push (c := .lst t) (cloL_mono (Nat.zero_le _) _ hc)), ez, eu]
    rw [decide_eq_true q, Bool.true_and]
    exact fnM_tail rfl e1 (fun _ => rfl) (fun z => nomatch z) rfl ch
  · have e1 : sameAM (isiT l) f [some x, some y, none] h = .rt (.bl false) h := by
      rw [hm]
      have : (!decide ((a.length : Int) = b.length)) = true := by rw [decide_eq_false (by omega)]; rfl
      rw [this]
      rfl
    rw [decide_eq_false q, Bool.false_and]
    exact fnM_same rfl e1 rfl fun _ => frz_bl
theorem sameA_ok {l : List (Tg × Tg × Bool)} {F : Nat → Fn} (hF : ∀ n, F (n + 1) = fnM true 3 2 (sameAM (isiT l) (F n))) : ∀ (d n : Nat) (x y : W) (h : List Cell), plD d x = true → plD d y = true → Clo h → F (n + d + 1) [x, y] h = .ok (.bl (sameD d x y)) h := by
  have atom : ∀ {n : Nat} {x y : W} {h : List Cell} {b : Bool}, sameAM (isiT l) (F n) [some x, some y, none] h = .rt (.bl b) h → F (n + 1) [x, y] h = .ok (.bl b) h := fun {n x y h b} e => by
    rw [hF]
    exact fnM_same rfl e rfl fun _ => frz_bl
  intro d
  induction d with
  | zero =>
    intro n x y h hx hy ch
    cases x <;> first | (cases hx; done) | skip
    all_goals cases y <;> first | (cases hy; done) | exact atom rfl
  | succ d ih =>
    intro n x y h hx hy ch
    have ih' : ∀ (x y : W) (h : List Cell), plD d x = true → plD d y = true → Clo h → F (n + d + 1) [x, y] h = .ok (.bl (sameD d x y)) h := ih n
    cases x <;> first | (cases hx; done) | skip
    all_goals cases y <;> first | (cases hy; done) | exact atom rfl | skip
    · rename_i a b
      have hx : (a.all (plD d) && decide (a.length < 1000000)) = true := hx
      have hy : (b.all (plD d) && decide (b.length < 1000000)) = true := hy
      rw [Bool.and_eq_true] at hx hy
      show F (n + d + 1 + 1) _ _ = _
      rw [hF]
      exact sameA_seq (fun k z t e => atI_natC e) (fun k z t e => atI_natC e) rfl (of_decide_eq_true hy.2) hx.1 hy.1 ch rfl ih'
    · rename_i a b
      have hx : (a.all (plD d) && decide (a.length < 1000000)) = true := hx
      have hy : (b.all (plD d) && decide (b.length < 1000000)) = true := hy
      rw [Bool.and_eq_true] at hx hy
      show F (n + d + 1 + 1) _ _ = _
      rw [hF]
      exact sameA_seq (fun k z t e => atI_natC e) (fun k z t e => atI_natC e) rfl (of_decide_eq_true hy.2) hx.1 hy.1 ch rfl ih'
theorem sameD_refl : ∀ (d : Nat) (x : W), plD d x = true → sameD d x x = true := by
  intro d
  induction d with
  | zero => intro x hx; cases x <;> first | (cases hx; done) | (show _ = true; simp [sameD])
  | succ d ih =>
    intro x hx
    cases x <;> first | (cases hx; done) | (simp [sameD]; done) | skip
    · rename_i a
      have hx : (a.all (plD d) && decide (a.length < 1000000)) = true := hx
      rw [Bool.and_eq_true] at hx
      show (decide (a.length = a.length) && (List.range a.length).all fun k => sameD d (a.getD k .non) (a.getD k .non)) = true
      rw [decide_eq_true rfl, Bool.true_and, List.all_eq_true]
      exact fun k _ => ih _ (all_getD hx.1 k)
    · rename_i a
      have hx : (a.all (plD d) && decide (a.length < 1000000)) = true := hx
      rw [Bool.and_eq_true] at hx
      show (decide (a.length = a.length) && (List.range a.length).all fun k => sameD d (a.getD k .non) (a.getD k .non)) = true
      rw [decide_eq_true rfl, Bool.true_and, List.all_eq_true]
      exact fun k _ => ih _ (all_getD hx.1 k)
end Fz

/-! methods of texts; str of an instance by its own __str__; a class's static methods -/
namespace Fz
open PySem PySem.Spec PyProof.Rows L2 TL
/-! ### texts -/
def mkS (l : List Nat) : Str := ⟨l.toArray⟩
theorem tl_mkS (l : List Nat) : tl (mkS l) = l := rfl
def splitS (a b : Str) : List Str := (spl (tl b) 0 [] (tl a)).map mkS
theorem splitS_eq {a b : Str} (h1 : tl b ≠ []) (h2 : b.cps.all (· < 256) = true) : Txt.split a b = splitS a b := by
  refine map_tl_inj ?_
  rw [split_spl a b h1 (kind_ok h2)]
  unfold splitS
  rw [List.map_map]
  exact (List.map_id _).symm
def joinS (a : Str) (ys : List Str) : Str := mkS (joinL (tl a) (ys.map tl))
theorem joinS_eq (a : Str) (ys : List Str) : Txt.join a ys = joinS a ys := by
  refine ext_tl ?_
  rw [join_eq, tl_join]
  rfl
def sumL (ys : List Str) : Nat := (ys.map (·.length)).sum
section
variable {T : Tab} {X : Cx} {E : WX} {n k : Nat} {a b e o : Expr} {ma mb mo m : ME} {pos p apos cpos : Pos} {es : List Expr} {mr : MA}
/-- o.split(e): the list is data, or a cell -/
def mSplit (cell : Bool) (mo m : ME) : ME := fun ρ h => (mo ρ h).bind fun x h1 => match x with
  | .str a => (m ρ h1).bind fun y h2 => (match y with
    | .str b => if (!(tl b).isEmpty && (b.cps.all (· < 256) && decide (a.length + 2 ≤ sizeLine))) = true then
        (if cell = true then .ok (.loc h2.length) (h2 ++ [.lst ((splitS a b).map .str)]) else .ok (.lst ((splitS a b).map .str)) h2) else .bad
    | _ => .bad)
  | _ => .bad
theorem vrs_strs {w : Wd} : ∀ ys : List Str, VRs T w (ys.map W.str) (ys.map V.str)
  | [] => .nil
  | y :: ys => .cons rfl (vrs_strs ys)
theorem split_post {w : Wd} {h : List Cell} {H : Hp} {cell : Bool} {a b : Str} {Q : VK} {F : XK} (s : StR T w h H) (p : Post T (VR T) w Q F (if (!(tl b).isEmpty && (b.cps.all (· < 256) && decide (a.length + 2 ≤ sizeLine))) = true then
        (if cell = true then .ok (.loc h.length) (h ++ [.lst ((splitS a b).map .str)]) else .ok (.lst ((splitS a b).map .str)) h) else .bad)) :
    (b.length == 0) = false ∧ a.length + 2 ≤ sizeLine ∧ rNewStrs (Txt.split a b) H Q := by
  split at p
  · rename_i hc
    obtain ⟨c1, hc⟩ := He.ba hc
    obtain ⟨c2, c3⟩ := He.ba hc
    have c0 : tl b ≠ [] := by
      intro z
      rw [z] at c1
      cases c1
    refine ⟨by rw [len_tl]; cases q : tl b with | nil => exact absurd q c0 | cons x y => rfl, of_decide_eq_true c3, fun t ht => ?_⟩
    rw [splitS_eq c0 c2]
    split at p
    · exact p _ _ _ Le.addC (s.cell (c := .lst ((splitS a b).map .str)) (u := .lst ((splitS a b).map V.str)) ht ⟨_, upd_same, vrs_strs _⟩) (new_loc s)
    · obtain ⟨s', le'⟩ := s.frozen (o := .lst ((splitS a b).map .str)) (u := .lst ((splitS a b).map V.str)) ht ⟨_, upd_same, vrs_strs _⟩
      exact p _ _ _ le' s' ⟨t, rfl, if_pos rfl⟩
  · exact p.elim
theorem i_split (cell : Bool) (ho : IE T X E o mo) (he : IE T X E e m) (hs : starEach [e] X.env = [(false, eval e X.env)] := by rfl) (hbase : attributeBase o "split" X.env (eval o X.env) = eval o X.env := by rfl) (hline : (apos.endLine == pos.line) = true := by rfl) :
    IE T X E (.Call (.Attribute o "split" apos) [e] [] pos) (mSplit cell mo m) :=
  PE.imp (pe_split ho he hs hbase hline) fun σ H Q ⟨w, ρ, h, s, en, p⟩ => ⟨w, ρ, h, s, en, Post.bind p fun x h1 w1 H1 v le s1 r1 p1 => by
    cases x with
    | str a =>
      cases r1
      refine ⟨⟨a, rfl⟩, w1, ρ, h1, s1, en.mono le, Post.bind p1 fun y h2 w2 H2 u le2 s2 r2 p2 => ?_⟩
      cases y with
      | str b =>
        cases r2
        obtain ⟨q1, q2, q3⟩ := split_post s2 p2
        exact ⟨a, b, rfl, rfl, q1, q2, q3⟩
      | _ => exact p2.elim
    | _ => exact p1.elim⟩
/-- o.join(e) -/
def mJoin (mo m : ME) : ME := fun ρ h => (mo ρ h).bind fun x h1 => match x with
  | .str a => (m ρ h1).bind fun y h2 => (match rdS h2 y with
    | some l => (match strsW l with
      | some ys => if sumL ys + ys.length * a.length ≤ 16777216 then .ok (.str (joinS a ys)) h2 else .bad
      | none => .bad)
    | none => .bad)
  | _ => .bad
theorem i_join {gb : Bool} (G : Gx T X E n gb) (ho : IE T X E o mo) (he : IE T X E e m) (hs : starEach [e] X.env = [(false, eval e X.env)] := by rfl) (hbase : attributeBase o "join" X.env (eval o X.env) = eval o X.env := by rfl) (hline : (apos.endLine == pos.line) = true := by rfl) :
    IE T X E (.Call (.Attribute o "join" apos) [e] [] pos) (mJoin mo m) :=
  PE.imp (pe_join ho he hs hbase hline) fun σ H Q ⟨w, ρ, h, s, en, p⟩ => ⟨w, ρ, h, s, en, Post.bind p fun x h1 w1 H1 v le s1 r1 p1 => by
    cases x with
    | str a =>
      cases r1
      refine ⟨⟨a, rfl⟩, w1, ρ, h1, s1, en.mono le, Post.bind p1 fun y h2 w2 H2 u le2 s2 r2 p2 => ?_⟩
      cases q0 : rdS h2 y with
      | none => rw [q0] at p2; exact p2.elim
      | some l =>
        rw [q0] at p2
        obtain ⟨b, vs, rfl, g1, g2⟩ := rdS_at s2 r2 q0
        dsimp only at p2
        cases q1 : strsW l with
        | none => rw [q1] at p2; exact p2.elim
        | some ys =>
          rw [q1] at p2
          dsimp only at p2
          split at p2
          · rename_i hc
            rw [strsW_ok g2 q1] at g1
            exact ⟨a, b, ys, rfl, rfl, by rw [G.K]; exact g1, hc, by rw [joinS_eq]; exact p2 w2 H2 _ (Le.refl _) s2 rfl⟩
          · exact p2.elim
    | _ => exact p1.elim⟩
/-- of a text alone -/
def mT0 (C : Str → Bool) (g : Str → W) (mo : ME) : ME := fun ρ h => (mo ρ h).bind fun x h1 => match x with
  | .str a => if C a = true then .ok (g a) h1 else .bad
  | _ => .bad
theorem t0_of {C : Str → Bool} {D : Str → Prop} {g : Str → W} {gv : Str → V} (hC : ∀ a, C a = true → D a) (hg : ∀ w a, VR T w (g a) (gv a)) {σ : L2.St} {H : Hp} {Q : VK} (q : teI T E (mT0 C g mo) σ H Q) :
    tM0 (fun x xs H Q => ∃ a, x = .str a ∧ xs = [] ∧ D a ∧ Q (gv a) H) (teI T E mo) σ H Q := by
  obtain ⟨w, ρ, h, s, en, p⟩ := q
  exact ⟨w, ρ, h, s, en, Post.bind p fun x h1 w1 H1 v le s1 r1 p1 => by
    cases x with
    | str a =>
      cases r1
      dsimp only at p1
      split at p1
      · rename_i hc
        exact ⟨⟨a, rfl⟩, a, rfl, rfl, hC a hc, p1 w1 H1 _ (Le.refl _) s1 (hg w1 a)⟩
      · exact p1.elim
    | _ => exact p1.elim⟩
def c56 (a : Str) : Bool := decide (a.length ≤ 5592405)
def cSz (a : Str) : Bool := decide (a.length ≤ sizeLine)
def cAny (a : Str) : Bool := true
def gUp (a : Str) : W := .str (Txt.upper a)
def gLow (a : Str) : W := .str (Txt.lower a)
def gDig (a : Str) : W := .bl (Txt.isdigit a)
def gAlp (a : Str) : W := .bl (Txt.isalpha a)
theorem i_upper (ho : IE T X E o mo) (hbase : attributeBase o "upper" X.env (eval o X.env) = eval o X.env := by rfl) (hline : (apos.endLine == pos.line) = true := by rfl) : IE T X E (.Call (.Attribute o "upper" apos) [] [] pos) (mT0 c56 gUp mo) :=
  PE.imp (pe_m0 PySem.F.slot_str_upper PySem.F.type_str_upper mt_upper ho hbase hline) fun σ H Q q => t0_of (C := c56) (g := gUp) (fun _ h => of_decide_eq_true h) (fun _ _ => rfl) q
theorem i_lower (ho : IE T X E o mo) (hbase : attributeBase o "lower" X.env (eval o X.env) = eval o X.env := by rfl) (hline : (apos.endLine == pos.line) = true := by rfl) : IE T X E (.Call (.Attribute o "lower" apos) [] [] pos) (mT0 c56 gLow mo) :=
  PE.imp (pe_m0 PySem.F.slot_str_lower PySem.F.type_str_lower mt_lower ho hbase hline) fun σ H Q q => t0_of (C := c56) (g := gLow) (fun _ h => of_decide_eq_true h) (fun _ _ => rfl) q
theorem i_isdigit (ho : IE T X E o mo) (hbase : attributeBase o "isdigit" X.env (eval o X.env) = eval o X.env := by rfl) (hline : (apos.endLine == pos.line) = true := by rfl) : IE T X E (.Call (.Attribute o "isdigit" apos) [] [] pos) (mT0 cAny gDig mo) :=
  PE.imp (pe_m0 PySem.F.slot_str_isdigit PySem.F.type_str_isdigit mt_isdigit ho hbase hline) fun σ H Q q => t0_of (C := cAny) (g := gDig) (fun _ _ => trivial) (fun _ _ => rfl) q
/-! ### of a text and a text -/
def mT1 (g : Str → Str → W) (mo m : ME) : ME := fun ρ h => (mo ρ h).bind fun x h1 => match x with
  | .str a => (m ρ h1).bind fun y h2 => (match y with
    | .str b => .ok (g a b) h2
    | _ => .bad)
  | _ => .bad
theorem t1_of {g : Str → Str → W} {gv : Str → Str → V} (hg : ∀ w a b, VR T w (g a b) (gv a b)) {σ : L2.St} {H : Hp} {Q : VK} (q : teI T E (mT1 g mo m) σ H Q) :
    tM1 (fun x xs H Q => ∃ a b, x = .str a ∧ xs = [.str b] ∧ Q (gv a b) H) (teI T E mo) (teI T E m) σ H Q := by
  obtain ⟨w, ρ, h, s, en, p⟩ := q
  exact ⟨w, ρ, h, s, en, Post.bind p fun x h1 w1 H1 v le s1 r1 p1 => by
    cases x with
    | str a =>
      cases r1
      refine ⟨⟨a, rfl⟩, w1, ρ, h1, s1, en.mono le, Post.bind p1 fun y h2 w2 H2 u le2 s2 r2 p2 => ?_⟩
      cases y with
      | str b =>
        cases r2
        exact ⟨a, b, rfl, rfl, p2 w2 H2 _ (Le.refl _) s2 (hg w2 a b)⟩
      | _ => exact p2.elim
    | _ => exact p1.elim⟩
def gSw (a b : Str) : W := .bl (Txt.startswith a b)
def gEw (a b : Str) : W := .bl (Txt.endswith a b)
theorem i_startswith (ho : IE T X E o mo) (he : IE T X E e m) (hs : starEach [e] X.env = [(false, eval e X.env)] := by rfl) (hbase : attributeBase o "startswith" X.env (eval o X.env) = eval o X.env := by rfl) (hline : (apos.endLine == pos.line) = true := by rfl) :
    IE T X E (.Call (.Attribute o "startswith" apos) [e] [] pos) (mT1 gSw mo m) :=
  PE.imp (pe_m1 PySem.F.slot_str_startswith PySem.F.type_str_startswith mt_startswith ho he hs hbase hline) fun σ H Q q => t1_of (g := gSw) (fun _ _ _ => rfl) q
theorem i_endswith (ho : IE T X E o mo) (he : IE T X E e m) (hs : starEach [e] X.env = [(false, eval e X.env)] := by rfl) (hbase : attributeBase o "endswith" X.env (eval o X.env) = eval o X.env := by rfl) (hline : (apos.endLine == pos.line) = true := by rfl) :
    IE T X E (.Call (.Attribute o "endswith" apos) [e] [] pos) (mT1 gEw mo m) :=
  PE.imp (pe_m1 PySem.F.slot_str_endswith PySem.F.type_str_endswith mt_endswith ho he hs hbase hline) fun σ H Q q => t1_of (g := gEw) (fun _ _ _ => rfl) q
/-! ### int of a text, str of a text -/
def fIntS : FA := fun l _ => match l with
  | [.str a] => if a.length ≤ 640 then (match PySem.intText? a with
    | some i => some (.int i)
    | none => none) else none
  | _ => none
theorem c_intS : CallI T fIntS (fun xs H Q => ∃ a n, xs = [.str a] ∧ PySem.intText? a = some n ∧ a.length ≤ 640 ∧ Q (.int n) H) := fun w h H xs vs z Q s r e q => by
  unfold fIntS at e
  split at e
  · rename_i a
    split at e
    · rename_i hl
      split at e
      · rename_i i hi
        cases e
        cases r with
        | cons r1 r2 =>
          cases r1
          cases r2
          exact ⟨a, i, rfl, hi, hl, q w H _ (Le.refl _) s rfl⟩
      · cases e
    · cases e
  · cases e
def fStrS : FA := fun l _ => match l with
  | [.str a] => some (.str a)
  | _ => none
theorem c_strS : CallI T fStrS (fun xs H Q => ∃ a, xs = [.str a] ∧ Q (.str a) H) := fun w h H xs vs z Q s r e q => by
  unfold fStrS at e
  split at e
  · rename_i a
    cases e
    cases r with
    | cons r1 r2 =>
      cases r1
      cases r2
      exact ⟨a, rfl, q w H _ (Le.refl _) s rfl⟩
  · cases e
end
end Fz

/-! str of ints, texts, instances; a class's static methods; f-strings; replace -/
namespace Fz
open PySem PySem.Spec PyProof.Rows L2 TL
def numS (i : Int) : Str := mkS (match i with
  | .ofNat n => numL n
  | .negSucc n => 45 :: numL (n + 1))
theorem numS_eq (i : Int) : Str.ofString (toString i) = numS i := by
  refine ext_tl ?_
  cases i with
  | ofNat n => exact tl_num n
  | negSucc n =>
    rw [tl_ofString]
    show (toString (Int.negSucc n)).toList.map Char.toNat = 45 :: numL (n + 1)
    have e : (toString (Int.negSucc n)) = "-" ++ toString (n + 1) := rfl
    rw [e, String.toList_append, List.map_append]
    rw [show toString (n + 1) = Nat.repr (n + 1) from rfl]
    have e2 : (Nat.repr (n + 1)).toList = Nat.toDigits 10 (n + 1) := by simp [Nat.repr]
    rw [e2]
    rfl
section
variable {T : Tab} {X : Cx} {E : WX} {n k : Nat} {a b e o : Expr} {ma mb mo m : ME} {pos p apos cpos : Pos} {es : List Expr} {mr : MA} {f : Addr} {fd : FuncData} {ps : List Str} {g : Fn}
def fStrA : FA := fun l _ => match l with
  | [.str a] => some (.str a)
  | [.int i] => if i.natAbs.log2 < 1920 then some (.str (numS i)) else none
  | _ => none
theorem c_strA : CallI T fStrA (fun xs H Q => (∃ a, xs = [.str a] ∧ Q (.str a) H) ∨ ∃ i, xs = [.int i] ∧ i.natAbs.log2 < 1920 ∧ Q (.str (toString i)) H) := fun w h H xs vs z Q s r e q => by
  unfold fStrA at e
  split at e
  · rename_i a
    cases e
    cases r with
    | cons r1 r2 =>
      cases r1
      cases r2
      exact .inl ⟨a, rfl, q w H _ (Le.refl _) s rfl⟩
  · rename_i i
    split at e
    · rename_i hl
      cases e
      cases r with
      | cons r1 r2 =>
        cases r1
        cases r2
        exact .inr ⟨i, rfl, hl, by rw [show V.str (Str.ofString (toString i)) = V.str (numS i) from congrArg V.str (numS_eq i)]; exact q w H _ (Le.refl _) s rfl⟩
    · cases e
  · cases e
theorem i_strA (ha : IE T X E a ma) (hm : X.mg "str" = none) (hg : Gl X "str" := by rfl) (hs : starEach [a] X.env = (false, eval a X.env) :: starEach [] X.env := by rfl) : IE T X E (.Call (.Name "str" p) [a] [] pos) (mCB fStrA (mCons ma mNil)) :=
  i_cty (c_strA (T := T)) (SkE.call_str_str.or call_str_int) hg hm (by decide +kernel) (ia_cons ha ia_nil hs) (by decide +kernel) (by decide +kernel) hs rfl
/-- int of a text, an int, a bool -/
theorem i_intS (ha : IE T X E a ma) (hm : X.mg "int" = none) (hg : Gl X "int" := by rfl) (hs : starEach [a] X.env = (false, eval a X.env) :: starEach [] X.env := by rfl) : IE T X E (.Call (.Name "int" p) [a] [] pos) (mCB fIntS (mCons ma mNil)) :=
  i_cty (c_intS (T := T)) call_int_str hg hm boot_int (ia_cons ha ia_nil hs) (by decide +kernel) (by decide +kernel) hs rfl
/-! ### str(x) by __str__ -/
theorem in2_room {k : Nat} {A : Around} (r : Room (k + 1) A) : Room k A.in1.in1 :=
  ⟨r.hd, by have := r.dp; show A.depth + 3 * k + 5 < _; omega, by have := r.un; show A.units + 1 + 1 + 16 * k + 200 < _; omega⟩
theorem run_in2 {pins : List (Addr × Obj)} {σ : L2.St} {H : Hp} {s : Shared} {Q : VK} {us : List Value} {vs : List V} {sp : Sp} (F : FnOk X.prog X.w X.K X.mg X.base (L2.CX X.prog X.w) k f fd ps sp) (hr : Room (k + 1) X.A) (hb : Binds X.K fd ps [])
    (I : Inv X pins σ H s) (r : Vals vs us) (h : sp vs H Q (fun _ _ _ => False)) : wpAny (model X.prog X.w) X.A.in1.in1 (call (.ref f) us) (EP X pins σ Q) X.xe s := by
  have hl : (us ++ []).length = ps.length := by rw [List.append_nil, ← r.length]; exact F.len _ _ _ _ h
  have b := hb s us I.kIn hl
  rw [List.append_nil] at b
  refine wpAny_call (codeAny_mono (F.run X.A.in1.in1 X.stack s H ⟨us, []⟩ us vs Q _ (in2_room hr) I.env0.in1.in1 b r h) fun r s' hq => ?_)
  cases r with
  | error e => exact passes_no pins σ H s e s' I hq
  | ok fl =>
    cases fl with
    | ret u => exact I.after hq
    | next => exact False.elim hq
    | brk => exact False.elim hq
    | cont => exact False.elim hq
def mStrO (c : Nat) (g : Fn) (m : ME) : ME := fun ρ h => (m ρ h).bind fun x h1 => match insW h1 x with
  | some (c1, _) => if c1 = c then (noX (g [x] h1)).bind fun v h2 => (match v with
      | .str y => .ok (.str y) h2
      | _ => .bad) else .bad
  | none => .bad
def rStrO (T : Tab) (c : Nat) (g : Fn) : List V → Hp → VK → Prop := fun xs H Q => ∃ b dy gs, xs = [.ref b] ∧ H b = some (.ins (T.ca c) dy gs) ∧ spI T 1 g xs H (fun v H' => ∃ y, v = .str y ∧ Q (.str y) H') (fun _ _ _ => False)
theorem call_strO (c : Nat) (Fk : Kn T X.prog X.w X.K X.mg X.base k f fd ps g) (hk : k + 1 ≤ n) (hr : Room n X.A) (h1 : ps.length = 1) (hb : Binds X.K fd ps []) (hs : PySem.W.findIn X.K (.ref (T.ca c)) "__str__" = some (some (.ref f))) (hf : PySem.W.isFn X.K (.ref f) = true) :
    CallR X (.type "str") (rStrO T c g) := by
  intro pins s σ H xs us Q I r h
  obtain ⟨b, dy, gs, rfl, hz, hsp⟩ := h
  obtain ⟨u, rfl, rx⟩ := vals1 r
  cases rx
  obtain ⟨mB, J, _⟩ := ins_get I.hok hz
  obtain ⟨od, J, _⟩ := J.look
  refine PySem.W.kso_call (by have := hr.un; show X.A.units + 1 + 1 < cLine; omega) I.kIn J hs hf (wpAny_mono (run_in2 (us := [.ref b]) (vs := [.ref b]) Fk.ok (hr.mono hk) hb I (.cons rfl .nil) (by rw [h1]; exact hsp)) (fun v s' hv => ?_) fun _ _ z => z)
  obtain ⟨z, H', I', rz, y, rfl, q⟩ := hv
  obtain ⟨t, rfl⟩ := rz
  exact ⟨.str y, H', I', ⟨_, rfl⟩, q⟩
theorem i_strO (c : Nat) (Fk : Kn T X.prog X.w X.K X.mg X.base k f fd ps g) (hk : k + 1 ≤ n) (G : Gd T X E n) (h1 : ps.length = 1) (hb : Binds X.K fd ps []) (hs : PySem.W.findIn X.K (.ref (T.ca c)) "__str__" = some (some (.ref f))) (hf : PySem.W.isFn X.K (.ref f) = true)
    (ha : IE T X E a ma) (hm : X.mg "str" = none) (hg : Gl X "str" := by rfl) (he : starEach [a] X.env = (false, eval a X.env) :: starEach [] X.env := by rfl) : IE T X E (.Call (.Name "str" p) [a] [] pos) (mStrO c g ma) :=
  PE.imp (pe_callTy (call_strO c Fk hk G.room h1 hb hs hf) hg hm (by decide +kernel) (pa_cons ha pa_nil he) (by decide +kernel) (by decide +kernel) he rfl) fun σ H Q ⟨w, ρ, h, s, en, p⟩ => ⟨w, ρ, h, s, en, Post.bind p fun x h1' w1 H1 v le s1 r1 p1 => by
    cases q1 : insW h1' x with
    | none => rw [q1] at p1; exact p1.elim
    | some t =>
      obtain ⟨c1, vs⟩ := t
      rw [q1] at p1
      dsimp only at p1
      split at p1
      · rename_i hc
        subst hc
        obtain ⟨b, dy, us, rfl, g1, _⟩ := insW_at s1 r1 q1
        refine ⟨b, dy, _, rfl, g1, sp_of' (h1 ▸ Fk.ar) s1 (.cons r1 .nil) (noX_of (Post.bind p1 fun z h2 w2 H2 z' le2 s2 rz p2 => ?_))⟩
        cases z with
        | str y =>
          cases rz
          exact ⟨y, rfl, p2 w2 H2 _ (Le.refl _) s2 rfl⟩
        | _ => exact p2.elim
      · exact p1.elim⟩
/-! ### C.m(..), m a static method -/
structure CSt (K : PySem.W.Frag) (C : Addr) (mc : Value) (m : Str) (f : Addr) : Prop where
  rd : ClX.CRead K C mc
  at_ : ∃ p rest, PySem.W.findCls K (.ref C) mc m = some (.get (.builtin "staticmethod.__get__") (.ref p) .none (.ref C)) ∧ PySem.W.recIn K p "staticmethod" = some (.ref f :: rest)
theorem getst_ok {pins : List (Addr × Obj)} {σ : L2.St} {H : Hp} {s : Shared} {C : Addr} {mc : Value} {m : Str} {pl : Sem Bool} {Q : Value × List Value → Shared → Prop} {EE : Value → Shared → Prop} {A : Around} (I : Inv X pins σ H s) (r : CSt X.K C mc m f)
    (h : ∀ s', Inv X pins σ H s' → Q (.ref f, []) s') : wpAny (model X.prog X.w) A (getMethod (.ref C) m pl) Q EE s := by
  obtain ⟨p, rest, h1, h2⟩ := r.at_
  exact PySem.W.method_cls I.kIn r.rd.ga (PySem.W.cls_bind I.kIn r.rd.rd h1 (wpAny_call (PySem.W.sm_get (s := { s with toks := s.toks + 1 }) I.kIn h2 (PySem.W.handed_on rfl (h _ (I.tok _))))))
theorem i_scall {x m : Str} {c : Nat} {mc : Value} {pl : Sem Bool} {dws : List W} {dvs : List V} {ds : List Value} (Fk : Kn T X.prog X.w X.K X.mg X.base k f fd ps g) (hk : k ≤ n) (G : Gd T X E n) (hm : X.mg x = some (.ref (T.ca c))) (C : CSt X.K (T.ca c) mc m f) (hb : Binds X.K fd ps ds) (hd : Vals dvs ds) (kd : KVs T dws dvs)
    (ha : IA T X E (e :: es) mr) (hg : Gl X x := by rfl) (hdb : (x == ("__debug__" : Str)) = false := by decide +kernel) (he : starEach (e :: es) X.env = (false, eval e X.env) :: starEach es X.env := by rfl) (hpl : (backTo pos (starEach es X.env)).any (·.1) = false := by rfl)
    (ht : eval (.Call (.Attribute (.Name x p) m apos) (e :: es) [] pos) X.env = (do
      let ov ← eval (.Name x p) X.env
      standAt apos.atName
      let (f, first) ← holding [ov] (getMethod ov m pl)
      callWith pos f first (backTo pos (starEach (e :: es) X.env)) (backToKw pos (keywordEach [] X.env))) := by rfl) :
    IE T X E (.Call (.Attribute (.Name x p) m apos) (e :: es) [] pos) (mCall g dws mr) := by
  refine ⟨fun pins s σ H Q I ⟨w, ρ, h, st, en, q⟩ => ?_⟩
  refine PySem.W.methodCall_KW (pl := pl) (L2.thn ((pe_glob (X := X) (v := .ref (T.ca c)) (pos := p) hg hm rfl hdb).run pins s σ H (fun v H1 => v = .ref (T.ca c) ∧ H1 = H) I ⟨rfl, rfl⟩) fun u s1 ⟨v, H1, I1, rx, e1, e2⟩ => ?_) ht
  subst e1 e2
  obtain rfl : u = Value.ref (T.ca c) := rx
  refine getst_ok I1 C fun s2 I2 => ?_
  refine PySem.W.callWith_K (h₀ := X.base) I.ok.mod.kin Fk.kp (L2.thn (ha.run pos pins s2 σ H1 (fun vs H' => ∃ w1 h1 xs, StR T w1 h1 H' ∧ VRs T w1 xs vs ∧ Post T (VR T) w1 Q (fun c d H' => E c d σ H') (g (xs ++ dws) h1)) I2
    ⟨w, ρ, h, st, en, Post.bind q fun xs h1 w1 H1 vs le s1 r1 p1 => ⟨w1, h1, xs, s1, r1, p1⟩⟩) fun us s1 ⟨vs, H1, I1, r, w1, h1, xs, q1, q2, q3⟩ => ⟨I1.kIn, ?_⟩) he hpl
  exact call_of Fk hk G hb hd kd I1 r q1 q2 q3
def cstB (K : PySem.W.Frag) (C f : Addr) (mc : Value) (m : Str) : Bool := creadB K C mc && (match PySem.W.findCls K (.ref C) mc m with
  | some (.get (.builtin g) (.ref p) .none (.ref D)) => decide (g = "staticmethod.__get__") && (decide (D = C) && (match PySem.W.recIn K p "staticmethod" with
    | some (.ref f' :: _) => decide (f' = f)
    | _ => false))
  | _ => false)
theorem cstB_ok {K : PySem.W.Frag} {C f : Addr} {mc : Value} {m : Str} (h : cstB K C f mc m = true) : CSt K C mc m f := by
  obtain ⟨h1, h2⟩ := He.ba h
  refine ⟨creadB_ok h1, ?_⟩
  split at h2
  · rename_i g p D e
    obtain ⟨k1, h2⟩ := He.ba h2
    obtain ⟨k2, h2⟩ := He.ba h2
    split at h2
    · rename_i f' r e2
      have e3 : f' = f := of_decide_eq_true h2
      have e4 : g = "staticmethod.__get__" := of_decide_eq_true k1
      have e5 : D = C := of_decide_eq_true k2
      subst e3 e4 e5
      exact ⟨p, r, e, e2⟩
    · cases h2
  · cases h2
/-! ### made data that leaves no cell behind -/
def mFrzT (m : ME) : ME := fun ρ h => trimR h.length (frzR (m ρ h))
theorem i_frzT (he : IE T X E e m) : IE T X E e (mFrzT m) := PE.imp (i_frz he) fun σ H Q ⟨w, ρ, h, s, en, p⟩ => ⟨w, ρ, h, s, en, post_trim s p⟩
/-! ### f-strings -/
def mFmt (m : ME) : ME := fun ρ h => (m ρ h).bind fun x h1 => match x with
  | .str y => if y.length ≤ sizeLine then .ok (.str y) h1 else .bad
  | .int i => if i.natAbs.log2 < 1920 then .ok (.str (numS i)) h1 else .bad
  | _ => .bad
theorem i_fmt (ha : IE T X E a ma) : IE T X E (.FormattedValue a (-1) none pos) (mFmt ma) :=
  PE.imp (pe_fmt ha) fun σ H Q ⟨w, ρ, h, s, en, p⟩ => ⟨w, ρ, h, s, en, Post.bind p fun x h1 w1 H1 v le s1 r1 p1 => by
    cases x with
    | str y =>
      cases r1
      dsimp only at p1
      split at p1
      · rename_i hz
        exact .inl ⟨y, rfl, hz, p1 w1 H1 _ (Le.refl _) s1 rfl⟩
      · exact p1.elim
    | int i =>
      cases r1
      dsimp only at p1
      split at p1
      · rename_i hz
        exact .inr ⟨i, rfl, hz, by rw [show V.str (Str.ofString (toString i)) = V.str (numS i) from congrArg V.str (numS_eq i)]; exact p1 w1 H1 _ (Le.refl _) s1 rfl⟩
      · exact p1.elim
    | _ => exact p1.elim⟩
/-- the parts of an f-string, joined -/
def appS (a b : Str) : Str := mkS (tl a ++ tl b)
theorem appS_eq (a b : Str) : a ++ b = appS a b := ext_tl (tl_append a b)
def mJs : List ME → Str → EnvW → List Cell → R W
  | [], acc, _, h => .ok (.str acc) h
  | m :: ms, acc, ρ, h => (m ρ h).bind fun x h1 => match x with
    | .str y => if (appS acc y).length ≤ sizeLine then mJs ms (appS acc y) ρ h1 else .bad
    | _ => .bad
inductive IJ (T : Tab) (X : Cx) (E : WX) : List Expr → List ME → Prop where
  | nil : IJ T X E [] []
  | cons {e : Expr} {m : ME} {es : List Expr} {ms : List ME} (h : IE T X E e m) (r : IJ T X E es ms) : IJ T X E (e :: es) (m :: ms)
theorem ij_pj {ms : List ME} (h : IJ T X E es ms) : PJ X es (ms.map (teI T E)) := by
  induction h with
  | nil => exact .nil
  | cons h r ih => exact .cons h ih
theorem js_of {σ : L2.St} {Q : VK} {ρ : EnvW} : ∀ (ms : List ME) (acc : Str) (w : Wd) (h : List Cell) (H : Hp), StR T w h H → EnvR T w ρ σ → Post T (VR T) w Q (fun c d H' => E c d σ H') (mJs ms acc ρ h) → tJs (ms.map (teI T E)) acc σ H fun out H1 => Q (.str out) H1
  | [], acc, w, h, H, s, en, p => p w H _ (Le.refl _) s rfl
  | m :: ms, acc, w, h, H, s, en, p => ⟨w, ρ, h, s, en, Post.bind p fun x h1 w1 H1 v le s1 r1 p1 => by
    cases x with
    | str y =>
      cases r1
      dsimp only at p1
      split at p1
      · rename_i hz
        refine ⟨y, rfl, by rw [appS_eq]; exact hz, ?_⟩
        rw [appS_eq]
        exact js_of ms _ w1 h1 H1 s1 (en.mono le) p1
      · exact p1.elim
    | _ => exact p1.elim⟩
theorem i_joined {v1 v2 : Expr} {rest : List Expr} {ms : List ME} (h : IJ T X E (v1 :: v2 :: rest) ms) : IE T X E (.JoinedStr (v1 :: v2 :: rest) pos) (mJs ms Str.empty) :=
  PE.imp (pe_joined (ij_pj h)) fun σ H Q ⟨w, ρ, h, s, en, p⟩ => js_of ms _ w h H s en p
theorem i_joined1 (h : IE T X E e m) : IE T X E (.JoinedStr [e] pos) m := pe_joined1 h
/-! ### statements at which a token is out: e.replace of two written texts -/
def replS (x y z : Str) : Str := mkS (StrLaws.replL (tl y) (tl z) (tl x))
theorem replS_eq {x y z : Str} (hy : (tl y).isEmpty = false) : Txt.replace x y z = replS x y z := by
  refine ext_tl ?_
  have h1 : 1 ≤ y.length := by
    rw [len_tl]
    cases q : tl y with
    | nil => rw [q] at hy; cases hy
    | cons a b => exact Nat.succ_le_succ (Nat.zero_le _)
  exact StrLaws.replace_list h1
def mRepl (y z : Str) (mo : ME) : ME := fun ρ h => (mo ρ h).bind fun x h1 => match x with
  | .str x => if x.length + (x.length + 1) * z.length ≤ 16777216 then .ok (.str (replS x y z)) h1 else .bad
  | _ => .bad
theorem PET.imp {e : Expr} {t t' : TE} (h : PET X e t) (k : ∀ σ H Q, t' σ H Q → t σ H Q) : PET X e t' := fun pins s σ H Q h0 I q => h pins s σ H Q h0 I (k σ H Q q)
theorem PST.imp {st : Stmt} {t t' : TS} (h : PST X st t) (k : ∀ D σ H, t' D σ H → t D σ H) : PST X st t' := fun pins s σ H D h0 I q => h pins s σ H D h0 I (k D σ H q)
theorem PSsT.imp {st : List Stmt} {t t' : TS} (h : PSsT X st t) (k : ∀ D σ H, t' D σ H → t D σ H) : PSsT X st t' := fun pins s σ H D h0 I q => h pins s σ H D h0 I (k D σ H q)
abbrev IET (T : Tab) (X : Cx) (E : WX) (e : Expr) (m : ME) : Prop := PET X e (teI T E m)
abbrev IST (T : Tab) (X : Cx) (E : WX) (s : Stmt) (m : MS) : Prop := PST X s (tsI T E m)
abbrev ISsT (T : Tab) (X : Cx) (E : WX) (s : List Stmt) (m : MS) : Prop := PSsT X s (tsI T E m)
theorem it_repl {y z : Str} {j k : Nat} {c0 c1 : Pos} (ho : IE T X E o mo) (hyz : (y == z) = false := by decide +kernel) (hy : (tl y).isEmpty = false := by rfl)
    (hst : starEach [.Constant (.str y) j c0, .Constant (.str z) k c1] X.env = [(false, eval (.Constant (.str y) j c0) X.env), (false, eval (.Constant (.str z) k c1) X.env)] := by rfl)
    (hbase : attributeBase o "replace" X.env (eval o X.env) = eval o X.env := by rfl) (hline : (apos.endLine == pos.line) = true := by rfl) :
    IET T X E (.Call (.Attribute o "replace" apos) [.Constant (.str y) j c0, .Constant (.str z) k c1] [] pos) (mRepl y z mo) :=
  PET.imp (CwR.pet_replC ho hyz hst hbase hline) fun σ H Q ⟨w, ρ, h, s, en, p⟩ => ⟨w, ρ, h, s, en, Post.bind p fun x h1 w1 H1 v le s1 r1 p1 => by
    cases x with
    | str x =>
      cases r1
      dsimp only at p1
      split at p1
      · rename_i hz
        exact ⟨x, rfl, hz, by rw [replS_eq hy]; exact p1 w1 H1 _ (Le.refl _) s1 rfl⟩
      · exact p1.elim
    | _ => exact p1.elim⟩
variable {st : Stmt} {rest xs ys : List Stmt} {s1 s2 : MS}
theorem ist_of (h : IS T X E st s1) : IST T X E st s1 := PST.of h
theorem ist_ret (he : IET T X E e m) : IST T X E (.Return (some e) pos) (mRet m) :=
  PST.imp (CwR.pst_ret he) fun D σ H ⟨w, ρ, h, s, en, p⟩ => ⟨w, ρ, h, s, en, PostS.of en p fun x h1 w1 H1 v le s1 r1 p1 => p1 w1 H1 v (Le.refl _) s1 r1⟩
theorem ist_nil : ISsT T X E [] mSkip := PSsT.of is_nil
theorem ist_cons (h1 : IST T X E st s1) (h2 : ISsT T X E rest s2) : ISsT T X E (st :: rest) (mSeq s1 s2) := PSsT.imp (psst_cons h1 h2) fun D σ H q => seq_of q
theorem ist_one (h1 : IST T X E st s1) : ISsT T X E [st] s1 := CwR.psst_one h1
theorem ist_if {c : Expr} {mc : MT} (hc : IT T X E c mc) (ha : ISsT T X E xs s1) (hb : ISsT T X E ys s2) : IST T X E (.If c xs ys pos) (mIfS mc s1 s2) :=
  PST.imp (CwR.pst_if hc ha hb) fun D σ H ⟨w, ρ, h, s, en, p⟩ => ⟨w, ρ, h, s, en, PostS.of en p fun x h1 w1 H1 v le s1 r1 p1 => by
    cases r1
    cases x with
    | true => exact ⟨w1, ρ, h1, s1, en.mono le, p1⟩
    | false => exact ⟨w1, ρ, h1, s1, en.mono le, p1⟩⟩
end
theorem fn_okT {T : Tab} {P : Program} {w : World} {mg : Str → Option Value} {base : Heap} {x qual : Str} {params : Arguments} {body : List Stmt} {scope : Scope} {dvs : List V} {kws : List (Str × V)} {f : Addr} {fd : FuncData} {N ps : List Str} {n : Nat} {m : MS} {fz : Bool} {nv k : Nat}
    (F : FunD T.K x qual params body scope dvs kws f fd) (S : FnScope N ps scope) (hnc : ∀ y ∈ scope.names, y.2 ≠ .cell) (h1 : 1 ≤ ps.length) (hn : N.length = nv := by rfl) (hk : ps.length = k := by rfl)
    (hb : ∀ (cdv : Value) (A : Around) (outer : List Env) (s : Shared) (H : Hp) (E : XK), Gd T (cxOf (L2.CX P w) P w T.K mg base N qual scope f cdv A outer s H E) (cxE E) n →
      ISsT T (cxOf (L2.CX P w) P w T.K mg base N qual scope f cdv A outer s H E) (cxE E) body m) : FnOk P w T.K mg base (L2.CX P w) (n + 1) f fd ps (spI T k (fnM fz nv k m)) := by
  obtain ⟨oc, od, dV, kV, doc, pm, an, cdv, ct, osl, rfl, lk, hcd, hD, hK⟩ := F.ex
  refine fn_ofT lk hcd S hnc h1 (fun vs H Q E ⟨w, h, xs, s, r, l, _⟩ => by rw [l, hk]) fun A outer s H vs Q E hr ⟨w, h, xs, st, r, l, p⟩ => ?_
  refine ⟨_, hb cdv A outer s H E (gd_mk rfl rfl S.nd hr (takes_of rfl rfl rfl rfl) (passes_of rfl)), w, _, h, st, start_env r hn, ?_⟩
  have p1 : Post T (VR T) w Q E (fnB nv k m xs h) := by
    have p0 := post_trim st p
    cases fz with
    | true => exact post_frz p0
    | false => exact p0
  unfold fnB at p1
  rw [if_pos (by rw [All2.length r, l])] at p1
  rw [l]
  exact post_body (h := h) p1
end Fz

/-! loops that look for something; texts split and joined -/
namespace Fz
open PySem PySem.Spec PyProof.Rows L2 TL
section
variable {src : Src} {gg : MG} {body : MS} {ρ : EnvW}
/-- a loop that leaves the heap: V of the names, N of each item that was passed, Rt of what is returned -/
theorem for_scan {xs : List W} {h0 : List Cell} (V : EnvW → Prop) (N : Nat → Prop) (Rt : W → Prop) (hsrc : ∀ i, i ≤ xs.length → src i h0 = some xs[i]?)
    (hstep : ∀ i x ρ, xs[i]? = some x → V ρ → ∃ ρ1, gg x ρ h0 = .nx ρ1 h0 ∧ ((∃ ρ2, body ρ1 h0 = .nx ρ2 h0 ∧ V ρ2 ∧ N i) ∨ ∃ y, body ρ1 h0 = .rt y h0 ∧ Rt y)) {m : Nat} (hm : xs.length < m) (p : V ρ) :
    (∃ ρ', forW src gg body m 0 ρ h0 = .nx ρ' h0 ∧ V ρ' ∧ ∀ i, i < xs.length → N i) ∨ ∃ y, forW src gg body m 0 ρ h0 = .rt y h0 ∧ Rt y := by
  rcases for_gen (src := src) (gg := gg) (body := body) (xs := xs) (fun i ρ h => h = h0 ∧ V ρ ∧ ∀ j, j < i → N j) (fun r => ∃ y, r = .rt y h0 ∧ Rt y) (fun i ρ h hi p => by rw [p.1]; exact hsrc i hi) (fun i x ρ h e p => by
    obtain ⟨rfl, p1, p2⟩ := p
    obtain ⟨ρ1, e1, q⟩ := hstep i x ρ e p1
    refine ⟨ρ1, h, by rw [e1]; rfl, ?_⟩
    rcases q with ⟨ρ2, e2, v2, n2⟩ | ⟨y, e2, r2⟩
    · refine .inl ⟨ρ2, h, .inl e2, rfl, v2, fun j hj => ?_⟩
      rcases Nat.lt_succ_iff_lt_or_eq.mp hj with hj | rfl
      · exact p2 j hj
      · exact n2
    · exact .inr (.inl ⟨y, h, e2, y, rfl, r2⟩)) m 0 ρ h0 (Nat.zero_le _) (by omega) ⟨rfl, p, fun j hj => absurd hj (Nat.not_lt_zero j)⟩ with h | h
  · obtain ⟨ρ', h', e, rfl, v, n⟩ := h
    exact .inl ⟨ρ', e, v, n⟩
  · exact .inr h
end
theorem joinL_spl (s : Nat) : ∀ (l acc : List Nat), joinL [s] (spl [s] 0 acc l) = acc ++ l ∧ spl [s] 0 acc l ≠ []
  | [], acc => by rw [spl_nil]; exact ⟨(List.append_nil acc).symm, by simp⟩
  | c :: r, acc => by
    cases hp : pre [s] (c :: r) with
    | true =>
      obtain ⟨h1, h2⟩ := joinL_spl s r []
      have hc : c = s := by
        have : (([c] : List Nat) == [s]) = true := hp
        simpa using this
      rw [spl_hit hp]
      refine ⟨?_, by simp⟩
      show joinL [s] (acc :: spl [s] 0 [] r) = _
      cases q : spl [s] 0 [] r with
      | nil => exact absurd q h2
      | cons a b =>
        show acc ++ ([s] ++ joinL [s] (a :: b)) = _
        rw [← q, h1, hc]
        rfl
    | false =>
      obtain ⟨h1, h2⟩ := joinL_spl s r (acc ++ [c])
      rw [spl_miss hp]
      exact ⟨by rw [h1, List.append_assoc]; rfl, h2⟩
/-- a text split and joined again -/
theorem join_split {a b : Str} {s : Nat} (hb : tl b = [s]) : joinS b (splitS a b) = a := by
  refine ext_tl ?_
  unfold joinS splitS
  rw [tl_mkS, hb, List.map_map]
  have : (spl [s] 0 [] (tl a)).map (tl ∘ mkS) = spl [s] 0 [] (tl a) := List.map_id _
  rw [this]
  exact (joinL_spl s (tl a) []).1
end Fz

namespace K07
open PySem PySem.Spec PyProof.Rows L2 Fz
def top (i : Nat) : Stmt := PySem.Challenge.pw_finerlocks_k07_way_texts.main.body.getD i (.Pass ⟨0, 0, 0, 0⟩)
abbrev S0 : Stmt := (top 9)
abbrev S1 : Stmt := (inClass (top 13) 1)
abbrev S2 : Stmt := (inClass (top 13) 5)
abbrev S3 : Stmt := (inClass (top 13) 10)
abbrev S4 : Stmt := (inClass (top 13) 11)
abbrev S5 : Stmt := (top 14)
abbrev S6 : Stmt := (top 16)
abbrev S7 : Stmt := (top 17)
abbrev S8 : Stmt := (top 18)
abbrev S9 : Stmt := (top 19)
abbrev S10 : Stmt := (top 20)
abbrev S11 : Stmt := (top 21)
abbrev S12 : Stmt := (top 22)
abbrev S13 : Stmt := (top 23)
abbrev S14 : Stmt := (top 24)
abbrev S15 : Stmt := (top 25)
abbrev S16 : Stmt := (top 26)
abbrev N0 : List Str := ["level", "place", "word"]
abbrev N1 : List Str := ["self", "held", "owned", "seen", "early", "by_held", "by_owned", "by_seen"]
abbrev N2 : List Str := ["self", "other"]
abbrev N3 : List Str := ["self", "words"]
abbrev N4 : List Str := ["text"]
abbrev N5 : List Str := ["words", "line", "early", "word"]
abbrev N6 : List Str := ["script", "draws", "cell", "rest", "k", "mixed"]
abbrev N7 : List Str := ["draws", "at", "size"]
abbrev N8 : List Str := ["actual", "expected", "k"]
abbrev N9 : List Str := ["ranks", "held", "seen"]
abbrev N10 : List Str := ["way"]
abbrev N11 : List Str := ["ranks", "words"]
abbrev N12 : List Str := ["ranks", "words", "text"]
abbrev N13 : List Str := ["text", "held", "owned", "seen", "flag"]
abbrev N14 : List Str := ["draws", "at", "text", "words", "change", "place", "other", "menu", "word"]
abbrev N15 : List Str := ["text", "way", "e"]
abbrev N16 : List Str := ["script", "draws", "at", "words", "turn", "ranks", "way", "told", "text", "changed"]
abbrev P0 : List Str := ["level"]
abbrev P1 : List Str := ["self", "held", "owned", "seen", "early"]
abbrev P2 : List Str := ["self", "other"]
abbrev P3 : List Str := ["self"]
abbrev P4 : List Str := ["text"]
abbrev P5 : List Str := ["words", "line"]
abbrev P6 : List Str := ["script"]
abbrev P7 : List Str := ["draws", "at", "size"]
abbrev P8 : List Str := ["actual", "expected"]
abbrev P9 : List Str := ["ranks"]
abbrev P10 : List Str := ["way"]
abbrev P11 : List Str := ["ranks"]
abbrev P12 : List Str := ["ranks"]
abbrev P13 : List Str := ["text"]
abbrev P14 : List Str := ["draws", "at", "text"]
abbrev P15 : List Str := ["text"]
abbrev P16 : List Str := ["script"]
abbrev AD0 (K : PySem.W.Frag) : Addr := He.fAd K ("rank", none)
abbrev AD1 (K : PySem.W.Frag) : Addr := He.fAd K ("Way", some "__init__")
abbrev AD2 (K : PySem.W.Frag) : Addr := He.fAd K ("Way", some "__eq__")
abbrev AD3 (K : PySem.W.Frag) : Addr := He.fAd K ("Way", some "__str__")
abbrev AD4 (K : PySem.W.Frag) : Addr := He5.wf K (He.ga K "Way") "staticmethod" "read"
abbrev AD5 (K : PySem.W.Frag) : Addr := He.fAd K ("way_of", none)
abbrev AD6 (K : PySem.W.Frag) : Addr := He.fAd K ("_law_draws", none)
abbrev AD7 (K : PySem.W.Frag) : Addr := He.fAd K ("_law_take", none)
abbrev AD8 (K : PySem.W.Frag) : Addr := He.fAd K ("_law_same", none)
abbrev AD9 (K : PySem.W.Frag) : Addr := He.fAd K ("_law_adjusted", none)
abbrev AD10 (K : PySem.W.Frag) : Addr := He.fAd K ("_law_fields", none)
abbrev AD11 (K : PySem.W.Frag) : Addr := He.fAd K ("_law_words", none)
abbrev AD12 (K : PySem.W.Frag) : Addr := He.fAd K ("_law_form", none)
abbrev AD13 (K : PySem.W.Frag) : Addr := He.fAd K ("_law_due", none)
abbrev AD14 (K : PySem.W.Frag) : Addr := He.fAd K ("_law_changed", none)
abbrev AD15 (K : PySem.W.Frag) : Addr := He.fAd K ("_law_told", none)
abbrev AD16 (K : PySem.W.Frag) : Addr := He.fAd K ("law", none)
def D0 : He.DefD := ⟨("rank", none), "rank", "rank", defArgs S0, defBody S0, defScope S0, [], []⟩
def D1 : He.DefD := ⟨("Way", some "__init__"), "__init__", "Way.__init__", defArgs S1, defBody S1, defScope S1, [.str "none", .str "none", .str "none"], [("early", .bl false)]⟩
def D2 : He.DefD := ⟨("Way", some "__eq__"), "__eq__", "Way.__eq__", defArgs S2, defBody S2, defScope S2, [], []⟩
def D3 : He.DefD := ⟨("Way", some "__str__"), "__str__", "Way.__str__", defArgs S3, defBody S3, defScope S3, [], []⟩
def D4 : He.DefD := ⟨("Way", some "read"), "read", "Way.read", defArgs S4, defBody S4, defScope S4, [], []⟩
def D5 : He.DefD := ⟨("way_of", none), "way_of", "way_of", defArgs S5, defBody S5, defScope S5, [], []⟩
def D6 : He.DefD := ⟨("_law_draws", none), "_law_draws", "_law_draws", defArgs S6, defBody S6, defScope S6, [], []⟩
def D7 : He.DefD := ⟨("_law_take", none), "_law_take", "_law_take", defArgs S7, defBody S7, defScope S7, [], []⟩
def D8 : He.DefD := ⟨("_law_same", none), "_law_same", "_law_same", defArgs S8, defBody S8, defScope S8, [], []⟩
def D9 : He.DefD := ⟨("_law_adjusted", none), "_law_adjusted", "_law_adjusted", defArgs S9, defBody S9, defScope S9, [], []⟩
def D10 : He.DefD := ⟨("_law_fields", none), "_law_fields", "_law_fields", defArgs S10, defBody S10, defScope S10, [], []⟩
def D11 : He.DefD := ⟨("_law_words", none), "_law_words", "_law_words", defArgs S11, defBody S11, defScope S11, [], []⟩
def D12 : He.DefD := ⟨("_law_form", none), "_law_form", "_law_form", defArgs S12, defBody S12, defScope S12, [], []⟩
def D13 : He.DefD := ⟨("_law_due", none), "_law_due", "_law_due", defArgs S13, defBody S13, defScope S13, [], []⟩
def D14 : He.DefD := ⟨("_law_changed", none), "_law_changed", "_law_changed", defArgs S14, defBody S14, defScope S14, [], []⟩
def D15 : He.DefD := ⟨("_law_told", none), "_law_told", "_law_told", defArgs S15, defBody S15, defScope S15, [], []⟩
def D16 : He.DefD := ⟨("law", none), "law", "law", defArgs S16, defBody S16, defScope S16, [], []⟩
def kitL : List (Tg × Tg × Bool) := [(.bt .int, .own 0, false), (.bt .str, .own 0, false), (.bt .bool, .own 0, false), (.bt .list, .own 0, false), (.bt .tuple, .own 0, false), (.bt .dict, .own 0, false), (.bt .none, .own 0, false), (.own 0, .bt .int, false), (.own 0, .bt .str, false), (.own 0, .bt .bool, false), (.own 0, .bt .list, false), (.own 0, .bt .tuple, false), (.own 0, .bt .dict, false), (.own 0, .own 0, true)]
abbrev isi : Tg → Tg → Option Bool := isiT kitL
def ktB (n : Nat) : Bool := match n with
  | 4 => true
  | _ => false
def isxL : List (Nat × Tg × Bool) := [(1, .own 2, false), (1, .own 4, false), (1, .own 5, false), (1, .own 3, false), (1, .bt .verr, true), (1, .own 1, true), (2, .own 2, true), (2, .own 4, false), (2, .own 5, false), (2, .own 3, false), (2, .bt .verr, true), (2, .own 1, true), (3, .own 2, false), (3, .own 4, false), (3, .own 5, false), (3, .own 3, true), (3, .bt .verr, true), (3, .own 1, true), (4, .own 2, false), (4, .own 4, true), (4, .own 5, false), (4, .own 3, false), (4, .bt .verr, true), (4, .own 1, true), (5, .own 2, false), (5, .own 4, false), (5, .own 5, true), (5, .own 3, false), (5, .bt .verr, true), (5, .own 1, true)]
abbrev isx : Nat → Tg → Option Bool := isxT isxL
abbrev fx_line : Nat → Option Nat := fxT [(4, 0)]
abbrev SX2 : Stmt := (inClass (top 3) 0)
abbrev AX2 (K : PySem.W.Frag) : Addr := He.fAd K ("BadLevel", some "__init__")
def DX2 : He.DefD := ⟨("BadLevel", some "__init__"), "__init__", "BadLevel.__init__", defArgs SX2, defBody SX2, defScope SX2, [], []⟩
abbrev PX2 : List Str := ["self", "level"]
abbrev SX4 : Stmt := (inClass (top 5) 0)
abbrev AX4 (K : PySem.W.Frag) : Addr := He.fAd K ("BadText", some "__init__")
def DX4 : He.DefD := ⟨("BadText", some "__init__"), "__init__", "BadText.__init__", defArgs SX4, defBody SX4, defScope SX4, [], []⟩
abbrev PX4 : List Str := ["self", "line"]
/-! ### meanings -/
/-- rank -/
def M0 (C : Nat → Fn) : MS :=
    (mSeq (mFor (mIEnum (mCons (mC (.tup [(.str "none"), (.str "one"), (.str "most"), (.str "all")])) mNil)) (mGTup 2 (mGCons (mGName 1) (mGCons (mGName 2) mGNil))) (mIfS (mTst (mOp fEq (mVar 2) (mVar 0))) (mRet (mVar 1)) mSkip))
    (mRaise 2 1 (mCons (mVar 0) mNil)))
/-- Way.__init__ -/
def M1 (C : Nat → Fn) : MS :=
    (mSeq (mSet 5 (mCall (C 0) [] (mCons (mVar 1) mNil)))
    (mSeq (mSet 6 (mCall (C 0) [] (mCons (mVar 2) mNil)))
    (mSeq (mSet 7 (mCall (C 0) [] (mCons (mVar 3) mNil)))
    (mSeq (mIfS (mTst (mOp fLt (mVar 5) (mVar 6))) (mSet 5 (mVar 6)) mSkip)
    (mSeq (mIfS (mTst (mOp fLt (mVar 7) (mVar 5))) (mSet 7 (mVar 5)) mSkip)
    (mSeq (mSFld 0 0 (mVar 0) (mOp fIx (mC (.tup [(.str "none"), (.str "one"), (.str "most"), (.str "all")])) (mVar 5)))
    (mSeq (mSFld 0 1 (mVar 0) (mOp fIx (mC (.tup [(.str "none"), (.str "one"), (.str "most"), (.str "all")])) (mVar 6)))
    (mSeq (mSFld 0 2 (mVar 0) (mOp fIx (mC (.tup [(.str "none"), (.str "one"), (.str "most"), (.str "all")])) (mVar 7)))
    (mSFld 0 3 (mVar 0) (mVar 4))))))))))
/-- Way.__eq__ -/
def M2 (C : Nat → Fn) : MS :=
    (mRet (mAndV (mCB (fIsi isi) (mCons (mVar 1) (mCons (mC (.cls 0)) mNil))) (mAndV (mOp fEq (mFld 0 0 (mVar 0)) (mFld 0 0 (mVar 1))) (mAndV (mOp fEq (mFld 0 1 (mVar 0)) (mFld 0 1 (mVar 1))) (mAndV (mOp fEq (mFld 0 2 (mVar 0)) (mFld 0 2 (mVar 1))) (mOp fEq (mFld 0 3 (mVar 0)) (mFld 0 3 (mVar 1))))))))
/-- Way.__str__ -/
def M3 (C : Nat → Fn) : MS :=
    (mSeq (mSet 1 (mLstC (mCons (mC (.str "held")) (mCons (mFld 0 0 (mVar 0)) (mCons (mC (.str "owned")) (mCons (mFld 0 1 (mVar 0)) (mCons (mC (.str "seen")) (mCons (mFld 0 2 (mVar 0)) mNil))))))))
    (mSeq (mIfS (mTru (mFld 0 3 (mVar 0))) (mApp (mVar 1) (mC (.str "early"))) mSkip)
    (mRet (mJoin (mC (.str " ")) (mVar 1)))))
/-- Way.read -/
def M4 (C : Nat → Fn) : MS :=
    (mRet (mCall (C 5) [] (mCons (mSplit false (mVar 0) (mC (.str " "))) (mCons (mC (.int 1)) mNil))))
/-- way_of -/
def M5 (C : Nat → Fn) : MS :=
    (mSeq (mSet 2 (mAndV (mOp fEq (mCB fLen (mCons (mVar 0) mNil)) (mC (.int 7))) (mOp fEq (mOp fIx (mVar 0) (mC (.int 6))) (mC (.str "early")))))
    (mSeq (mIfS (mAnd (mTst (mOp fNe (mCB fLen (mCons (mVar 0) mNil)) (mC (.int 6)))) (mNot (mTru (mVar 2)))) (mRaise 4 1 (mCons (mVar 1) mNil)) mSkip)
    (mSeq (mIfS (mOr (mTst (mOp fNe (mOp fIx (mVar 0) (mC (.int 0))) (mC (.str "held")))) (mOr (mTst (mOp fNe (mOp fIx (mVar 0) (mC (.int 2))) (mC (.str "owned")))) (mTst (mOp fNe (mOp fIx (mVar 0) (mC (.int 4))) (mC (.str "seen")))))) (mRaise 4 1 (mCons (mVar 1) mNil)) mSkip)
    (mSeq (mFor (mISeq (mTup (mCons (mOp fIx (mVar 0) (mC (.int 1))) (mCons (mOp fIx (mVar 0) (mC (.int 3))) (mCons (mOp fIx (mVar 0) (mC (.int 5))) mNil))))) (mGName 3) (mIfS (mTst (mOp fNotInA (mVar 3) (mC (.tup [(.str "none"), (.str "one"), (.str "most"), (.str "all")])))) (mRaise 4 1 (mCons (mVar 1) mNil)) mSkip))
    (mRet (mFrzT (mMakeK 0 (C 1) (fun xs ys => xs ++ ys) 3 1 (mCons (mOp fIx (mVar 0) (mC (.int 1))) (mCons (mOp fIx (mVar 0) (mC (.int 3))) (mCons (mOp fIx (mVar 0) (mC (.int 5))) mNil))) (mCons (mVar 2) mNil))))))))
/-- _law_draws -/
def M6 (C : Nat → Fn) : MS :=
    (mSeq (mSet 1 (mLstC mNil))
    (mSeq (mFor (mISeq (mVar 0)) (mGName 2) (mIfS (mTst (mOp fGe (mVar 2) (mOp fPowI (mC (.int 10)) (mC (.int 18))))) (mSeq (mSet 3 (mCB fInt (mCons (mVar 2) mNil)))
    (mFor (mIRng1 (mCons (mC (.int 60)) mNil)) (mGName 4) (mIfS (mTst (mOp fGt (mVar 3) (mC (.int 0)))) (mSeq (mApp (mVar 1) (mOp fModI (mCB fInt (mCons (mVar 3) mNil)) (mC (.int 1000))))
    (mSet 3 (mOp fDivI (mVar 3) (mC (.int 1000))))) mSkip))) (mSeq (mSet 5 (mOp fModI (mCB fInt (mCons (mOp fAdd (mOp fMul (mVar 2) (mC (.int 48271))) (mC (.int 12345))) mNil)) (mC (.int 9973))))
    (mSeq (mApp (mVar 1) (mVar 5))
    (mApp (mVar 1) (mOp fModI (mCB fInt (mCons (mOp fAdd (mOp fAdd (mOp fMul (mVar 5) (mVar 5)) (mOp fMul (mC (.int 31)) (mVar 5))) (mOp fMul (mC (.int 17)) (mCB fLen (mCons (mVar 1) mNil)))) mNil)) (mC (.int 9949))))))))
    (mRet (mVar 1))))
/-- _law_take -/
def M7 (C : Nat → Fn) : MS :=
    (mSeq (mAsgG (mOp fAdd (mOp fIx (mVar 1) (mC (.int 0))) (mC (.int 1))) (mGSub (mVar 1) (mC (.int 0))))
    (mSeq (mIfS (mTst (mOp fGt (mOp fIx (mVar 1) (mC (.int 0))) (mCB fLen (mCons (mVar 0) mNil)))) (mRet (mC (.int 0))) mSkip)
    (mRet (mOp fModI (mCB fInt (mCons (mOp fIx (mVar 0) (mOp fSubI (mOp fIx (mVar 1) (mC (.int 0))) (mC (.int 1)))) mNil)) (mVar 2)))))
/-- _law_same -/
def M8 (C : Nat → Fn) : MS :=
    (mSeq (mIfS (mOr (mTru (mCB (fIsi isi) (mCons (mVar 0) (mCons (mC (.ty .bool)) mNil)))) (mTru (mCB (fIsi isi) (mCons (mVar 1) (mCons (mC (.ty .bool)) mNil))))) (mRet (mAndV (mCB (fIsi isi) (mCons (mVar 0) (mCons (mC (.ty .bool)) mNil))) (mAndV (mCB (fIsi isi) (mCons (mVar 1) (mCons (mC (.ty .bool)) mNil))) (mOp fEq (mVar 0) (mVar 1))))) mSkip)
    (mSeq (mIfS (mOr (mTst (mOp fIsN (mVar 0) (mC .non))) (mTst (mOp fIsN (mVar 1) (mC .non)))) (mRet (mAndV (mOp fIsN (mVar 0) (mC .non)) (mOp fIsN (mVar 1) (mC .non)))) mSkip)
    (mSeq (mIfS (mTru (mCB (fIsi isi) (mCons (mVar 1) (mCons (mC (.ty .int)) mNil)))) (mRet (mAndV (mCB (fIsi isi) (mCons (mVar 0) (mCons (mC (.ty .int)) mNil))) (mOp fEq (mVar 0) (mVar 1)))) mSkip)
    (mSeq (mIfS (mTru (mCB (fIsi isi) (mCons (mVar 1) (mCons (mC (.ty .str)) mNil)))) (mRet (mAndV (mCB (fIsi isi) (mCons (mVar 0) (mCons (mC (.ty .str)) mNil))) (mOp fEq (mVar 0) (mVar 1)))) mSkip)
    (mSeq (mIfS (mAnd (mTru (mCB (fIsi isi) (mCons (mVar 1) (mCons (mC (.ty .tuple)) mNil)))) (mNot (mTru (mCB (fIsi isi) (mCons (mVar 0) (mCons (mC (.ty .tuple)) mNil)))))) (mRet (mC (.bl false))) mSkip)
    (mSeq (mIfS (mAnd (mTru (mCB (fIsi isi) (mCons (mVar 1) (mCons (mC (.ty .list)) mNil)))) (mNot (mTru (mCB (fIsi isi) (mCons (mVar 0) (mCons (mC (.ty .list)) mNil)))))) (mRet (mC (.bl false))) mSkip)
    (mSeq (mIfS (mTst (mOp fNe (mCB fLen (mCons (mVar 0) mNil)) (mCB fLen (mCons (mVar 1) mNil)))) (mRet (mC (.bl false))) mSkip)
    (mSeq (mFor (mIRng1 (mCons (mCB fLen (mCons (mVar 1) mNil)) mNil)) (mGName 2) (mIfS (mNot (mTru (mCall (C 8) [] (mCons (mOp fIx (mVar 0) (mVar 2)) (mCons (mOp fIx (mVar 1) (mVar 2)) mNil))))) (mRet (mC (.bl false))) mSkip))
    (mRet (mC (.bl true)))))))))))
/-- _law_adjusted -/
def M9 (C : Nat → Fn) : MS :=
    (mSeq (mSet 1 (mOp fIx (mVar 0) (mC (.int 0))))
    (mSeq (mIfS (mTst (mOp fLt (mVar 1) (mOp fIx (mVar 0) (mC (.int 1))))) (mSet 1 (mOp fIx (mVar 0) (mC (.int 1)))) mSkip)
    (mSeq (mSet 2 (mOp fIx (mVar 0) (mC (.int 2))))
    (mSeq (mIfS (mTst (mOp fLt (mVar 2) (mVar 1))) (mSet 2 (mVar 1)) mSkip)
    (mRet (mLst (mCons (mVar 1) (mCons (mOp fIx (mVar 0) (mC (.int 1))) (mCons (mVar 2) (mCons (mOp fIx (mVar 0) (mC (.int 3))) mNil))))))))))
/-- _law_fields -/
def M10 (C : Nat → Fn) : MS :=
    (mRet (mLst (mCons (mFld 0 0 (mVar 0)) (mCons (mFld 0 1 (mVar 0)) (mCons (mFld 0 2 (mVar 0)) (mCons (mFld 0 3 (mVar 0)) mNil))))))
/-- _law_words -/
def M11 (C : Nat → Fn) : MS :=
    (mSeq (mSet 1 (mLst (mCons (mC (.str "none")) (mCons (mC (.str "one")) (mCons (mC (.str "most")) (mCons (mC (.str "all")) mNil))))))
    (mRet (mLst (mCons (mOp fIx (mVar 1) (mOp fIx (mVar 0) (mC (.int 0)))) (mCons (mOp fIx (mVar 1) (mOp fIx (mVar 0) (mC (.int 1)))) (mCons (mOp fIx (mVar 1) (mOp fIx (mVar 0) (mC (.int 2)))) (mCons (mOp fIx (mVar 0) (mC (.int 3))) mNil)))))))
/-- _law_form -/
def M12 (C : Nat → Fn) : MS :=
    (mSeq (mSet 1 (mLst (mCons (mC (.str "none")) (mCons (mC (.str "one")) (mCons (mC (.str "most")) (mCons (mC (.str "all")) mNil))))))
    (mSeq (mSet 2 (mOp fAdd (mOp fAdd (mOp fAdd (mOp fAdd (mOp fAdd (mC (.str "held ")) (mOp fIx (mVar 1) (mOp fIx (mVar 0) (mC (.int 0))))) (mC (.str " owned "))) (mOp fIx (mVar 1) (mOp fIx (mVar 0) (mC (.int 1))))) (mC (.str " seen "))) (mOp fIx (mVar 1) (mOp fIx (mVar 0) (mC (.int 2))))))
    (mSeq (mIfS (mTru (mOp fIx (mVar 0) (mC (.int 3)))) (mRet (mOp fAdd (mVar 2) (mC (.str " early")))) mSkip)
    (mRet (mVar 2)))))
/-- _law_due -/
def M13 (C : Nat → Fn) : MS :=
    (mSeq (mFor (mIRng1 (mCons (mC (.int 4)) mNil)) (mGName 1) (mFor (mIRng1 (mCons (mC (.int 4)) mNil)) (mGName 2) (mFor (mIRng1 (mCons (mC (.int 4)) mNil)) (mGName 3) (mFor (mISeq (mLst (mCons (mC (.bl false)) (mCons (mC (.bl true)) mNil)))) (mGName 4) (mIfS (mTst (mOp fEq (mVar 0) (mCall (C 12) [] (mCons (mLst (mCons (mVar 1) (mCons (mVar 2) (mCons (mVar 3) (mCons (mVar 4) mNil))))) mNil)))) (mRet (mCall (C 11) [] (mCons (mCall (C 9) [] (mCons (mLst (mCons (mVar 1) (mCons (mVar 2) (mCons (mVar 3) (mCons (mVar 4) mNil))))) mNil)) mNil))) mSkip)))))
    (mRet (mLst (mCons (mC (.str "BadText")) (mCons (mC (.int 1)) mNil)))))
/-- _law_changed -/
def M14 (C : Nat → Fn) : MS :=
    (mSeq (mSet 3 (mSplit true (mVar 2) (mC (.str " "))))
    (mSeq (mSet 4 (mCall (C 7) [] (mCons (mVar 0) (mCons (mVar 1) (mCons (mC (.int 14)) mNil)))))
    (mSeq (mSet 5 (mCall (C 7) [] (mCons (mVar 0) (mCons (mVar 1) (mCons (mCB fLen (mCons (mVar 3) mNil)) mNil)))))
    (mSeq (mSet 6 (mCall (C 7) [] (mCons (mVar 0) (mCons (mVar 1) (mCons (mCB fLen (mCons (mVar 3) mNil)) mNil)))))
    (mSeq (mSet 7 (mLst (mCons (mC (.str "none")) (mCons (mC (.str "one")) (mCons (mC (.str "most")) (mCons (mC (.str "all")) (mCons (mC (.str "early")) (mCons (mC (.str "")) (mCons (mC (.str "held")) (mCons (mC (.str "late")) mNil))))))))))
    (mSeq (mSet 8 (mOp fIx (mVar 3) (mVar 5)))
    (mSeq (mIfS (mTst (mOp fEq (mVar 4) (mC (.int 1)))) (mRet (mJoin (mC (.str " ")) (mOp fAdd (mSl (mVar 3) mNoP (mPart (mVar 5))) (mSl (mVar 3) (mPart (mOp fAdd (mVar 5) (mC (.int 1)))) mNoP)))) mSkip)
    (mSeq (mIfS (mTst (mOp fEq (mVar 4) (mC (.int 2)))) (mRet (mJoin (mC (.str " ")) (mOp fAdd (mOp fAdd (mSl (mVar 3) mNoP (mPart (mVar 5))) (mLst (mCons (mVar 8) (mCons (mVar 8) mNil)))) (mSl (mVar 3) (mPart (mOp fAdd (mVar 5) (mC (.int 1)))) mNoP)))) mSkip)
    (mSeq (mIfS (mTst (mOp fEq (mVar 4) (mC (.int 3)))) (mSeq (mAsgG (mOp fIx (mVar 3) (mVar 6)) (mGSub (mVar 3) (mVar 5)))
    (mAsgG (mVar 8) (mGSub (mVar 3) (mVar 6)))) mSkip)
    (mSeq (mIfS (mTst (mOp fEq (mVar 4) (mC (.int 4)))) (mAsgG (mT0 c56 gUp (mVar 8)) (mGSub (mVar 3) (mVar 5))) mSkip)
    (mSeq (mIfS (mTst (mOp fEq (mVar 4) (mC (.int 5)))) (mAsgG (mSl (mVar 8) mNoP (mPart (mOp fSubI (mCB fLen (mCons (mVar 8) mNil)) (mC (.int 1))))) (mGSub (mVar 3) (mVar 5))) mSkip)
    (mSeq (mIfS (mTst (mOp fEq (mVar 4) (mC (.int 6)))) (mAsgG (mOp fIx (mVar 7) (mCall (C 7) [] (mCons (mVar 0) (mCons (mVar 1) (mCons (mC (.int 8)) mNil))))) (mGSub (mVar 3) (mVar 5))) mSkip)
    (mSeq (mIfS (mTst (mOp fEq (mVar 4) (mC (.int 7)))) (mRet (mOp fAdd (mVar 2) (mC (.str " early")))) mSkip)
    (mSeq (mIfS (mTst (mOp fEq (mVar 4) (mC (.int 8)))) (mRet (mOp fAdd (mOp fAdd (mJoin (mC (.str " ")) (mSl (mVar 3) mNoP (mPart (mVar 5)))) (mC (.str "  "))) (mJoin (mC (.str " ")) (mSl (mVar 3) (mPart (mVar 5)) mNoP)))) mSkip)
    (mSeq (mIfS (mTst (mOp fEq (mVar 4) (mC (.int 9)))) (mRet (mOp fIx (mLst (mCons (mOp fAdd (mC (.str " ")) (mVar 2)) (mCons (mOp fAdd (mVar 2) (mC (.str " "))) mNil))) (mOp fModI (mCB fInt (mCons (mVar 6) mNil)) (mC (.int 2))))) mSkip)
    (mSeq (mIfS (mTst (mOp fEq (mVar 4) (mC (.int 10)))) (mRet (mOp fIx (mLst (mCons (mOp fAdd (mVar 2) (mC (.str "\n"))) (mCons (mOp fAdd (mC (.str "\n")) (mVar 2)) (mCons (mC (.str "")) mNil)))) (mOp fModI (mCB fInt (mCons (mVar 6) mNil)) (mC (.int 3))))) mSkip)
    (mSeq (mIfS (mTst (mOp fEq (mVar 4) (mC (.int 11)))) (mRet (mRepl " " "\t" (mVar 2))) mSkip)
    (mRet (mJoin (mC (.str " ")) (mVar 3))))))))))))))))))))
/-- _law_told -/
def M15 (C : Nat → Fn) : MS :=
    (mSeq (mTry (mSet 1 (mCall (C 4) [] (mCons (mVar 0) mNil)))
    (mCAs isx (.own 1) 2 (mSeq (mIfS (mOr (mTru (mCB (fIsX isx) (mCons (mVar 2) (mCons (mC (.cls 2)) mNil)))) (mOr (mTru (mCB (fIsX isx) (mCons (mVar 2) (mCons (mC (.cls 5)) mNil)))) (mTru (mCB (fIsX isx) (mCons (mVar 2) (mCons (mC (.cls 3)) mNil)))))) (mRet (mLst (mCons (mC (.str "other")) mNil))) mSkip)
    (mSeq (mIfS (mAnd (mTru (mCB (fIsX isx) (mCons (mVar 2) (mCons (mC (.cls 4)) mNil)))) (mTru (mCB (fIsX isx) (mCons (mVar 2) (mCons (mC (.ty .verr)) mNil))))) (mRet (mLst (mCons (mC (.str "BadText")) (mCons (mXFld fx_line (mVar 2)) mNil)))) mSkip)
    (mRet (mLst (mCons (mC (.str "other")) mNil))))) mCNil))
    (mRet (mCall (C 10) [] (mCons (mVar 1) mNil))))
/-- law -/
def M16 (C : Nat → Fn) : MS :=
    (mSeq (mSet 1 (mCall (C 6) [] (mCons (mVar 0) mNil)))
    (mSeq (mSet 2 (mLstC (mCons (mC (.int 0)) mNil)))
    (mSeq (mSet 3 (mLst (mCons (mC (.str "none")) (mCons (mC (.str "one")) (mCons (mC (.str "most")) (mCons (mC (.str "all")) mNil))))))
    (mSeq (mFor (mIRng1 (mCons (mC (.int 4)) mNil)) (mGName 4) (mSeq (mSet 5 (mLst (mCons (mCall (C 7) [] (mCons (mVar 1) (mCons (mVar 2) (mCons (mC (.int 4)) mNil)))) (mCons (mCall (C 7) [] (mCons (mVar 1) (mCons (mVar 2) (mCons (mC (.int 4)) mNil)))) (mCons (mCall (C 7) [] (mCons (mVar 1) (mCons (mVar 2) (mCons (mC (.int 4)) mNil)))) (mCons (mOp fEq (mCall (C 7) [] (mCons (mVar 1) (mCons (mVar 2) (mCons (mC (.int 2)) mNil)))) (mC (.int 1))) mNil))))))
    (mSeq (mSet 6 (mFrzT (mMakeK 0 (C 1) (fun xs ys => xs ++ ys) 3 1 (mCons (mOp fIx (mVar 3) (mOp fIx (mVar 5) (mC (.int 0)))) (mCons (mOp fIx (mVar 3) (mOp fIx (mVar 5) (mC (.int 1)))) (mCons (mOp fIx (mVar 3) (mOp fIx (mVar 5) (mC (.int 2)))) mNil))) (mCons (mOp fIx (mVar 5) (mC (.int 3))) mNil))))
    (mSeq (mSet 7 (mStrO 0 (C 3) (mVar 6)))
    (mSeq (mIfS (mNot (mTru (mCall (C 8) [] (mCons (mVar 7) (mCons (mCall (C 12) [] (mCons (mCall (C 9) [] (mCons (mVar 5) mNil)) mNil)) mNil))))) (mRet (mC (.bl false))) mSkip)
    (mSeq (mIfS (mNot (mTru (mCall (C 8) [] (mCons (mOpH (fOwn 0 (C 2)) (mCall (C 4) [] (mCons (mVar 7) mNil)) (mVar 6)) (mCons (mC (.bl true)) mNil))))) (mRet (mC (.bl false))) mSkip)
    (mSeq (mSet 8 (mCall (C 12) [] (mCons (mVar 5) mNil)))
    (mSeq (mIfS (mNot (mTru (mCall (C 8) [] (mCons (mCall (C 15) [] (mCons (mVar 8) mNil)) (mCons (mCall (C 11) [] (mCons (mCall (C 9) [] (mCons (mVar 5) mNil)) mNil)) mNil))))) (mRet (mC (.bl false))) mSkip)
    (mSeq (mSet 9 (mCall (C 14) [] (mCons (mVar 1) (mCons (mVar 2) (mCons (mVar 8) mNil)))))
    (mSeq (mIfS (mNot (mTru (mCall (C 8) [] (mCons (mCall (C 15) [] (mCons (mVar 9) mNil)) (mCons (mCall (C 13) [] (mCons (mVar 9) mNil)) mNil))))) (mRet (mC (.bl false))) mSkip)
    (mIfS (mNot (mTru (mCall (C 8) [] (mCons (mCall (C 15) [] (mCons (mVar 7) mNil)) (mCons (mCall (C 11) [] (mCons (mCall (C 9) [] (mCons (mVar 5) mNil)) mNil)) mNil))))) (mRet (mC (.bl false))) mSkip)))))))))))
    (mRet (mC (.bl true)))))))
def fns (C : Nat → Fn) : Nat → Fn
  | 0 => fnM true 3 1 (M0 C)
  | 1 => fnM false 8 5 (M1 C)
  | 2 => fnM true 2 2 (M2 C)
  | 3 => fnM true 2 1 (M3 C)
  | 4 => fnM true 1 1 (M4 C)
  | 5 => fnM true 4 2 (M5 C)
  | 6 => fnM true 6 1 (M6 C)
  | 7 => fnM false 3 3 (M7 C)
  | 8 => fnM true 3 2 (M8 C)
  | 9 => fnM true 3 1 (M9 C)
  | 10 => fnM true 1 1 (M10 C)
  | 11 => fnM true 2 1 (M11 C)
  | 12 => fnM true 3 1 (M12 C)
  | 13 => fnM true 5 1 (M13 C)
  | 14 => fnM true 9 3 (M14 C)
  | 15 => fnM true 3 1 (M15 C)
  | 16 => fnM true 10 1 (M16 C)
  | _ => fun _ _ => .bad
def call : Nat → Nat → Fn
  | 0, _ => fun _ _ => .bad
  | n + 1, i => fns (call n) i
theorem cl0 {n : Nat} : call (n + 1) 0 = fnM true 3 1 (M0 (call n)) := by kernel_rfl
theorem cl1 {n : Nat} : call (n + 1) 1 = fnM false 8 5 (M1 (call n)) := by kernel_rfl
theorem cl2 {n : Nat} : call (n + 1) 2 = fnM true 2 2 (M2 (call n)) := by kernel_rfl
theorem cl3 {n : Nat} : call (n + 1) 3 = fnM true 2 1 (M3 (call n)) := by kernel_rfl
theorem cl4 {n : Nat} : call (n + 1) 4 = fnM true 1 1 (M4 (call n)) := by kernel_rfl
theorem cl5 {n : Nat} : call (n + 1) 5 = fnM true 4 2 (M5 (call n)) := by kernel_rfl
theorem cl6 {n : Nat} : call (n + 1) 6 = fnM true 6 1 (M6 (call n)) := by kernel_rfl
theorem cl7 {n : Nat} : call (n + 1) 7 = fnM false 3 3 (M7 (call n)) := by kernel_rfl
theorem cl8 {n : Nat} : call (n + 1) 8 = fnM true 3 2 (M8 (call n)) := by kernel_rfl
theorem cl9 {n : Nat} : call (n + 1) 9 = fnM true 3 1 (M9 (call n)) := by kernel_rfl
theorem cl10 {n : Nat} : call (n + 1) 10 = fnM true 1 1 (M10 (call n)) := by kernel_rfl
theorem cl11 {n : Nat} : call (n + 1) 11 = fnM true 2 1 (M11 (call n)) := by kernel_rfl
theorem cl12 {n : Nat} : call (n + 1) 12 = fnM true 3 1 (M12 (call n)) := by kernel_rfl
theorem cl13 {n : Nat} : call (n + 1) 13 = fnM true 5 1 (M13 (call n)) := by kernel_rfl
theorem cl14 {n : Nat} : call (n + 1) 14 = fnM true 9 3 (M14 (call n)) := by kernel_rfl
theorem cl15 {n : Nat} : call (n + 1) 15 = fnM true 3 1 (M15 (call n)) := by kernel_rfl
theorem cl16 {n : Nat} : call (n + 1) 16 = fnM true 10 1 (M16 (call n)) := by kernel_rfl
/-! ### what the top leaves -/
def tab (K : PySem.W.Frag) : Tab := ⟨K, fun c => match c with
  | 0 => He.ga K "Way"
  | 1 => He.ga K "WebError"
  | 2 => He.ga K "BadLevel"
  | 3 => He.ga K "UnknownMark"
  | 4 => He.ga K "BadText"
  | 5 => He.ga K "Refused"
  | _ => 0, fun c => match c with
  | 0 => ["held", "owned", "seen", "early"]
  | 1 => []
  | 2 => ["level"]
  | 3 => ["mark"]
  | 4 => ["line"]
  | 5 => ["step"]
  | _ => [], ktB⟩
theorem fl_nd {K : PySem.W.Frag} (c : Nat) : ((tab K).fl c).Nodup := match c with
  | 0 => (by decide +kernel : (["held", "owned", "seen", "early"] : List Str).Nodup)
  | 1 => (by decide +kernel : ([] : List Str).Nodup)
  | 2 => (by decide +kernel : (["level"] : List Str).Nodup)
  | 3 => (by decide +kernel : (["mark"] : List Str).Nodup)
  | 4 => (by decide +kernel : (["line"] : List Str).Nodup)
  | 5 => (by decide +kernel : (["step"] : List Str).Nodup)
  | _ + 6 => List.nodup_nil
theorem fl_few {K : PySem.W.Frag} (c : Nat) : ((tab K).fl c).length < 1000 := match c with
  | 0 => (by decide : (["held", "owned", "seen", "early"] : List Str).length < 1000)
  | 1 => (by decide : ([] : List Str).length < 1000)
  | 2 => (by decide : (["level"] : List Str).length < 1000)
  | 3 => (by decide : (["mark"] : List Str).length < 1000)
  | 4 => (by decide : (["line"] : List Str).length < 1000)
  | 5 => (by decide : (["step"] : List Str).length < 1000)
  | _ + 6 => (by decide : ([] : List Str).length < 1000)
def facts (K : PySem.W.Frag) : List Bool := [
  (He.Fa.free "ValueError").ok K,
  (He.Fa.free "bool").ok K,
  (He.Fa.free "enumerate").ok K,
  (He.Fa.free "int").ok K,
  (He.Fa.free "isinstance").ok K,
  (He.Fa.free "len").ok K,
  (He.Fa.free "list").ok K,
  (He.Fa.free "range").ok K,
  (He.Fa.free "str").ok K,
  (He.Fa.free "tuple").ok K,
  (He.Fa.glo "rank").ok K,
  (He.Fa.glo "way_of").ok K,
  (He.Fa.glo "_law_draws").ok K,
  (He.Fa.glo "_law_take").ok K,
  (He.Fa.glo "_law_same").ok K,
  (He.Fa.glo "_law_adjusted").ok K,
  (He.Fa.glo "_law_fields").ok K,
  (He.Fa.glo "_law_words").ok K,
  (He.Fa.glo "_law_form").ok K,
  (He.Fa.glo "_law_due").ok K,
  (He.Fa.glo "_law_changed").ok K,
  (He.Fa.glo "_law_told").ok K,
  (He.Fa.glo "law").ok K,
  (He.Fa.glo "Way").ok K,
  (He.Fa.cls "Way").ok K,
  (He.Fa.noat "Way" "early").ok K,
  (He.Fa.noat "Way" "held").ok K,
  (He.Fa.noat "Way" "owned").ok K,
  (He.Fa.noat "Way" "seen").ok K,
  (He.Fa.mkr "Way").ok K,
  cstB K (He.ga K "Way") (AD4 K) (.type "type") "read",
  He.eqO (PySem.W.findIn K (.ref (He.ga K "Way")) "__eq__") (some (some (.ref (AD2 K)))),
  He.eqO (PySem.W.findIn K (.ref (He.ga K "Way")) "__str__") (some (some (.ref (AD3 K)))),
  PySem.W.isFn K (.ref (AD2 K)),
  PySem.W.isFn K (.ref (AD3 K)),
  (He.Fa.glo "LEVELS").ok K,
  He.tupB K "LEVELS" [.str "none", .str "one", .str "most", .str "all"],
  insB K (He.ga K "Way"),
  (He.Fa.free "super").ok K,
  (He.Fa.glo "BadLevel").ok K,
  (He.Fa.glo "BadText").ok K,
  (He.Fa.glo "Refused").ok K,
  (He.Fa.glo "UnknownMark").ok K,
  (He.Fa.glo "WebError").ok K,
  xcB K (He.ga K "BadLevel"),
  xcB K (He.ga K "BadText"),
  xcB K (He.ga K "Refused"),
  xcB K (He.ga K "UnknownMark"),
  xcB K (He.ga K "WebError"),
  He.eqO (PySem.W.findIn K (.ref (He.ga K "BadText")) "line") (some none),
  xmB K (He.ga K "BadLevel") (He.ga K "BadLevel") (AX2 K) ["level"],
  xmB K (He.ga K "BadText") (He.ga K "BadText") (AX4 K) ["line"],
  isxL.all fun q => decide (PySem.W.kitOne K (.ref ((tab K).ca q.1)) (q.2.1.val (tab K)) = some q.2.2),
  isxL.all fun q => decide (PySem.W.exmOne K (.ref ((tab K).ca q.1)) (q.2.1.val (tab K)) = some q.2.2),
  kitL.all fun q => decide (PySem.W.kitOne K (q.1.val (tab K)) (q.2.1.val (tab K)) = some q.2.2)]
def fns_ : List DS := [⟨AX2, DX2, fun K => He.ga K "BadLevel"⟩, ⟨AX4, DX4, fun K => He.ga K "BadText"⟩]
def fn : List DD := [⟨AD0, D0⟩, ⟨AD1, D1⟩, ⟨AD2, D2⟩, ⟨AD3, D3⟩, ⟨AD4, D4⟩, ⟨AD5, D5⟩, ⟨AD6, D6⟩, ⟨AD7, D7⟩, ⟨AD8, D8⟩, ⟨AD9, D9⟩, ⟨AD10, D10⟩, ⟨AD11, D11⟩, ⟨AD12, D12⟩, ⟨AD13, D13⟩, ⟨AD14, D14⟩, ⟨AD15, D15⟩, ⟨AD16, D16⟩]
def fdE (K : PySem.W.Frag) (a : Addr) : FuncData := fdOf K a
structure Ax (P : Program) (K : PySem.W.Frag) (mg : Str → Option Value) : Prop where
  g_ValueError : mg "ValueError" = none
  g_bool : mg "bool" = none
  g_enumerate : mg "enumerate" = none
  g_int : mg "int" = none
  g_isinstance : mg "isinstance" = none
  g_len : mg "len" = none
  g_list : mg "list" = none
  g_range : mg "range" = none
  g_str : mg "str" = none
  g_tuple : mg "tuple" = none
  gf_0 : mg "rank" = some (.ref (AD0 K))
  gf_5 : mg "way_of" = some (.ref (AD5 K))
  gf_6 : mg "_law_draws" = some (.ref (AD6 K))
  gf_7 : mg "_law_take" = some (.ref (AD7 K))
  gf_8 : mg "_law_same" = some (.ref (AD8 K))
  gf_9 : mg "_law_adjusted" = some (.ref (AD9 K))
  gf_10 : mg "_law_fields" = some (.ref (AD10 K))
  gf_11 : mg "_law_words" = some (.ref (AD11 K))
  gf_12 : mg "_law_form" = some (.ref (AD12 K))
  gf_13 : mg "_law_due" = some (.ref (AD13 K))
  gf_14 : mg "_law_changed" = some (.ref (AD14 K))
  gf_15 : mg "_law_told" = some (.ref (AD15 K))
  gf_16 : mg "law" = some (.ref (AD16 K))
  gc_0 : mg "Way" = some (.ref ((tab K).ca 0))
  cl_0 : Cls K ((tab K).ca 0)
  na_0_early : NoAttr K ((tab K).ca 0) "early"
  na_0_held : NoAttr K ((tab K).ca 0) "held"
  na_0_owned : NoAttr K ((tab K).ca 0) "owned"
  na_0_seen : NoAttr K ((tab K).ca 0) "seen"
  mk_0 : Mk K ((tab K).ca 0) (AD1 K)
  st_0_read : CSt K ((tab K).ca 0) (.type "type") "read" (AD4 K)
  sp_0_eq : PySem.W.findIn K (.ref ((tab K).ca 0)) "__eq__" = some (some (.ref (AD2 K)))
  sp_0_str : PySem.W.findIn K (.ref ((tab K).ca 0)) "__str__" = some (some (.ref (AD3 K)))
  fn_2 : PySem.W.isFn K (.ref (AD2 K)) = true
  fn_3 : PySem.W.isFn K (.ref (AD3 K)) = true
  m_LEVELS : mg "LEVELS" = some (.ref (He.ga K "LEVELS"))
  k_LEVELS : KV (tab K) (.tup [(.str "none"), (.str "one"), (.str "most"), (.str "all")]) (.ref (He.ga K "LEVELS"))
  in_0 : InsF (tab K) 0
  g_super : mg "super" = none
  gc_2 : mg "BadLevel" = some (.ref ((tab K).ca 2))
  gc_4 : mg "BadText" = some (.ref ((tab K).ca 4))
  gc_5 : mg "Refused" = some (.ref ((tab K).ca 5))
  gc_3 : mg "UnknownMark" = some (.ref ((tab K).ca 3))
  gc_1 : mg "WebError" = some (.ref ((tab K).ca 1))
  xc_2 : XcC K ((tab K).ca 2)
  xc_4 : XcC K ((tab K).ca 4)
  xc_5 : XcC K ((tab K).ca 5)
  xc_3 : XcC K ((tab K).ca 3)
  xc_1 : XcC K ((tab K).ca 1)
  nx_4_line : PySem.W.findIn K (.ref ((tab K).ca 4)) "line" = some none
  xm_2 : XmC (tab K) 2 (He.ga K "BadLevel") (AX2 K) ["level"]
  xm_4 : XmC (tab K) 4 (He.ga K "BadText") (AX4 K) ["line"]
  kix : ∀ q ∈ isxL, PySem.W.kitOne K (.ref ((tab K).ca q.1)) (q.2.1.val (tab K)) = some q.2.2
  exx : ∀ q ∈ isxL, PySem.W.exmOne K (.ref ((tab K).ca q.1)) (q.2.1.val (tab K)) = some q.2.2
  kit : ∀ q ∈ kitL, PySem.W.kitOne K (q.1.val (tab K)) (q.2.1.val (tab K)) = some q.2.2
  f0 : FunD K D0.name D0.qual D0.params D0.body D0.scope (D0.dvs K) (D0.kws K) (AD0 K) (fdE K (AD0 K))
  f1 : FunD K D1.name D1.qual D1.params D1.body D1.scope (D1.dvs K) (D1.kws K) (AD1 K) (fdE K (AD1 K))
  f2 : FunD K D2.name D2.qual D2.params D2.body D2.scope (D2.dvs K) (D2.kws K) (AD2 K) (fdE K (AD2 K))
  f3 : FunD K D3.name D3.qual D3.params D3.body D3.scope (D3.dvs K) (D3.kws K) (AD3 K) (fdE K (AD3 K))
  f4 : FunD K D4.name D4.qual D4.params D4.body D4.scope (D4.dvs K) (D4.kws K) (AD4 K) (fdE K (AD4 K))
  f5 : FunD K D5.name D5.qual D5.params D5.body D5.scope (D5.dvs K) (D5.kws K) (AD5 K) (fdE K (AD5 K))
  f6 : FunD K D6.name D6.qual D6.params D6.body D6.scope (D6.dvs K) (D6.kws K) (AD6 K) (fdE K (AD6 K))
  f7 : FunD K D7.name D7.qual D7.params D7.body D7.scope (D7.dvs K) (D7.kws K) (AD7 K) (fdE K (AD7 K))
  f8 : FunD K D8.name D8.qual D8.params D8.body D8.scope (D8.dvs K) (D8.kws K) (AD8 K) (fdE K (AD8 K))
  f9 : FunD K D9.name D9.qual D9.params D9.body D9.scope (D9.dvs K) (D9.kws K) (AD9 K) (fdE K (AD9 K))
  f10 : FunD K D10.name D10.qual D10.params D10.body D10.scope (D10.dvs K) (D10.kws K) (AD10 K) (fdE K (AD10 K))
  f11 : FunD K D11.name D11.qual D11.params D11.body D11.scope (D11.dvs K) (D11.kws K) (AD11 K) (fdE K (AD11 K))
  f12 : FunD K D12.name D12.qual D12.params D12.body D12.scope (D12.dvs K) (D12.kws K) (AD12 K) (fdE K (AD12 K))
  f13 : FunD K D13.name D13.qual D13.params D13.body D13.scope (D13.dvs K) (D13.kws K) (AD13 K) (fdE K (AD13 K))
  f14 : FunD K D14.name D14.qual D14.params D14.body D14.scope (D14.dvs K) (D14.kws K) (AD14 K) (fdE K (AD14 K))
  f15 : FunD K D15.name D15.qual D15.params D15.body D15.scope (D15.dvs K) (D15.kws K) (AD15 K) (fdE K (AD15 K))
  f16 : FunD K D16.name D16.qual D16.params D16.body D16.scope (D16.dvs K) (D16.kws K) (AD16 K) (fdE K (AD16 K))
  s2 : FunS P K DX2.name DX2.qual DX2.params DX2.body DX2.scope (AX2 K) (fdE K (AX2 K)) (He.ga K "BadLevel")
  s4 : FunS P K DX4.name DX4.qual DX4.params DX4.body DX4.scope (AX4 K) (fdE K (AX4 K)) (He.ga K "BadText")
  topS : (P.main.scope.names.lookup ("super" : Str)).isSome = false
namespace Ax
variable {P : Program} {K : PySem.W.Frag} {mg : Str → Option Value} (A : Ax P K mg)
include A
theorem isi : IsiOk (tab K) isi := isiT_ok (n := 1) A.kit (by decide) (fun c hc => match c, hc with
  | 0, _ => A.in_0
  | _ + 1, z => absurd z (by omega))
theorem b0 : Binds K (fdE K (AD0 K)) P0 [] := A.f0.bindsN fun _ _ _ _ _ _ us hl => match us, hl with | [_], _ => rfl
theorem b2 : Binds K (fdE K (AD2 K)) P2 [] := A.f2.bindsN fun _ _ _ _ _ _ us hl => match us, hl with | [_, _], _ => rfl
theorem b3 : Binds K (fdE K (AD3 K)) P3 [] := A.f3.bindsN fun _ _ _ _ _ _ us hl => match us, hl with | [_], _ => rfl
theorem b4 : Binds K (fdE K (AD4 K)) P4 [] := A.f4.bindsN fun _ _ _ _ _ _ us hl => match us, hl with | [_], _ => rfl
theorem b5 : Binds K (fdE K (AD5 K)) P5 [] := A.f5.bindsN fun _ _ _ _ _ _ us hl => match us, hl with | [_, _], _ => rfl
theorem b6 : Binds K (fdE K (AD6 K)) P6 [] := A.f6.bindsN fun _ _ _ _ _ _ us hl => match us, hl with | [_], _ => rfl
theorem b7 : Binds K (fdE K (AD7 K)) P7 [] := A.f7.bindsN fun _ _ _ _ _ _ us hl => match us, hl with | [_, _, _], _ => rfl
theorem b8 : Binds K (fdE K (AD8 K)) P8 [] := A.f8.bindsN fun _ _ _ _ _ _ us hl => match us, hl with | [_, _], _ => rfl
theorem b9 : Binds K (fdE K (AD9 K)) P9 [] := A.f9.bindsN fun _ _ _ _ _ _ us hl => match us, hl with | [_], _ => rfl
theorem b10 : Binds K (fdE K (AD10 K)) P10 [] := A.f10.bindsN fun _ _ _ _ _ _ us hl => match us, hl with | [_], _ => rfl
theorem b11 : Binds K (fdE K (AD11 K)) P11 [] := A.f11.bindsN fun _ _ _ _ _ _ us hl => match us, hl with | [_], _ => rfl
theorem b12 : Binds K (fdE K (AD12 K)) P12 [] := A.f12.bindsN fun _ _ _ _ _ _ us hl => match us, hl with | [_], _ => rfl
theorem b13 : Binds K (fdE K (AD13 K)) P13 [] := A.f13.bindsN fun _ _ _ _ _ _ us hl => match us, hl with | [_], _ => rfl
theorem b14 : Binds K (fdE K (AD14 K)) P14 [] := A.f14.bindsN fun _ _ _ _ _ _ us hl => match us, hl with | [_, _, _], _ => rfl
theorem b15 : Binds K (fdE K (AD15 K)) P15 [] := A.f15.bindsN fun _ _ _ _ _ _ us hl => match us, hl with | [_], _ => rfl
theorem b16 : Binds K (fdE K (AD16 K)) P16 [] := A.f16.bindsN fun _ _ _ _ _ _ us hl => match us, hl with | [_], _ => rfl
theorem bk1_4_early : KBn K (fdE K (AD1 K)) P1 4 ["early"] (fun us ws => us ++ ws) (fun vs zs => vs ++ zs) := by
  obtain ⟨its, mv, hb⟩ := A.f1.kbinds (ps := P1) 4 ["early"] [] (fun us its mv ws => us ++ ws) (List.cons_ne_nil _ _) (List.cons_ne_nil _ _) (fun q hq => by cases hq) (fun r1 _ _ r4 => r1.append r4) fun T D _ _ _ _ _ us its mv ws h1 h2 h3 h4 => match us, its, mv, ws, h1, h2, h3, h4 with | [_, _, _, _], [_, _, _], [], [_], _, _, _, _ => ⟨_, rfl, rfl⟩
  exact hb
theorem bx_2 : Binds K (fdE K (AX2 K)) PX2 [] := A.s2.bindsN fun _ _ _ _ _ _ us hl => match us, hl with | [_, _], _ => rfl
theorem bx_4 : Binds K (fdE K (AX4 K)) PX4 [] := A.s4.bindsN fun _ _ _ _ _ _ us hl => match us, hl with | [_, _], _ => rfl
end Ax
theorem isx_ok {P : Program} {K : PySem.W.Frag} {mg : Str → Option Value} (A : Ax P K mg) : IsxOk (tab K) isx := isxT_ok A.kix A.exx fun q hq => by
  have h : q.1 ∈ [1, 2, 3, 4, 5] := by
    have h2 : q.1 ∈ isxL.map (·.1) := List.mem_map_of_mem hq
    exact (List.all_eq_true.mp (show ((isxL.map (·.1)).all fun c => ([1, 2, 3, 4, 5] : List Nat).contains c) = true by decide +kernel) _ h2 |> List.contains_iff_mem.mp)
  revert h; generalize q.1 = c; intro h
  simp only [List.mem_cons, List.not_mem_nil, or_false] at h
  rcases h with rfl | rfl | rfl | rfl | rfl
  · exact A.xc_1
  · exact A.xc_2
  · exact A.xc_3
  · exact A.xc_4
  · exact A.xc_5
theorem fx_ok_line {P : Program} {K : PySem.W.Frag} {mg : Str → Option Value} (A : Ax P K mg) : FxOk (tab K) "line" fx_line := fxT_ok (List.forall_mem_cons.mpr ⟨rfl, (fun _ h => nomatch h)⟩) (fun c => fl_nd c) (List.forall_mem_cons.mpr ⟨A.xc_4, (fun _ h => nomatch h)⟩) (List.forall_mem_cons.mpr ⟨A.nx_4_line, (fun _ h => nomatch h)⟩)
section
variable {P : Program} {w : World} {K : PySem.W.Frag} {mg : Str → Option Value} {base : Heap}
theorem xi_2 (A : Ax P K mg) : FnOk P w K mg base (L2.CX P w) 1 (AX2 K) (fdE K (AX2 K)) PX2 (spXi K (He.ga K "BadLevel") ["level"]) :=
  fn_xi1 A.s2 (NdefX.nscope_by (by decide +kernel)) rfl rfl rfl A.g_super A.topS (by decide +kernel) (by decide +kernel) (by decide +kernel) (by decide +kernel) (fun _ => rfl)
theorem xi_4 (A : Ax P K mg) : FnOk P w K mg base (L2.CX P w) 1 (AX4 K) (fdE K (AX4 K)) PX4 (spXi K (He.ga K "BadText") ["line"]) :=
  fn_xi1 A.s4 (NdefX.nscope_by (by decide +kernel)) rfl rfl rfl A.g_super A.topS (by decide +kernel) (by decide +kernel) (by decide +kernel) (by decide +kernel) (fun _ => rfl)
end
/-! ### what each def is known to do -/
structure Ks (P : Program) (w : World) (K : PySem.W.Frag) (mg : Str → Option Value) (base : Heap) (n : Nat) (C : Nat → Fn) : Prop where
  k0 : Kn (tab K) P w K mg base n (AD0 K) (fdE K (AD0 K)) P0 (C 0)
  k1 : Kn (tab K) P w K mg base n (AD1 K) (fdE K (AD1 K)) P1 (C 1)
  k2 : Kn (tab K) P w K mg base n (AD2 K) (fdE K (AD2 K)) P2 (C 2)
  k3 : Kn (tab K) P w K mg base n (AD3 K) (fdE K (AD3 K)) P3 (C 3)
  k4 : Kn (tab K) P w K mg base n (AD4 K) (fdE K (AD4 K)) P4 (C 4)
  k5 : Kn (tab K) P w K mg base n (AD5 K) (fdE K (AD5 K)) P5 (C 5)
  k6 : Kn (tab K) P w K mg base n (AD6 K) (fdE K (AD6 K)) P6 (C 6)
  k7 : Kn (tab K) P w K mg base n (AD7 K) (fdE K (AD7 K)) P7 (C 7)
  k8 : Kn (tab K) P w K mg base n (AD8 K) (fdE K (AD8 K)) P8 (C 8)
  k9 : Kn (tab K) P w K mg base n (AD9 K) (fdE K (AD9 K)) P9 (C 9)
  k10 : Kn (tab K) P w K mg base n (AD10 K) (fdE K (AD10 K)) P10 (C 10)
  k11 : Kn (tab K) P w K mg base n (AD11 K) (fdE K (AD11 K)) P11 (C 11)
  k12 : Kn (tab K) P w K mg base n (AD12 K) (fdE K (AD12 K)) P12 (C 12)
  k13 : Kn (tab K) P w K mg base n (AD13 K) (fdE K (AD13 K)) P13 (C 13)
  k14 : Kn (tab K) P w K mg base n (AD14 K) (fdE K (AD14 K)) P14 (C 14)
  k15 : Kn (tab K) P w K mg base n (AD15 K) (fdE K (AD15 K)) P15 (C 15)
  k16 : Kn (tab K) P w K mg base n (AD16 K) (fdE K (AD16 K)) P16 (C 16)
section
variable {P : Program} {w : World} {K : PySem.W.Frag} {mg : Str → Option Value} {base : Heap} {n : Nat} {C : Nat → Fn}
theorem sc0 : FnScope N0 P0 (defScope S0) := ⟨rfl, rfl, rfl, by decide +kernel, rfl, by decide +kernel, by decide +kernel⟩
theorem ok0 (A : Ax P K mg) (ks : Ks P w K mg base (2 * n + 2) C) : FnOk P w K mg base (L2.CX P w) (2 * n + 2 + 1 + 1) (AD0 K) (fdE K (AD0 K)) P0 (spI (tab K) 1 (fnM true 3 1 (M0 C))) := by
  refine fn_ok (T := tab K) A.f0 sc0 rfl rfl fun cdv A0 outer s H E G => ?_
  exact (is_cons (is_for G (ii_enum G (i_glob (v := .ref (He.ga K "LEVELS")) A.m_LEVELS rfl A.k_LEVELS) A.g_enumerate) (ig_tup G (igs_cons (ig_name 1 G) (igs_cons (ig_name 2 G) igs_nil))) (is_one (is_if (it_eq (i_var 2) (i_var 0) G) (is_one (is_ret (i_var 1))) is_nil)))
    (is_one (is_raise 2 A.xm_2 (xi_2 A) G (Nat.le_add_left _ _) A.gc_2 A.bx_2 (ia_cons (i_var 0) ia_nil))))
theorem sc1 : FnScope N1 P1 (defScope S1) := ⟨rfl, rfl, rfl, by decide +kernel, rfl, by decide +kernel, by decide +kernel⟩
theorem ok1 (A : Ax P K mg) (ks : Ks P w K mg base (2 * n + 2) C) : FnOk P w K mg base (L2.CX P w) (2 * n + 2 + 1 + 1) (AD1 K) (fdE K (AD1 K)) P1 (spI (tab K) 5 (fnM false 8 5 (M1 C))) := by
  refine fn_ok (T := tab K) A.f1 sc1 rfl rfl fun cdv A0 outer s H E G => ?_
  exact (is_cons (is_set 5 G (i_call ks.k0 (Nat.le_succ _) G A.gf_0 A.b0 .nil .nil (ia_cons (i_var 1) ia_nil)))
    (is_cons (is_set 6 G (i_call ks.k0 (Nat.le_succ _) G A.gf_0 A.b0 .nil .nil (ia_cons (i_var 2) ia_nil)))
    (is_cons (is_set 7 G (i_call ks.k0 (Nat.le_succ _) G A.gf_0 A.b0 .nil .nil (ia_cons (i_var 3) ia_nil)))
    (is_cons (is_if (it_lt (i_var 5) (i_var 6)) (is_one (is_set 5 G (i_var 6))) is_nil)
    (is_cons (is_if (it_lt (i_var 7) (i_var 5)) (is_one (is_set 7 G (i_var 5))) is_nil)
    (is_cons (is_fld 0 0 A.cl_0 A.na_0_held rfl (fl_nd 0) (fl_few 0) (i_var 0) (i_ix (i_glob (v := .ref (He.ga K "LEVELS")) A.m_LEVELS rfl A.k_LEVELS) (i_var 5) G) G)
    (is_cons (is_fld 0 1 A.cl_0 A.na_0_owned rfl (fl_nd 0) (fl_few 0) (i_var 0) (i_ix (i_glob (v := .ref (He.ga K "LEVELS")) A.m_LEVELS rfl A.k_LEVELS) (i_var 6) G) G)
    (is_cons (is_fld 0 2 A.cl_0 A.na_0_seen rfl (fl_nd 0) (fl_few 0) (i_var 0) (i_ix (i_glob (v := .ref (He.ga K "LEVELS")) A.m_LEVELS rfl A.k_LEVELS) (i_var 7) G) G)
    (is_one (is_fld 0 3 A.cl_0 A.na_0_early rfl (fl_nd 0) (fl_few 0) (i_var 0) (i_var 4) G))))))))))
theorem sc2 : FnScope N2 P2 (defScope S2) := ⟨rfl, rfl, rfl, by decide +kernel, rfl, by decide +kernel, by decide +kernel⟩
theorem ok2 (A : Ax P K mg) (ks : Ks P w K mg base (2 * n + 2) C) : FnOk P w K mg base (L2.CX P w) (2 * n + 2 + 1 + 1) (AD2 K) (fdE K (AD2 K)) P2 (spI (tab K) 2 (fnM true 2 2 (M2 C))) := by
  refine fn_ok (T := tab K) A.f2 sc2 rfl rfl fun cdv A0 outer s H E G => ?_
  exact (is_one (is_ret (i_and (i_isi A.isi G (i_var 1) (i_cls (c := 0) A.gc_0) A.g_isinstance) (i_and (i_eq (i_fld 0 0 A.cl_0 A.na_0_held rfl (fl_nd 0) (i_var 0)) (i_fld 0 0 A.cl_0 A.na_0_held rfl (fl_nd 0) (i_var 1)) G) (i_and (i_eq (i_fld 0 1 A.cl_0 A.na_0_owned rfl (fl_nd 0) (i_var 0)) (i_fld 0 1 A.cl_0 A.na_0_owned rfl (fl_nd 0) (i_var 1)) G) (i_and (i_eq (i_fld 0 2 A.cl_0 A.na_0_seen rfl (fl_nd 0) (i_var 0)) (i_fld 0 2 A.cl_0 A.na_0_seen rfl (fl_nd 0) (i_var 1)) G) (i_one (i_eq (i_fld 0 3 A.cl_0 A.na_0_early rfl (fl_nd 0) (i_var 0)) (i_fld 0 3 A.cl_0 A.na_0_early rfl (fl_nd 0) (i_var 1)) G))))))))
theorem sc3 : FnScope N3 P3 (defScope S3) := ⟨rfl, rfl, rfl, by decide +kernel, rfl, by decide +kernel, by decide +kernel⟩
theorem ok3 (A : Ax P K mg) (ks : Ks P w K mg base (2 * n + 2) C) : FnOk P w K mg base (L2.CX P w) (2 * n + 2 + 1 + 1) (AD3 K) (fdE K (AD3 K)) P3 (spI (tab K) 1 (fnM true 2 1 (M3 C))) := by
  refine fn_ok (T := tab K) A.f3 sc3 rfl rfl fun cdv A0 outer s H E G => ?_
  exact (is_cons (is_set 1 G (i_lstC (ia_cons i_str (ia_cons (i_fld 0 0 A.cl_0 A.na_0_held rfl (fl_nd 0) (i_var 0)) (ia_cons i_str (ia_cons (i_fld 0 1 A.cl_0 A.na_0_owned rfl (fl_nd 0) (i_var 0)) (ia_cons i_str (ia_cons (i_fld 0 2 A.cl_0 A.na_0_seen rfl (fl_nd 0) (i_var 0)) ia_nil))))))))
    (is_cons (is_if (it_tru G (i_fld 0 3 A.cl_0 A.na_0_early rfl (fl_nd 0) (i_var 0))) (is_one (is_app G (i_var 1) i_str)) is_nil)
    (is_one (is_ret (i_join G i_str (i_var 1))))))
theorem sc4 : FnScope N4 P4 (defScope S4) := ⟨rfl, rfl, rfl, by decide +kernel, rfl, by decide +kernel, by decide +kernel⟩
theorem ok4 (A : Ax P K mg) (ks : Ks P w K mg base (2 * n + 2) C) : FnOk P w K mg base (L2.CX P w) (2 * n + 2 + 1 + 1) (AD4 K) (fdE K (AD4 K)) P4 (spI (tab K) 1 (fnM true 1 1 (M4 C))) := by
  refine fn_ok (T := tab K) A.f4 sc4 rfl rfl fun cdv A0 outer s H E G => ?_
  exact (is_one (is_ret (i_call ks.k5 (Nat.le_succ _) G A.gf_5 A.b5 .nil .nil (ia_cons (i_split false (i_var 0) i_str) (ia_cons i_int ia_nil)))))
theorem sc5 : FnScope N5 P5 (defScope S5) := ⟨rfl, rfl, rfl, by decide +kernel, rfl, by decide +kernel, by decide +kernel⟩
theorem ok5 (A : Ax P K mg) (ks : Ks P w K mg base (2 * n + 2) C) : FnOk P w K mg base (L2.CX P w) (2 * n + 2 + 1 + 1) (AD5 K) (fdE K (AD5 K)) P5 (spI (tab K) 2 (fnM true 4 2 (M5 C))) := by
  refine fn_ok (T := tab K) A.f5 sc5 rfl rfl fun cdv A0 outer s H E G => ?_
  exact (is_cons (is_set 2 G (i_and (i_eq (i_len G (i_var 0) A.g_len) i_int G) (i_one (i_eq (i_ix (i_var 0) i_int G) i_str G))))
    (is_cons (is_if (it_w (iw_and (it_ne (i_len G (i_var 0) A.g_len) i_int G) (iw_and1 (it_not (it_tru G (i_var 2)))))) (is_one (is_raise 4 A.xm_4 (xi_4 A) G (Nat.le_add_left _ _) A.gc_4 A.bx_4 (ia_cons (i_var 1) ia_nil))) is_nil)
    (is_cons (is_if (it_w (iw_or (it_ne (i_ix (i_var 0) i_int G) i_str G) (iw_or (it_ne (i_ix (i_var 0) i_int G) i_str G) (iw_or1 (it_ne (i_ix (i_var 0) i_int G) i_str G))))) (is_one (is_raise 4 A.xm_4 (xi_4 A) G (Nat.le_add_left _ _) A.gc_4 A.bx_4 (ia_cons (i_var 1) ia_nil))) is_nil)
    (is_cons (is_for G (ii_seq G (i_tup (ia_cons (i_ix (i_var 0) i_int G) (ia_cons (i_ix (i_var 0) i_int G) (ia_cons (i_ix (i_var 0) i_int G) ia_nil))))) (ig_name 3 G) (is_one (is_if (it_notInA G (i_var 3) (i_glob (v := .ref (He.ga K "LEVELS")) A.m_LEVELS rfl A.k_LEVELS)) (is_one (is_raise 4 A.xm_4 (xi_4 A) G (Nat.le_add_left _ _) A.gc_4 A.bx_4 (ia_cons (i_var 1) ia_nil))) is_nil)))
    (is_one (is_ret (i_frzT (i_makeK 0 A.mk_0 ks.k1 (Nat.le_refl _) G A.gc_0 (j := 3) A.bk1_4_early (fun _ _ _ => rfl) (fun _ _ _ _ => rfl) (fun _ _ _ => rfl) (gW := fun xs ys => xs ++ ys) (fun _ _ _ _ _ r1 r2 => r1.append r2) (ia_cons (i_ix (i_var 0) i_int G) (ia_cons (i_ix (i_var 0) i_int G) (ia_cons (i_ix (i_var 0) i_int G) ia_nil))) (ik_cons (i_var 2) ik_nil)))))))))
theorem sc6 : FnScope N6 P6 (defScope S6) := ⟨rfl, rfl, rfl, by decide +kernel, rfl, by decide +kernel, by decide +kernel⟩
theorem ok6 (A : Ax P K mg) (ks : Ks P w K mg base (2 * n + 2) C) : FnOk P w K mg base (L2.CX P w) (2 * n + 2 + 1 + 1) (AD6 K) (fdE K (AD6 K)) P6 (spI (tab K) 1 (fnM true 6 1 (M6 C))) := by
  refine fn_ok (T := tab K) A.f6 sc6 rfl rfl fun cdv A0 outer s H E G => ?_
  exact (is_cons (is_set 1 G (i_lstC ia_nil))
    (is_cons (is_for G (ii_seq G (i_var 0)) (ig_name 2 G) (is_one (is_if (it_ge (i_var 2) (i_pow i_int i_int)) (is_cons (is_set 3 G (i_int1 (i_var 2) A.g_int))
    (is_one (is_for G (ii_range1 i_int A.g_range) (ig_name 4 G) (is_one (is_if (it_gt (i_var 3) i_int) (is_cons (is_app G (i_var 1) (i_mod (i_int1 (i_var 3) A.g_int) i_int))
    (is_one (is_set 3 G (i_fdiv (i_var 3) i_int)))) is_nil))))) (is_cons (is_set 5 G (i_mod (i_int1 (i_add (i_mul (i_var 2) i_int) i_int G) A.g_int) i_int))
    (is_cons (is_app G (i_var 1) (i_var 5))
    (is_one (is_app G (i_var 1) (i_mod (i_int1 (i_add (i_add (i_mul (i_var 5) (i_var 5)) (i_mul i_int (i_var 5)) G) (i_mul i_int (i_len G (i_var 1) A.g_len)) G) A.g_int) i_int))))))))
    (is_one (is_ret (i_var 1)))))
theorem sc7 : FnScope N7 P7 (defScope S7) := ⟨rfl, rfl, rfl, by decide +kernel, rfl, by decide +kernel, by decide +kernel⟩
theorem ok7 (A : Ax P K mg) (ks : Ks P w K mg base (2 * n + 2) C) : FnOk P w K mg base (L2.CX P w) (2 * n + 2 + 1 + 1) (AD7 K) (fdE K (AD7 K)) P7 (spI (tab K) 3 (fnM false 3 3 (M7 C))) := by
  refine fn_ok (T := tab K) A.f7 sc7 rfl rfl fun cdv A0 outer s H E G => ?_
  exact (is_cons (is_asg (i_add (i_ix (i_var 1) i_int G) i_int G) (ig_sub (i_var 1) i_int))
    (is_cons (is_if (it_gt (i_ix (i_var 1) i_int G) (i_len G (i_var 0) A.g_len)) (is_one (is_ret i_int)) is_nil)
    (is_one (is_ret (i_mod (i_int1 (i_ix (i_var 0) (i_sub (i_ix (i_var 1) i_int G) i_int) G) A.g_int) (i_var 2))))))
theorem sc8 : FnScope N8 P8 (defScope S8) := ⟨rfl, rfl, rfl, by decide +kernel, rfl, by decide +kernel, by decide +kernel⟩
theorem ok8 (A : Ax P K mg) (ks : Ks P w K mg base (2 * n + 2) C) : FnOk P w K mg base (L2.CX P w) (2 * n + 2 + 1 + 1) (AD8 K) (fdE K (AD8 K)) P8 (spI (tab K) 2 (fnM true 3 2 (M8 C))) := by
  refine fn_ok (T := tab K) A.f8 sc8 rfl rfl fun cdv A0 outer s H E G => ?_
  exact (is_cons (is_if (it_w (iw_or (it_tru G (i_isi A.isi G (i_var 0) (i_bty .bool A.g_bool (by decide +kernel)) A.g_isinstance)) (iw_or1 (it_tru G (i_isi A.isi G (i_var 1) (i_bty .bool A.g_bool (by decide +kernel)) A.g_isinstance))))) (is_one (is_ret (i_and (i_isi A.isi G (i_var 0) (i_bty .bool A.g_bool (by decide +kernel)) A.g_isinstance) (i_and (i_isi A.isi G (i_var 1) (i_bty .bool A.g_bool (by decide +kernel)) A.g_isinstance) (i_one (i_eq (i_var 0) (i_var 1) G)))))) is_nil)
    (is_cons (is_if (it_w (iw_or (it_isN (i_var 0) i_non) (iw_or1 (it_isN (i_var 1) i_non)))) (is_one (is_ret (i_and (i_isN (i_var 0) i_non) (i_one (i_isN (i_var 1) i_non))))) is_nil)
    (is_cons (is_if (it_tru G (i_isi A.isi G (i_var 1) (i_bty .int A.g_int (by decide +kernel)) A.g_isinstance)) (is_one (is_ret (i_and (i_isi A.isi G (i_var 0) (i_bty .int A.g_int (by decide +kernel)) A.g_isinstance) (i_one (i_eq (i_var 0) (i_var 1) G))))) is_nil)
    (is_cons (is_if (it_tru G (i_isi A.isi G (i_var 1) (i_bty .str A.g_str (by decide +kernel)) A.g_isinstance)) (is_one (is_ret (i_and (i_isi A.isi G (i_var 0) (i_bty .str A.g_str (by decide +kernel)) A.g_isinstance) (i_one (i_eq (i_var 0) (i_var 1) G))))) is_nil)
    (is_cons (is_if (it_w (iw_and (it_tru G (i_isi A.isi G (i_var 1) (i_bty .tuple A.g_tuple (by decide +kernel)) A.g_isinstance)) (iw_and1 (it_not (it_tru G (i_isi A.isi G (i_var 0) (i_bty .tuple A.g_tuple (by decide +kernel)) A.g_isinstance)))))) (is_one (is_ret i_bl)) is_nil)
    (is_cons (is_if (it_w (iw_and (it_tru G (i_isi A.isi G (i_var 1) (i_bty .list A.g_list (by decide +kernel)) A.g_isinstance)) (iw_and1 (it_not (it_tru G (i_isi A.isi G (i_var 0) (i_bty .list A.g_list (by decide +kernel)) A.g_isinstance)))))) (is_one (is_ret i_bl)) is_nil)
    (is_cons (is_if (it_ne (i_len G (i_var 0) A.g_len) (i_len G (i_var 1) A.g_len) G) (is_one (is_ret i_bl)) is_nil)
    (is_cons (is_for G (ii_range1 (i_len G (i_var 1) A.g_len) A.g_range) (ig_name 2 G) (is_one (is_if (it_not (it_tru G (i_call ks.k8 (Nat.le_succ _) G A.gf_8 A.b8 .nil .nil (ia_cons (i_ix (i_var 0) (i_var 2) G) (ia_cons (i_ix (i_var 1) (i_var 2) G) ia_nil))))) (is_one (is_ret i_bl)) is_nil)))
    (is_one (is_ret i_bl))))))))))
theorem sc9 : FnScope N9 P9 (defScope S9) := ⟨rfl, rfl, rfl, by decide +kernel, rfl, by decide +kernel, by decide +kernel⟩
theorem ok9 (A : Ax P K mg) (ks : Ks P w K mg base (2 * n + 2) C) : FnOk P w K mg base (L2.CX P w) (2 * n + 2 + 1 + 1) (AD9 K) (fdE K (AD9 K)) P9 (spI (tab K) 1 (fnM true 3 1 (M9 C))) := by
  refine fn_ok (T := tab K) A.f9 sc9 rfl rfl fun cdv A0 outer s H E G => ?_
  exact (is_cons (is_set 1 G (i_ix (i_var 0) i_int G))
    (is_cons (is_if (it_lt (i_var 1) (i_ix (i_var 0) i_int G)) (is_one (is_set 1 G (i_ix (i_var 0) i_int G))) is_nil)
    (is_cons (is_set 2 G (i_ix (i_var 0) i_int G))
    (is_cons (is_if (it_lt (i_var 2) (i_var 1)) (is_one (is_set 2 G (i_var 1))) is_nil)
    (is_one (is_ret (i_lst (ia_cons (i_var 1) (ia_cons (i_ix (i_var 0) i_int G) (ia_cons (i_var 2) (ia_cons (i_ix (i_var 0) i_int G) ia_nil)))))))))))
theorem sc10 : FnScope N10 P10 (defScope S10) := ⟨rfl, rfl, rfl, by decide +kernel, rfl, by decide +kernel, by decide +kernel⟩
theorem ok10 (A : Ax P K mg) (ks : Ks P w K mg base (2 * n + 2) C) : FnOk P w K mg base (L2.CX P w) (2 * n + 2 + 1 + 1) (AD10 K) (fdE K (AD10 K)) P10 (spI (tab K) 1 (fnM true 1 1 (M10 C))) := by
  refine fn_ok (T := tab K) A.f10 sc10 rfl rfl fun cdv A0 outer s H E G => ?_
  exact (is_one (is_ret (i_lst (ia_cons (i_fld 0 0 A.cl_0 A.na_0_held rfl (fl_nd 0) (i_var 0)) (ia_cons (i_fld 0 1 A.cl_0 A.na_0_owned rfl (fl_nd 0) (i_var 0)) (ia_cons (i_fld 0 2 A.cl_0 A.na_0_seen rfl (fl_nd 0) (i_var 0)) (ia_cons (i_fld 0 3 A.cl_0 A.na_0_early rfl (fl_nd 0) (i_var 0)) ia_nil)))))))
theorem sc11 : FnScope N11 P11 (defScope S11) := ⟨rfl, rfl, rfl, by decide +kernel, rfl, by decide +kernel, by decide +kernel⟩
theorem ok11 (A : Ax P K mg) (ks : Ks P w K mg base (2 * n + 2) C) : FnOk P w K mg base (L2.CX P w) (2 * n + 2 + 1 + 1) (AD11 K) (fdE K (AD11 K)) P11 (spI (tab K) 1 (fnM true 2 1 (M11 C))) := by
  refine fn_ok (T := tab K) A.f11 sc11 rfl rfl fun cdv A0 outer s H E G => ?_
  exact (is_cons (is_set 1 G (i_lst (ia_cons i_str (ia_cons i_str (ia_cons i_str (ia_cons i_str ia_nil))))))
    (is_one (is_ret (i_lst (ia_cons (i_ix (i_var 1) (i_ix (i_var 0) i_int G) G) (ia_cons (i_ix (i_var 1) (i_ix (i_var 0) i_int G) G) (ia_cons (i_ix (i_var 1) (i_ix (i_var 0) i_int G) G) (ia_cons (i_ix (i_var 0) i_int G) ia_nil))))))))
theorem sc12 : FnScope N12 P12 (defScope S12) := ⟨rfl, rfl, rfl, by decide +kernel, rfl, by decide +kernel, by decide +kernel⟩
theorem ok12 (A : Ax P K mg) (ks : Ks P w K mg base (2 * n + 2) C) : FnOk P w K mg base (L2.CX P w) (2 * n + 2 + 1 + 1) (AD12 K) (fdE K (AD12 K)) P12 (spI (tab K) 1 (fnM true 3 1 (M12 C))) := by
  refine fn_ok (T := tab K) A.f12 sc12 rfl rfl fun cdv A0 outer s H E G => ?_
  exact (is_cons (is_set 1 G (i_lst (ia_cons i_str (ia_cons i_str (ia_cons i_str (ia_cons i_str ia_nil))))))
    (is_cons (is_set 2 G (i_add (i_add (i_add (i_add (i_add i_str (i_ix (i_var 1) (i_ix (i_var 0) i_int G) G) G) i_str G) (i_ix (i_var 1) (i_ix (i_var 0) i_int G) G) G) i_str G) (i_ix (i_var 1) (i_ix (i_var 0) i_int G) G) G))
    (is_cons (is_if (it_tru G (i_ix (i_var 0) i_int G)) (is_one (is_ret (i_add (i_var 2) i_str G))) is_nil)
    (is_one (is_ret (i_var 2))))))
theorem sc13 : FnScope N13 P13 (defScope S13) := ⟨rfl, rfl, rfl, by decide +kernel, rfl, by decide +kernel, by decide +kernel⟩
theorem ok13 (A : Ax P K mg) (ks : Ks P w K mg base (2 * n + 2) C) : FnOk P w K mg base (L2.CX P w) (2 * n + 2 + 1 + 1) (AD13 K) (fdE K (AD13 K)) P13 (spI (tab K) 1 (fnM true 5 1 (M13 C))) := by
  refine fn_ok (T := tab K) A.f13 sc13 rfl rfl fun cdv A0 outer s H E G => ?_
  exact (is_cons (is_for G (ii_range1 i_int A.g_range) (ig_name 1 G) (is_one (is_for G (ii_range1 i_int A.g_range) (ig_name 2 G) (is_one (is_for G (ii_range1 i_int A.g_range) (ig_name 3 G) (is_one (is_for G (ii_seq G (i_lst (ia_cons i_bl (ia_cons i_bl ia_nil)))) (ig_name 4 G) (is_one (is_if (it_eq (i_var 0) (i_call ks.k12 (Nat.le_succ _) G A.gf_12 A.b12 .nil .nil (ia_cons (i_lst (ia_cons (i_var 1) (ia_cons (i_var 2) (ia_cons (i_var 3) (ia_cons (i_var 4) ia_nil))))) ia_nil)) G) (is_one (is_ret (i_call ks.k11 (Nat.le_succ _) G A.gf_11 A.b11 .nil .nil (ia_cons (i_call ks.k9 (Nat.le_succ _) G A.gf_9 A.b9 .nil .nil (ia_cons (i_lst (ia_cons (i_var 1) (ia_cons (i_var 2) (ia_cons (i_var 3) (ia_cons (i_var 4) ia_nil))))) ia_nil)) ia_nil)))) is_nil)))))))))
    (is_one (is_ret (i_lst (ia_cons i_str (ia_cons i_int ia_nil))))))
theorem sc14 : FnScope N14 P14 (defScope S14) := ⟨rfl, rfl, rfl, by decide +kernel, rfl, by decide +kernel, by decide +kernel⟩
theorem ok14 (A : Ax P K mg) (ks : Ks P w K mg base (2 * n + 2) C) : FnOk P w K mg base (L2.CX P w) (2 * n + 2 + 1 + 1) (AD14 K) (fdE K (AD14 K)) P14 (spI (tab K) 3 (fnM true 9 3 (M14 C))) := by
  refine fn_okT (T := tab K) A.f14 sc14 (by decide +kernel) (by decide) rfl rfl fun cdv A0 outer s H E G => ?_
  exact (ist_cons (ist_of (is_set 3 G (i_split true (i_var 2) i_str)))
    (ist_cons (ist_of (is_set 4 G (i_call ks.k7 (Nat.le_succ _) G A.gf_7 A.b7 .nil .nil (ia_cons (i_var 0) (ia_cons (i_var 1) (ia_cons i_int ia_nil))))))
    (ist_cons (ist_of (is_set 5 G (i_call ks.k7 (Nat.le_succ _) G A.gf_7 A.b7 .nil .nil (ia_cons (i_var 0) (ia_cons (i_var 1) (ia_cons (i_len G (i_var 3) A.g_len) ia_nil))))))
    (ist_cons (ist_of (is_set 6 G (i_call ks.k7 (Nat.le_succ _) G A.gf_7 A.b7 .nil .nil (ia_cons (i_var 0) (ia_cons (i_var 1) (ia_cons (i_len G (i_var 3) A.g_len) ia_nil))))))
    (ist_cons (ist_of (is_set 7 G (i_lst (ia_cons i_str (ia_cons i_str (ia_cons i_str (ia_cons i_str (ia_cons i_str (ia_cons i_str (ia_cons i_str (ia_cons i_str ia_nil)))))))))))
    (ist_cons (ist_of (is_set 8 G (i_ix (i_var 3) (i_var 5) G)))
    (ist_cons (ist_of (is_if (it_eq (i_var 4) i_int G) (is_one (is_ret (i_join G i_str (i_add (i_sl G (i_var 3) io_none (io_some (i_var 5))) (i_sl G (i_var 3) (io_some (i_add (i_var 5) i_int G)) io_none) G)))) is_nil))
    (ist_cons (ist_of (is_if (it_eq (i_var 4) i_int G) (is_one (is_ret (i_join G i_str (i_add (i_add (i_sl G (i_var 3) io_none (io_some (i_var 5))) (i_lst (ia_cons (i_var 8) (ia_cons (i_var 8) ia_nil))) G) (i_sl G (i_var 3) (io_some (i_add (i_var 5) i_int G)) io_none) G)))) is_nil))
    (ist_cons (ist_of (is_if (it_eq (i_var 4) i_int G) (is_cons (is_asg (i_ix (i_var 3) (i_var 6) G) (ig_sub (i_var 3) (i_var 5)))
    (is_one (is_asg (i_var 8) (ig_sub (i_var 3) (i_var 6))))) is_nil))
    (ist_cons (ist_of (is_if (it_eq (i_var 4) i_int G) (is_one (is_asg (i_upper (i_var 8)) (ig_sub (i_var 3) (i_var 5)))) is_nil))
    (ist_cons (ist_of (is_if (it_eq (i_var 4) i_int G) (is_one (is_asg (i_sl G (i_var 8) io_none (io_some (i_sub (i_len G (i_var 8) A.g_len) i_int))) (ig_sub (i_var 3) (i_var 5)))) is_nil))
    (ist_cons (ist_of (is_if (it_eq (i_var 4) i_int G) (is_one (is_asg (i_ix (i_var 7) (i_call ks.k7 (Nat.le_succ _) G A.gf_7 A.b7 .nil .nil (ia_cons (i_var 0) (ia_cons (i_var 1) (ia_cons i_int ia_nil)))) G) (ig_sub (i_var 3) (i_var 5)))) is_nil))
    (ist_cons (ist_of (is_if (it_eq (i_var 4) i_int G) (is_one (is_ret (i_add (i_var 2) i_str G))) is_nil))
    (ist_cons (ist_of (is_if (it_eq (i_var 4) i_int G) (is_one (is_ret (i_add (i_add (i_join G i_str (i_sl G (i_var 3) io_none (io_some (i_var 5)))) i_str G) (i_join G i_str (i_sl G (i_var 3) (io_some (i_var 5)) io_none)) G))) is_nil))
    (ist_cons (ist_of (is_if (it_eq (i_var 4) i_int G) (is_one (is_ret (i_ix (i_lst (ia_cons (i_add i_str (i_var 2) G) (ia_cons (i_add (i_var 2) i_str G) ia_nil))) (i_mod (i_int1 (i_var 6) A.g_int) i_int) G))) is_nil))
    (ist_cons (ist_of (is_if (it_eq (i_var 4) i_int G) (is_one (is_ret (i_ix (i_lst (ia_cons (i_add (i_var 2) i_str G) (ia_cons (i_add i_str (i_var 2) G) (ia_cons i_str ia_nil)))) (i_mod (i_int1 (i_var 6) A.g_int) i_int) G))) is_nil))
    (ist_cons (ist_if (it_eq (i_var 4) i_int G) (ist_one (ist_ret (it_repl (i_var 2)))) ist_nil)
    (ist_one (ist_of (is_ret (i_join G i_str (i_var 3))))))))))))))))))))))
theorem sc15 : FnScope N15 P15 (defScope S15) := ⟨rfl, rfl, rfl, by decide +kernel, rfl, by decide +kernel, by decide +kernel⟩
theorem ok15 (A : Ax P K mg) (ks : Ks P w K mg base (2 * n + 2) C) : FnOk P w K mg base (L2.CX P w) (2 * n + 2 + 1 + 1) (AD15 K) (fdE K (AD15 K)) P15 (spI (tab K) 1 (fnM true 3 1 (M15 C))) := by
  refine fn_ok (T := tab K) A.f15 sc15 rfl rfl fun cdv A0 outer s H E G => ?_
  exact (is_cons (is_try G (fun _ _ _ G => (is_one (is_set 1 G (i_scall ks.k4 (Nat.le_succ _) G A.gc_0 A.st_0_read A.b4 .nil .nil (ia_cons (i_var 0) ia_nil)))))
    (ih_as (isx_ok A) (.own 1) 2 G (.inl A.gc_1) (fun _ G => (is_cons (is_if (it_w (iw_or (it_tru G (i_isx (isx_ok A) G (i_var 2) (i_cls (c := 2) A.gc_2) A.g_isinstance)) (iw_or (it_tru G (i_isx (isx_ok A) G (i_var 2) (i_cls (c := 5) A.gc_5) A.g_isinstance)) (iw_or1 (it_tru G (i_isx (isx_ok A) G (i_var 2) (i_cls (c := 3) A.gc_3) A.g_isinstance)))))) (is_one (is_ret (i_lst (ia_cons i_str ia_nil)))) is_nil)
    (is_cons (is_if (it_w (iw_and (it_tru G (i_isx (isx_ok A) G (i_var 2) (i_cls (c := 4) A.gc_4) A.g_isinstance)) (iw_and1 (it_tru G (i_isx (isx_ok A) G (i_var 2) (i_bty .verr A.g_ValueError (by decide +kernel)) A.g_isinstance))))) (is_one (is_ret (i_lst (ia_cons i_str (ia_cons (i_xfld (fx_ok_line A) G (i_var 2)) ia_nil))))) is_nil)
    (is_one (is_ret (i_lst (ia_cons i_str ia_nil))))))) (ih_nil G)))
    (is_one (is_ret (i_call ks.k10 (Nat.le_succ _) G A.gf_10 A.b10 .nil .nil (ia_cons (i_var 1) ia_nil)))))
theorem sc16 : FnScope N16 P16 (defScope S16) := ⟨rfl, rfl, rfl, by decide +kernel, rfl, by decide +kernel, by decide +kernel⟩
theorem ok16 (A : Ax P K mg) (ks : Ks P w K mg base (2 * n + 2) C) : FnOk P w K mg base (L2.CX P w) (2 * n + 2 + 1 + 1) (AD16 K) (fdE K (AD16 K)) P16 (spI (tab K) 1 (fnM true 10 1 (M16 C))) := by
  refine fn_ok (T := tab K) A.f16 sc16 rfl rfl fun cdv A0 outer s H E G => ?_
  exact (is_cons (is_set 1 G (i_call ks.k6 (Nat.le_succ _) G A.gf_6 A.b6 .nil .nil (ia_cons (i_var 0) ia_nil)))
    (is_cons (is_set 2 G (i_lstC (ia_cons i_int ia_nil)))
    (is_cons (is_set 3 G (i_lst (ia_cons i_str (ia_cons i_str (ia_cons i_str (ia_cons i_str ia_nil))))))
    (is_cons (is_for G (ii_range1 i_int A.g_range) (ig_name 4 G) (is_cons (is_set 5 G (i_lst (ia_cons (i_call ks.k7 (Nat.le_succ _) G A.gf_7 A.b7 .nil .nil (ia_cons (i_var 1) (ia_cons (i_var 2) (ia_cons i_int ia_nil)))) (ia_cons (i_call ks.k7 (Nat.le_succ _) G A.gf_7 A.b7 .nil .nil (ia_cons (i_var 1) (ia_cons (i_var 2) (ia_cons i_int ia_nil)))) (ia_cons (i_call ks.k7 (Nat.le_succ _) G A.gf_7 A.b7 .nil .nil (ia_cons (i_var 1) (ia_cons (i_var 2) (ia_cons i_int ia_nil)))) (ia_cons (i_eq (i_call ks.k7 (Nat.le_succ _) G A.gf_7 A.b7 .nil .nil (ia_cons (i_var 1) (ia_cons (i_var 2) (ia_cons i_int ia_nil)))) i_int G) ia_nil))))))
    (is_cons (is_set 6 G (i_frzT (i_makeK 0 A.mk_0 ks.k1 (Nat.le_refl _) G A.gc_0 (j := 3) A.bk1_4_early (fun _ _ _ => rfl) (fun _ _ _ _ => rfl) (fun _ _ _ => rfl) (gW := fun xs ys => xs ++ ys) (fun _ _ _ _ _ r1 r2 => r1.append r2) (ia_cons (i_ix (i_var 3) (i_ix (i_var 5) i_int G) G) (ia_cons (i_ix (i_var 3) (i_ix (i_var 5) i_int G) G) (ia_cons (i_ix (i_var 3) (i_ix (i_var 5) i_int G) G) ia_nil))) (ik_cons (i_ix (i_var 5) i_int G) ik_nil))))
    (is_cons (is_set 7 G (i_strO 0 ks.k3 (Nat.le_refl _) G rfl A.b3 A.sp_0_str A.fn_3 (i_var 6) A.g_str))
    (is_cons (is_if (it_not (it_tru G (i_call ks.k8 (Nat.le_succ _) G A.gf_8 A.b8 .nil .nil (ia_cons (i_var 7) (ia_cons (i_call ks.k12 (Nat.le_succ _) G A.gf_12 A.b12 .nil .nil (ia_cons (i_call ks.k9 (Nat.le_succ _) G A.gf_9 A.b9 .nil .nil (ia_cons (i_var 5) ia_nil)) ia_nil)) ia_nil))))) (is_one (is_ret i_bl)) is_nil)
    (is_cons (is_if (it_not (it_tru G (i_call ks.k8 (Nat.le_succ _) G A.gf_8 A.b8 .nil .nil (ia_cons (i_cmpO (op := .Eq) 0 ks.k2 (Nat.le_succ _) G rfl (A.b2) A.sp_0_eq A.fn_2 (fun _ _ => rfl) (nomark _) (i_scall ks.k4 (Nat.le_succ _) G A.gc_0 A.st_0_read A.b4 .nil .nil (ia_cons (i_var 7) ia_nil)) (i_var 6)) (ia_cons i_bl ia_nil))))) (is_one (is_ret i_bl)) is_nil)
    (is_cons (is_set 8 G (i_call ks.k12 (Nat.le_succ _) G A.gf_12 A.b12 .nil .nil (ia_cons (i_var 5) ia_nil)))
    (is_cons (is_if (it_not (it_tru G (i_call ks.k8 (Nat.le_succ _) G A.gf_8 A.b8 .nil .nil (ia_cons (i_call ks.k15 (Nat.le_succ _) G A.gf_15 A.b15 .nil .nil (ia_cons (i_var 8) ia_nil)) (ia_cons (i_call ks.k11 (Nat.le_succ _) G A.gf_11 A.b11 .nil .nil (ia_cons (i_call ks.k9 (Nat.le_succ _) G A.gf_9 A.b9 .nil .nil (ia_cons (i_var 5) ia_nil)) ia_nil)) ia_nil))))) (is_one (is_ret i_bl)) is_nil)
    (is_cons (is_set 9 G (i_call ks.k14 (Nat.le_succ _) G A.gf_14 A.b14 .nil .nil (ia_cons (i_var 1) (ia_cons (i_var 2) (ia_cons (i_var 8) ia_nil)))))
    (is_cons (is_if (it_not (it_tru G (i_call ks.k8 (Nat.le_succ _) G A.gf_8 A.b8 .nil .nil (ia_cons (i_call ks.k15 (Nat.le_succ _) G A.gf_15 A.b15 .nil .nil (ia_cons (i_var 9) ia_nil)) (ia_cons (i_call ks.k13 (Nat.le_succ _) G A.gf_13 A.b13 .nil .nil (ia_cons (i_var 9) ia_nil)) ia_nil))))) (is_one (is_ret i_bl)) is_nil)
    (is_one (is_if (it_not (it_tru G (i_call ks.k8 (Nat.le_succ _) G A.gf_8 A.b8 .nil .nil (ia_cons (i_call ks.k15 (Nat.le_succ _) G A.gf_15 A.b15 .nil .nil (ia_cons (i_var 7) ia_nil)) (ia_cons (i_call ks.k11 (Nat.le_succ _) G A.gf_11 A.b11 .nil .nil (ia_cons (i_call ks.k9 (Nat.le_succ _) G A.gf_9 A.b9 .nil .nil (ia_cons (i_var 5) ia_nil)) ia_nil)) ia_nil))))) (is_one (is_ret i_bl)) is_nil))))))))))))
    (is_one (is_ret i_bl))))))
theorem ks_all (A : Ax P K mg) : ∀ n, Ks P w K mg base (2 * n + 2) (call n)
  | 0 => ⟨kn_zero A.f0.kp, kn_zero A.f1.kp, kn_zero A.f2.kp, kn_zero A.f3.kp, kn_zero A.f4.kp, kn_zero A.f5.kp, kn_zero A.f6.kp, kn_zero A.f7.kp, kn_zero A.f8.kp, kn_zero A.f9.kp, kn_zero A.f10.kp, kn_zero A.f11.kp, kn_zero A.f12.kp, kn_zero A.f13.kp, kn_zero A.f14.kp, kn_zero A.f15.kp, kn_zero A.f16.kp⟩
  | n + 1 => ⟨⟨ok0 A (ks_all A n), fnM_arity, A.f0.kp⟩, ⟨ok1 A (ks_all A n), fnM_arity, A.f1.kp⟩, ⟨ok2 A (ks_all A n), fnM_arity, A.f2.kp⟩, ⟨ok3 A (ks_all A n), fnM_arity, A.f3.kp⟩, ⟨ok4 A (ks_all A n), fnM_arity, A.f4.kp⟩, ⟨ok5 A (ks_all A n), fnM_arity, A.f5.kp⟩, ⟨ok6 A (ks_all A n), fnM_arity, A.f6.kp⟩, ⟨ok7 A (ks_all A n), fnM_arity, A.f7.kp⟩, ⟨ok8 A (ks_all A n), fnM_arity, A.f8.kp⟩, ⟨ok9 A (ks_all A n), fnM_arity, A.f9.kp⟩, ⟨ok10 A (ks_all A n), fnM_arity, A.f10.kp⟩, ⟨ok11 A (ks_all A n), fnM_arity, A.f11.kp⟩, ⟨ok12 A (ks_all A n), fnM_arity, A.f12.kp⟩, ⟨ok13 A (ks_all A n), fnM_arity, A.f13.kp⟩, ⟨ok14 A (ks_all A n), fnM_arity, A.f14.kp⟩, ⟨ok15 A (ks_all A n), fnM_arity, A.f15.kp⟩, ⟨ok16 A (ks_all A n), fnM_arity, A.f16.kp⟩⟩
end
abbrev R : PySem.W.OpenRow := PySem.W.OpenLaw.row PySem.Challenge.rw_finerlocks_k07_way_texts
theorem ax_of {K : PySem.W.Frag} {mg : Str → Option Value} {h0 : Heap} (X0 : K.In h0) (G0 : h0.Ns mainGlobals mg) (c : FySays R.prog.main.file facts fn fns_ K) : Ax R.prog K mg := by
  have c0 : ((He.Fa.free "ValueError").ok K) = true := c.fact 0 rfl
  have c1 : ((He.Fa.free "bool").ok K) = true := c.fact 1 rfl
  have c2 : ((He.Fa.free "enumerate").ok K) = true := c.fact 2 rfl
  have c3 : ((He.Fa.free "int").ok K) = true := c.fact 3 rfl
  have c4 : ((He.Fa.free "isinstance").ok K) = true := c.fact 4 rfl
  have c5 : ((He.Fa.free "len").ok K) = true := c.fact 5 rfl
  have c6 : ((He.Fa.free "list").ok K) = true := c.fact 6 rfl
  have c7 : ((He.Fa.free "range").ok K) = true := c.fact 7 rfl
  have c8 : ((He.Fa.free "str").ok K) = true := c.fact 8 rfl
  have c9 : ((He.Fa.free "tuple").ok K) = true := c.fact 9 rfl
  have c10 : ((He.Fa.glo "rank").ok K) = true := c.fact 10 rfl
  have c11 : ((He.Fa.glo "way_of").ok K) = true := c.fact 11 rfl
  have c12 : ((He.Fa.glo "_law_draws").ok K) = true := c.fact 12 rfl
  have c13 : ((He.Fa.glo "_law_take").ok K) = true := c.fact 13 rfl
  have c14 : ((He.Fa.glo "_law_same").ok K) = true := c.fact 14 rfl
  have c15 : ((He.Fa.glo "_law_adjusted").ok K) = true := c.fact 15 rfl
  have c16 : ((He.Fa.glo "_law_fields").ok K) = true := c.fact 16 rfl
  have c17 : ((He.Fa.glo "_law_words").ok K) = true := c.fact 17 rfl
  have c18 : ((He.Fa.glo "_law_form").ok K) = true := c.fact 18 rfl
  have c19 : ((He.Fa.glo "_law_due").ok K) = true := c.fact 19 rfl
  have c20 : ((He.Fa.glo "_law_changed").ok K) = true := c.fact 20 rfl
  have c21 : ((He.Fa.glo "_law_told").ok K) = true := c.fact 21 rfl
  have c22 : ((He.Fa.glo "law").ok K) = true := c.fact 22 rfl
  have c23 : ((He.Fa.glo "Way").ok K) = true := c.fact 23 rfl
  have c24 : ((He.Fa.cls "Way").ok K) = true := c.fact 24 rfl
  have c25 : ((He.Fa.noat "Way" "early").ok K) = true := c.fact 25 rfl
  have c26 : ((He.Fa.noat "Way" "held").ok K) = true := c.fact 26 rfl
  have c27 : ((He.Fa.noat "Way" "owned").ok K) = true := c.fact 27 rfl
  have c28 : ((He.Fa.noat "Way" "seen").ok K) = true := c.fact 28 rfl
  have c29 : ((He.Fa.mkr "Way").ok K) = true := c.fact 29 rfl
  have c30 : (cstB K (He.ga K "Way") (AD4 K) (.type "type") "read") = true := c.fact 30 rfl
  have c31 : (He.eqO (PySem.W.findIn K (.ref (He.ga K "Way")) "__eq__") (some (some (.ref (AD2 K))))) = true := c.fact 31 rfl
  have c32 : (He.eqO (PySem.W.findIn K (.ref (He.ga K "Way")) "__str__") (some (some (.ref (AD3 K))))) = true := c.fact 32 rfl
  have c33 : (PySem.W.isFn K (.ref (AD2 K))) = true := c.fact 33 rfl
  have c34 : (PySem.W.isFn K (.ref (AD3 K))) = true := c.fact 34 rfl
  have c35 : ((He.Fa.glo "LEVELS").ok K) = true := c.fact 35 rfl
  have c36 : (He.tupB K "LEVELS" [.str "none", .str "one", .str "most", .str "all"]) = true := c.fact 36 rfl
  have c37 : (insB K (He.ga K "Way")) = true := c.fact 37 rfl
  have c38 : ((He.Fa.free "super").ok K) = true := c.fact 38 rfl
  have c39 : ((He.Fa.glo "BadLevel").ok K) = true := c.fact 39 rfl
  have c40 : ((He.Fa.glo "BadText").ok K) = true := c.fact 40 rfl
  have c41 : ((He.Fa.glo "Refused").ok K) = true := c.fact 41 rfl
  have c42 : ((He.Fa.glo "UnknownMark").ok K) = true := c.fact 42 rfl
  have c43 : ((He.Fa.glo "WebError").ok K) = true := c.fact 43 rfl
  have c44 : (xcB K (He.ga K "BadLevel")) = true := c.fact 44 rfl
  have c45 : (xcB K (He.ga K "BadText")) = true := c.fact 45 rfl
  have c46 : (xcB K (He.ga K "Refused")) = true := c.fact 46 rfl
  have c47 : (xcB K (He.ga K "UnknownMark")) = true := c.fact 47 rfl
  have c48 : (xcB K (He.ga K "WebError")) = true := c.fact 48 rfl
  have c49 : (He.eqO (PySem.W.findIn K (.ref (He.ga K "BadText")) "line") (some none)) = true := c.fact 49 rfl
  have c50 : (xmB K (He.ga K "BadLevel") (He.ga K "BadLevel") (AX2 K) ["level"]) = true := c.fact 50 rfl
  have c51 : (xmB K (He.ga K "BadText") (He.ga K "BadText") (AX4 K) ["line"]) = true := c.fact 51 rfl
  have c52 : (isxL.all fun q => decide (PySem.W.kitOne K (.ref ((tab K).ca q.1)) (q.2.1.val (tab K)) = some q.2.2)) = true := c.fact 52 rfl
  have c53 : (isxL.all fun q => decide (PySem.W.exmOne K (.ref ((tab K).ca q.1)) (q.2.1.val (tab K)) = some q.2.2)) = true := c.fact 53 rfl
  have c54 : (kitL.all fun q => decide (PySem.W.kitOne K (q.1.val (tab K)) (q.2.1.val (tab K)) = some q.2.2)) = true := c.fact 54 rfl
  have e_g_ValueError : mg "ValueError" = none := (fun h => He.free_ok X0 G0 h) c0
  have e_g_bool : mg "bool" = none := (fun h => He.free_ok X0 G0 h) c1
  have e_g_enumerate : mg "enumerate" = none := (fun h => He.free_ok X0 G0 h) c2
  have e_g_int : mg "int" = none := (fun h => He.free_ok X0 G0 h) c3
  have e_g_isinstance : mg "isinstance" = none := (fun h => He.free_ok X0 G0 h) c4
  have e_g_len : mg "len" = none := (fun h => He.free_ok X0 G0 h) c5
  have e_g_list : mg "list" = none := (fun h => He.free_ok X0 G0 h) c6
  have e_g_range : mg "range" = none := (fun h => He.free_ok X0 G0 h) c7
  have e_g_str : mg "str" = none := (fun h => He.free_ok X0 G0 h) c8
  have e_g_tuple : mg "tuple" = none := (fun h => He.free_ok X0 G0 h) c9
  have e_gf_0 : mg "rank" = some (.ref (AD0 K)) := (fun h => He.glo_ok X0 G0 h) c10
  have e_gf_5 : mg "way_of" = some (.ref (AD5 K)) := (fun h => He.glo_ok X0 G0 h) c11
  have e_gf_6 : mg "_law_draws" = some (.ref (AD6 K)) := (fun h => He.glo_ok X0 G0 h) c12
  have e_gf_7 : mg "_law_take" = some (.ref (AD7 K)) := (fun h => He.glo_ok X0 G0 h) c13
  have e_gf_8 : mg "_law_same" = some (.ref (AD8 K)) := (fun h => He.glo_ok X0 G0 h) c14
  have e_gf_9 : mg "_law_adjusted" = some (.ref (AD9 K)) := (fun h => He.glo_ok X0 G0 h) c15
  have e_gf_10 : mg "_law_fields" = some (.ref (AD10 K)) := (fun h => He.glo_ok X0 G0 h) c16
  have e_gf_11 : mg "_law_words" = some (.ref (AD11 K)) := (fun h => He.glo_ok X0 G0 h) c17
  have e_gf_12 : mg "_law_form" = some (.ref (AD12 K)) := (fun h => He.glo_ok X0 G0 h) c18
  have e_gf_13 : mg "_law_due" = some (.ref (AD13 K)) := (fun h => He.glo_ok X0 G0 h) c19
  have e_gf_14 : mg "_law_changed" = some (.ref (AD14 K)) := (fun h => He.glo_ok X0 G0 h) c20
  have e_gf_15 : mg "_law_told" = some (.ref (AD15 K)) := (fun h => He.glo_ok X0 G0 h) c21
  have e_gf_16 : mg "law" = some (.ref (AD16 K)) := (fun h => He.glo_ok X0 G0 h) c22
  have e_gc_0 : mg "Way" = some (.ref ((tab K).ca 0)) := (fun h => He.glo_ok X0 G0 h) c23
  have e_cl_0 : Cls K ((tab K).ca 0) := (fun h => He.cls_ok h) c24
  have e_na_0_early : NoAttr K ((tab K).ca 0) "early" := (fun h => He.noat_ok h) c25
  have e_na_0_held : NoAttr K ((tab K).ca 0) "held" := (fun h => He.noat_ok h) c26
  have e_na_0_owned : NoAttr K ((tab K).ca 0) "owned" := (fun h => He.noat_ok h) c27
  have e_na_0_seen : NoAttr K ((tab K).ca 0) "seen" := (fun h => He.noat_ok h) c28
  have e_mk_0 : Mk K ((tab K).ca 0) (AD1 K) := (fun h => He.mkr_ok h) c29
  have e_st_0_read : CSt K ((tab K).ca 0) (.type "type") "read" (AD4 K) := (fun h => cstB_ok h) c30
  have e_sp_0_eq : PySem.W.findIn K (.ref ((tab K).ca 0)) "__eq__" = some (some (.ref (AD2 K))) := (fun h => He.eqO_ok h) c31
  have e_sp_0_str : PySem.W.findIn K (.ref ((tab K).ca 0)) "__str__" = some (some (.ref (AD3 K))) := (fun h => He.eqO_ok h) c32
  have e_fn_2 : PySem.W.isFn K (.ref (AD2 K)) = true := (fun h => h) c33
  have e_fn_3 : PySem.W.isFn K (.ref (AD3 K)) = true := (fun h => h) c34
  have e_m_LEVELS : mg "LEVELS" = some (.ref (He.ga K "LEVELS")) := (fun h => He.glo_ok X0 G0 h) c35
  have e_k_LEVELS : KV (tab K) (.tup [(.str "none"), (.str "one"), (.str "most"), (.str "all")]) (.ref (He.ga K "LEVELS")) := (fun h => .tup rfl (ktp_of (He.tupB_ok h _)) (.cons .str (.cons .str (.cons .str (.cons .str .nil))))) c36
  have e_in_0 : InsF (tab K) 0 := (fun h => insB_ok (e_cl_0) h) c37
  have e_g_super : mg "super" = none := (fun h => He.free_ok X0 G0 h) c38
  have e_gc_2 : mg "BadLevel" = some (.ref ((tab K).ca 2)) := (fun h => He.glo_ok X0 G0 h) c39
  have e_gc_4 : mg "BadText" = some (.ref ((tab K).ca 4)) := (fun h => He.glo_ok X0 G0 h) c40
  have e_gc_5 : mg "Refused" = some (.ref ((tab K).ca 5)) := (fun h => He.glo_ok X0 G0 h) c41
  have e_gc_3 : mg "UnknownMark" = some (.ref ((tab K).ca 3)) := (fun h => He.glo_ok X0 G0 h) c42
  have e_gc_1 : mg "WebError" = some (.ref ((tab K).ca 1)) := (fun h => He.glo_ok X0 G0 h) c43
  have e_xc_2 : XcC K ((tab K).ca 2) := (fun h => xcB_ok h) c44
  have e_xc_4 : XcC K ((tab K).ca 4) := (fun h => xcB_ok h) c45
  have e_xc_5 : XcC K ((tab K).ca 5) := (fun h => xcB_ok h) c46
  have e_xc_3 : XcC K ((tab K).ca 3) := (fun h => xcB_ok h) c47
  have e_xc_1 : XcC K ((tab K).ca 1) := (fun h => xcB_ok h) c48
  have e_nx_4_line : PySem.W.findIn K (.ref ((tab K).ca 4)) "line" = some none := (fun h => He.eqO_ok h) c49
  have e_xm_2 : XmC (tab K) 2 (He.ga K "BadLevel") (AX2 K) ["level"] := (fun h => xmB_ok (c := 2) rfl e_xc_2 rfl h) c50
  have e_xm_4 : XmC (tab K) 4 (He.ga K "BadText") (AX4 K) ["line"] := (fun h => xmB_ok (c := 4) rfl e_xc_4 rfl h) c51
  have e_kix : ∀ q ∈ isxL, PySem.W.kitOne K (.ref ((tab K).ca q.1)) (q.2.1.val (tab K)) = some q.2.2 := (fun h => fun q hq => of_decide_eq_true (List.all_eq_true.mp h q hq)) c52
  have e_exx : ∀ q ∈ isxL, PySem.W.exmOne K (.ref ((tab K).ca q.1)) (q.2.1.val (tab K)) = some q.2.2 := (fun h => fun q hq => of_decide_eq_true (List.all_eq_true.mp h q hq)) c53
  have e_kit : ∀ q ∈ kitL, PySem.W.kitOne K (q.1.val (tab K)) (q.2.1.val (tab K)) = some q.2.2 := (fun h => fun q hq => of_decide_eq_true (List.all_eq_true.mp h q hq)) c54
  exact ⟨e_g_ValueError, e_g_bool, e_g_enumerate, e_g_int, e_g_isinstance, e_g_len, e_g_list, e_g_range, e_g_str, e_g_tuple, e_gf_0, e_gf_5, e_gf_6, e_gf_7, e_gf_8, e_gf_9, e_gf_10, e_gf_11, e_gf_12, e_gf_13, e_gf_14, e_gf_15, e_gf_16, e_gc_0, e_cl_0, e_na_0_early, e_na_0_held, e_na_0_owned, e_na_0_seen, e_mk_0, e_st_0_read, e_sp_0_eq, e_sp_0_str, e_fn_2, e_fn_3, e_m_LEVELS, e_k_LEVELS, e_in_0, e_g_super, e_gc_2, e_gc_4, e_gc_5, e_gc_3, e_gc_1, e_xc_2, e_xc_4, e_xc_5, e_xc_3, e_xc_1, e_nx_4_line, e_xm_2, e_xm_4, e_kix, e_exx, e_kit, fdOf_ok (c.def_ 0 rfl), fdOf_ok (c.def_ 1 rfl), fdOf_ok (c.def_ 2 rfl), fdOf_ok (c.def_ 3 rfl), fdOf_ok (c.def_ 4 rfl), fdOf_ok (c.def_ 5 rfl), fdOf_ok (c.def_ 6 rfl), fdOf_ok (c.def_ 7 rfl), fdOf_ok (c.def_ 8 rfl), fdOf_ok (c.def_ 9 rfl), fdOf_ok (c.def_ 10 rfl), fdOf_ok (c.def_ 11 rfl), fdOf_ok (c.def_ 12 rfl), fdOf_ok (c.def_ 13 rfl), fdOf_ok (c.def_ 14 rfl), fdOf_ok (c.def_ 15 rfl), fdOf_ok (c.def_ 16 rfl), c.sup_ (P := R.prog) 0 rfl, c.sup_ (P := R.prog) 1 rfl, by kernel_rfl⟩
def loose : List Str := (["_wall", "WebError", "BadLevel", "UnknownMark", "BadText", "Refused", "LEVELS", "rank", "higher", "lesser", "Way", "way_of", "_law_draws", "_law_take", "_law_same", "_law_adjusted", "_law_fields", "_law_words", "_law_form", "_law_due", "_law_changed", "_law_told"] : List Str)
abbrev hk : PySem.W.Hook := hookY 5 R.prog.main.file facts fn fns_
def ob (s : PySem.W.SharedT) : He.AlD := obsYG 5 R.prog.main.file facts fn fns_ (HandSHeadRun.getT s)
theorem ob_eq (s : PySem.W.SharedT) : ob s = hk.obs s.abs := obsYG_eq (HandSHeadRun.getT_eq s)
theorem run (w : World) : HandSHeadRun.RunEq R (PySem.W.view R.prog [26]) hk ob 6000 loose w := by
  intro os
  kernel_rfl
theorem facts_of {w : World} {K : PySem.W.Frag} {h0 : Heap} {mg : Str → Option Value} {f : Addr} (X0 : K.In h0) (G0 : h0.Ns mainGlobals mg) (hfa : mg ("law" : Str) = some (.ref f)) (c : FySays R.prog.main.file facts fn fns_ K) :
    ∃ fd : FuncData, (∀ (s : Shared) (v : Value), BindsTo s fd ⟨[v], []⟩ [("script", v)]) ∧ ∀ base : Heap, K.In base → base.Ns mainGlobals mg → FnOk R.prog w K mg base (L2.CX R.prog w) (2 * 12 + 2) f fd ["script"] (spI (tab K) 1 (call 12 16)) := by
  have A := ax_of X0 G0 c
  have e := hfa.symm.trans A.gf_16
  cases e
  exact ⟨_, fun s v => A.f16.bindsA (ps := ["script"]) (fun _ _ _ _ _ _ us hl => match us, hl with | [_], _ => rfl) s [v] rfl, fun base _ _ => (ks_all A 12).k16.ok⟩
end K07
open PySem PySem.W PySem.Calls PyProof.Rows
theorem K07.holds_of (hv : ∀ ns : List Int, ns.length ≤ 63 → ∃ h, K07.call 12 16 [.scr (ns.map .int)] [] = .ok (.bl true) h) : PySem.Challenge.rw_finerlocks_k07_way_texts.Holds := by
  w_on; o_law
  refine HandSHeadRun.head_any (r := OpenLaw.row PySem.Challenge.rw_finerlocks_k07_way_texts) (q := view (OpenLaw.row PySem.Challenge.rw_finerlocks_k07_way_texts).prog [26]) (H := K07.hk) (ob := K07.ob) (M := 6000) (loose := K07.loose) (d := HandSHeadRun.topDef (OpenLaw.row PySem.Challenge.rw_finerlocks_k07_way_texts).prog 26) (kwd := []) K07.ob_eq
    (by kernel_rfl) (fun s => by kernel_rfl) K07.run (by kernel_rfl) (by kernel_rfl) (by kernel_rfl) (by rfl) (by first | assumption | decide +kernel) (by decide +kernel) ⟨rfl, rfl, rfl, rfl, rfl, by decide +kernel⟩ ?hw ?hc
  case hw => w_witness2
  case hc =>
    refine L2.walk_ofE (l := PySem.Challenge.rw_finerlocks_k07_way_texts) (n := 63) (k := 2 * 12 + 2) (x := "script") (CX := Fz.CXe (PySem.Challenge.rw_finerlocks_k07_way_texts).prog) rfl (by decide) (by kernel_rfl) ⟨rfl, by decide, by decide⟩ ?F (fun _ _ _ _ z => Fz.cxe_no z)
    intro w mg fa h Y G hmg0
    obtain ⟨K, KX, c⟩ := Y
    have hmg : mg ("law" : PySem.Str) = some (.ref fa) := by
      have e : (HandSHeadRun.topDef (OpenLaw.row PySem.Challenge.rw_finerlocks_k07_way_texts).prog 26).name = ("law" : PySem.Str) := by kernel_rfl
      rw [← e]
      exact hmg0
    obtain ⟨fd, hb, hF⟩ := K07.facts_of (w := w) KX G hmg c
    exact ⟨K, fd, _, KX, hb, fun H a ns hl _ hS => Fz.law_sp hv hl hS, fun base h1 h2 => Fz.fn_cx (hF base h1 h2) fun _ _ _ _ _ _ z => ⟨w, z⟩⟩


namespace K07
open PySem PySem.Spec PyProof.Rows L2 Fz TL
theorem take_ok {n : Nat} {ds : List Int} {k j : Nat} {size : Int} {h : List Cell} (hj : h[j]? = some (.lst [.int (k : Int)])) (hs : 0 < size) :
    call (n + 1) 7 [.lst (ds.map .int), .loc j, .int size] h = .ok (.int (drw ds k size)) (h.set j (.lst [.int ((k : Int) + 1)])) := Fz.take_ok hj hs
theorem draws_ok (n : Nat) {ns : List Int} (hn : ns.length ≤ 63) : ∃ ds : List Int, call (n + 1) 6 [.scr (ns.map .int)] [] = .ok (.lst (ds.map .int)) [] := Fz.draws_ok hn
/-! ### ranks, words, texts -/
abbrev Rk := Nat × Nat × Nat × Bool
def b4 : List Nat := [0, 1, 2, 3]
def R128 : List Rk := b4.flatMap fun a => b4.flatMap fun b => b4.flatMap fun c => [false, true].map fun e => (a, b, c, e)
def R64 : List Rk := b4.flatMap fun a => b4.flatMap fun b => b4.map fun c => (a, b, c, false)
def lv : Nat → Str
  | 0 => mkS [110, 111, 110, 101]
  | 1 => mkS [111, 110, 101]
  | 2 => mkS [109, 111, 115, 116]
  | _ => mkS [97, 108, 108]
def rW (r : Rk) : W := .lst [.int (r.1 : Nat), .int (r.2.1 : Nat), .int (r.2.2.1 : Nat), .bl r.2.2.2]
def ws (r : Rk) : List Str := (mkS [104, 101, 108, 100]) :: lv r.1 :: (mkS [111, 119, 110, 101, 100]) :: lv r.2.1 :: (mkS [115, 101, 101, 110]) :: lv r.2.2.1 :: (if r.2.2.2 = true then [mkS [101, 97, 114, 108, 121]] else [])
def formP (r : Rk) : Str := joinS (mkS [32]) (ws r)
def adj (r : Rk) : Rk := (max r.1 r.2.1, r.2.1, max r.2.2.1 (max r.1 r.2.1), r.2.2.2)
def wordsP (r : Rk) : W := .lst [.str (lv r.1), .str (lv r.2.1), .str (lv r.2.2.1), .bl r.2.2.2]
def wayW (r : Rk) : W := .ins 0 [.str (lv r.1), .str (lv r.2.1), .str (lv r.2.2.1), .bl r.2.2.2]
abbrev cu (k : Int) : List Cell := [.lst [.int k]]
theorem told_all {k : Int} : R128.map (fun r => call 11 15 [.str (formP r)] (cu k)) = R128.map fun r => .ok (wordsP (adj r)) (cu k) := by kernel_rfl
theorem same_w {k : Int} : R128.map (fun r => call 11 8 [wordsP r, wordsP r] (cu k)) = R128.map fun r => .ok (.bl true) (cu k) := by kernel_rfl
theorem bad_same {k : Int} : call 11 8 [.lst [.str "BadText", .int 1], .lst [.str "BadText", .int 1]] (cu k) = .ok (.bl true) (cu k) := by kernel_rfl
end K07

namespace K07
open PySem PySem.Spec PyProof.Rows L2 Fz TL
theorem at_all {α β : Type} {l : List α} {f g : α → β} (h : l.map f = l.map g) {x : α} (hx : x ∈ l) : f x = g x := List.map_inj_left.mp h x hx
/-! ### way_of refuses what is no form -/
def L4 : List Str := [("none" : Str), ("one" : Str), ("most" : Str), ("all" : Str)]
theorem lv0 : lv 0 = "none" := by kernel_rfl
theorem lv1 : lv 1 = "one" := by kernel_rfl
theorem lv2 : lv 2 = "most" := by kernel_rfl
theorem lv3 : lv 3 = "all" := by kernel_rfl
theorem ws7 {i j k : Nat} : ws (i, j, k, true) = [("held" : Str), lv i, ("owned" : Str), lv j, ("seen" : Str), lv k, ("early" : Str)] := by kernel_rfl
theorem ws6 {i j k : Nat} : ws (i, j, k, false) = [("held" : Str), lv i, ("owned" : Str), lv j, ("seen" : Str), lv k] := by kernel_rfl
abbrev lvW : W := .tup [(.str "none"), (.str "one"), (.str "most"), (.str "all")]
theorem notIn_ok {x : Str} {h : List Cell} : fNotInA (.str x) lvW h = some (.bl (!decide (x ∈ L4))) := by
  have e : fNotIn (.str x) lvW h = some (.bl (!inV (.str x) [.str "none", .str "one", .str "most", .str "all"])) := rfl
  have e2 : inV (.str x) [.str "none", .str "one", .str "most", .str "all"] = decide (x ∈ L4) := by
    have q : ∀ y : Str, eqV (.str y) (.str x) = decide (x = y) := fun y => by
      show (y == x) = _
      by_cases z : x = y
      · subst z; simp
      · rw [decide_eq_false z]
        simpa using fun z2 => z (Eq.symm z2)
    simp only [inV, List.any_cons, List.any_nil, Bool.or_false, q, L4, List.mem_cons, List.not_mem_nil, or_false]
    by_cases a : x = "none" <;> by_cases b : x = "one" <;> by_cases c : x = "most" <;> by_cases d : x = "all" <;> simp [a, b, c, d]
  unfold fNotInA
  rw [e, e2]
  rfl
abbrev raiseB : MS := mRaise 4 1 (mCons (mVar 1) mNil)
abbrev B5 : MS := mIfS (mTst (mOp fNotInA (mVar 3) (mC lvW))) raiseB mSkip
theorem B5_ok {a b : Option W} {x : Str} {h : List Cell} : B5 [a, some (.int 1), b, some (.str x)] h = if x ∈ L4 then .nx [a, some (.int 1), b, some (.str x)] h else .exc 4 [.int 1] [a, some (.int 1), b, some (.str x)] h := by
  by_cases hx : x ∈ L4
  · simp only [B5, ap_ifS, ap_tst, ap_op, var_0, var_s, bind_ok, ap_c, notIn_ok, ofO_some, hx, decide_true, Bool.not_true, toS_ok, Bool.false_eq_true, if_false, if_true, ap_skip]
  · simp only [B5, ap_ifS, ap_tst, ap_op, var_0, var_s, bind_ok, ap_c, notIn_ok, ofO_some, hx, decide_false, Bool.not_false, toS_ok, if_true, if_false]
    rfl
theorem fNe_str {i j : Str} {h : List Cell} : fNe (.str i) (.str j) h = some (.bl (!decide (i = j))) := rfl
abbrev S5c : MS := mIfS (mOr (mTst (mOp fNe (mOp fIx (mVar 0) (mC (.int 0))) (mC (.str "held")))) (mOr (mTst (mOp fNe (mOp fIx (mVar 0) (mC (.int 2))) (mC (.str "owned")))) (mTst (mOp fNe (mOp fIx (mVar 0) (mC (.int 4))) (mC (.str "seen")))))) raiseB mSkip
abbrev F5 : MS := mFor (mISeq (mTup (mCons (mOp fIx (mVar 0) (mC (.int 1))) (mCons (mOp fIx (mVar 0) (mC (.int 3))) (mCons (mOp fIx (mVar 0) (mC (.int 5))) mNil))))) (mGName 3) B5
def T5 (C : Nat → Fn) : MS := mRet (mFrzT (mMakeK 0 (C 1) (fun xs ys => xs ++ ys) 3 1 (mCons (mOp fIx (mVar 0) (mC (.int 1))) (mCons (mOp fIx (mVar 0) (mC (.int 3))) (mCons (mOp fIx (mVar 0) (mC (.int 5))) mNil))) (mCons (mVar 2) mNil)))
def R5 (C : Nat → Fn) : MS := mSeq S5c (mSeq F5 (T5 C))
/-- how the words stand -/
structure Six (l : List W) (a b c d e f : Str) : Prop where
  i0 : ∀ h, fIx (.lst l) (.int 0) h = some (.str a)
  i1 : ∀ h, fIx (.lst l) (.int 1) h = some (.str b)
  i2 : ∀ h, fIx (.lst l) (.int 2) h = some (.str c)
  i3 : ∀ h, fIx (.lst l) (.int 3) h = some (.str d)
  i4 : ∀ h, fIx (.lst l) (.int 4) h = some (.str e)
  i5 : ∀ h, fIx (.lst l) (.int 5) h = some (.str f)
theorem S5c_ok {l : List W} {a b c d e f : Str} (s : Six l a b c d e f) {q : Option W} {o : Option W} {h : List Cell} :
    S5c [some (.lst l), some (.int 1), q, o] h = if a = "held" ∧ c = "owned" ∧ e = "seen" then .nx [some (.lst l), some (.int 1), q, o] h else .exc 4 [.int 1] [some (.lst l), some (.int 1), q, o] h := by
  have rz : raiseB [some (.lst l), some (.int 1), q, o] h = .exc 4 [.int 1] [some (.lst l), some (.int 1), q, o] h := rfl
  by_cases h1 : a = "held"
  · by_cases h2 : c = "owned"
    · by_cases h3 : e = "seen"
      · simp only [S5c, ap_ifS, ap_or, ap_tst, ap_op, var_0, ap_c, bind_ok, s.i0, s.i2, s.i4, ofO_some, fNe_str, h1, h2, h3, decide_true, Bool.not_true, Bool.false_eq_true, if_false, toS_ok, ap_skip, and_self, if_true]
      · simp only [S5c, ap_ifS, ap_or, ap_tst, ap_op, var_0, ap_c, bind_ok, s.i0, s.i2, s.i4, ofO_some, fNe_str, h1, h2, h3, decide_true, decide_false, Bool.not_true, Bool.not_false, Bool.false_eq_true, if_false, toS_ok, and_false, if_true, rz]
    · simp only [S5c, ap_ifS, ap_or, ap_tst, ap_op, var_0, ap_c, bind_ok, s.i0, s.i2, ofO_some, fNe_str, h1, h2, decide_true, decide_false, Bool.not_true, Bool.not_false, Bool.false_eq_true, if_false, toS_ok, false_and, and_false, if_true, rz]
  · simp only [S5c, ap_ifS, ap_or, ap_tst, ap_op, var_0, ap_c, bind_ok, s.i0, ofO_some, fNe_str, h1, decide_false, Bool.not_false, toS_ok, false_and, if_false, if_true, rz]
theorem F5_ok {l : List W} {a b c d e f : Str} (s : Six l a b c d e f) {q : Option W} {o : Option W} {h : List Cell} (n : ¬ (b ∈ L4 ∧ d ∈ L4 ∧ f ∈ L4)) :
    ∃ o', F5 [some (.lst l), some (.int 1), q, o] h = .exc 4 [.int 1] [some (.lst l), some (.int 1), q, o'] h := by
  have e0 : F5 [some (.lst l), some (.int 1), q, o] h = forW (srcSeq (.tup [.str b, .str d, .str f])) (mGName 3) B5 4 0 [some (.lst l), some (.int 1), q, o] h := by
    simp only [F5, ap_for, ap_iseq, ap_tup, ap_cons, ap_nil, ap_op, var_0, ap_c, bind_ok, s.i1, s.i3, s.i5, ofO_some, List.length_cons, List.length_nil, Nat.zero_add, Nat.reduceAdd, show (3 : Nat) ≤ sizeLine from by decide, if_true, seqLen_tup, toS_ok]
  rw [e0]
  have st : ∀ (m i : Nat) (o : Option W) (x : Str), [b, d, f][i]? = some x → forW (srcSeq (.tup [.str b, .str d, .str f])) (mGName 3) B5 (m + 1) i [some (.lst l), some (.int 1), q, o] h =
      if x ∈ L4 then forW (srcSeq (.tup [.str b, .str d, .str f])) (mGName 3) B5 m (i + 1) [some (.lst l), some (.int 1), q, some (.str x)] h else .exc 4 [.int 1] [some (.lst l), some (.int 1), q, some (.str x)] h := fun m i o x hx => by
    have hs : srcSeq (.tup [.str b, .str d, .str f]) i h = some (some (.str x)) := by
      show some ([W.str b, .str d, .str f][i]?) = _
      have : [W.str b, .str d, .str f] = [b, d, f].map .str := rfl
      rw [this, List.getElem?_map, hx]
      rfl
    conv => lhs; unfold forW
    rw [hs]
    show (match B5 [some (.lst l), some (.int 1), q, some (.str x)] h with | .nx ρ2 h2 => _ | .ct ρ2 h2 => _ | .bk ρ2 h2 => _ | r => r) = _
    rw [B5_ok]
    by_cases z : x ∈ L4
    · rw [if_pos z, if_pos z]
    · rw [if_neg z, if_neg z]
  rw [st 3 0 o b rfl]
  by_cases hb : b ∈ L4
  · rw [if_pos hb, st 2 1 _ d rfl]
    by_cases hd : d ∈ L4
    · rw [if_pos hd, st 1 2 _ f rfl]
      by_cases hf : f ∈ L4
      · exact absurd ⟨hb, hd, hf⟩ n
      · rw [if_neg hf]
        exact ⟨_, rfl⟩
    · rw [if_neg hd]
      exact ⟨_, rfl⟩
  · rw [if_neg hb]
    exact ⟨_, rfl⟩
theorem R5_bad {C : Nat → Fn} {l : List W} {a b c d e f : Str} (s : Six l a b c d e f) {q o : Option W} {h : List Cell} (n : ¬ (a = "held" ∧ c = "owned" ∧ e = "seen" ∧ b ∈ L4 ∧ d ∈ L4 ∧ f ∈ L4)) :
    ∃ o', R5 C [some (.lst l), some (.int 1), q, o] h = .exc 4 [.int 1] [some (.lst l), some (.int 1), q, o'] h := by
  unfold R5
  rw [ap_seq, S5c_ok s]
  by_cases z : a = "held" ∧ c = "owned" ∧ e = "seen"
  · rw [if_pos z, thn_nx, ap_seq]
    obtain ⟨o', e⟩ := F5_ok s (q := q) (o := o) (h := h) (fun y => n ⟨z.1, z.2.1, z.2.2, y⟩)
    exact ⟨o', by rw [e, thn_exc]⟩
  · rw [if_neg z, thn_exc]
    exact ⟨o, rfl⟩
theorem mem_L4 {x : Str} (h : x ∈ L4) : ∃ i, i ∈ b4 ∧ x = lv i := by
  simp only [L4, List.mem_cons, List.not_mem_nil, or_false] at h
  rcases h with rfl | rfl | rfl | rfl
  · exact ⟨0, by decide, lv0.symm⟩
  · exact ⟨1, by decide, lv1.symm⟩
  · exact ⟨2, by decide, lv2.symm⟩
  · exact ⟨3, by decide, lv3.symm⟩
theorem mem128 {a b c : Nat} {e : Bool} (ha : a ∈ b4) (hb : b ∈ b4) (hc : c ∈ b4) : (a, b, c, e) ∈ R128 :=
  List.mem_flatMap.mpr ⟨a, ha, List.mem_flatMap.mpr ⟨b, hb, List.mem_flatMap.mpr ⟨c, hc, List.mem_map.mpr ⟨e, by cases e <;> decide, rfl⟩⟩⟩⟩
abbrev S5a : MS := mSet 2 (mAndV (mOp fEq (mCB fLen (mCons (mVar 0) mNil)) (mC (.int 7))) (mOp fEq (mOp fIx (mVar 0) (mC (.int 6))) (mC (.str "early"))))
abbrev S5b : MS := mIfS (mAnd (mTst (mOp fNe (mCB fLen (mCons (mVar 0) mNil)) (mC (.int 6)))) (mNot (mTru (mVar 2)))) raiseB mSkip
theorem way_m {C : Nat → Fn} : M5 C = mSeq S5a (mSeq S5b (R5 C)) := rfl
theorem way_bad {l : List Str} {h : List Cell} (n : ∀ r ∈ R128, l ≠ ws r) : call 9 5 [.lst (l.map .str), .int 1] h = .exc 4 [.int 1] h := by
  have key : ∃ ρ, M5 (call 8) [some (.lst (l.map .str)), some (.int 1), none, none] h = .exc 4 [.int 1] ρ h := by
    rw [way_m, ap_seq]
    by_cases h7 : l.length = 7
    · match l, h7 with
      | [a, b, c, d, e, f, g], _ =>
        have ea : S5a [some (.lst ([a, b, c, d, e, f, g].map .str)), some (.int 1), none, none] h = .nx [some (.lst ([a, b, c, d, e, f, g].map .str)), some (.int 1), some (.bl (decide (g = "early"))), none] h := rfl
        rw [ea, thn_nx, ap_seq]
        by_cases hg : g = "early"
        · subst hg
          rw [show S5b [some (.lst ([a, b, c, d, e, f, "early"].map .str)), some (.int 1), some (.bl (decide (("early" : Str) = "early"))), none] h = .nx [some (.lst ([a, b, c, d, e, f, "early"].map .str)), some (.int 1), some (.bl true), none] h from rfl, thn_nx]
          obtain ⟨o', e⟩ := R5_bad (C := call 8) (l := [a, b, c, d, e, f, "early"].map .str) (a := a) (b := b) (c := c) (d := d) (e := e) (f := f) ⟨fun _ => rfl, fun _ => rfl, fun _ => rfl, fun _ => rfl, fun _ => rfl, fun _ => rfl⟩ (q := some (.bl true)) (o := none) (h := h) fun ⟨z1, z2, z3, z4, z5, z6⟩ => by
            obtain ⟨i, hi, rfl⟩ := mem_L4 z4
            obtain ⟨j, hj, rfl⟩ := mem_L4 z5
            obtain ⟨k, hk, rfl⟩ := mem_L4 z6
            subst z1 z2 z3
            exact n (i, j, k, true) (mem128 hi hj hk) ws7.symm
          exact ⟨_, e⟩
        · rw [decide_eq_false hg]
          exact ⟨_, rfl⟩
    · by_cases h6 : l.length = 6
      · match l, h6 with
        | [a, b, c, d, e, f], _ =>
          rw [show S5a [some (.lst ([a, b, c, d, e, f].map .str)), some (.int 1), none, none] h = .nx [some (.lst ([a, b, c, d, e, f].map .str)), some (.int 1), some (.bl false), none] h from rfl, thn_nx, ap_seq,
            show S5b [some (.lst ([a, b, c, d, e, f].map .str)), some (.int 1), some (.bl false), none] h = .nx [some (.lst ([a, b, c, d, e, f].map .str)), some (.int 1), some (.bl false), none] h from rfl, thn_nx]
          obtain ⟨o', e⟩ := R5_bad (C := call 8) (l := [a, b, c, d, e, f].map .str) (a := a) (b := b) (c := c) (d := d) (e := e) (f := f) ⟨fun _ => rfl, fun _ => rfl, fun _ => rfl, fun _ => rfl, fun _ => rfl, fun _ => rfl⟩ (q := some (.bl false)) (o := none) (h := h) fun ⟨z1, z2, z3, z4, z5, z6⟩ => by
            obtain ⟨i, hi, rfl⟩ := mem_L4 z4
            obtain ⟨j, hj, rfl⟩ := mem_L4 z5
            obtain ⟨k, hk, rfl⟩ := mem_L4 z6
            subst z1 z2 z3
            exact n (i, j, k, false) (mem128 hi hj hk) ws6.symm
          exact ⟨_, e⟩
      · have e7 : decide (((l.map W.str).length : Int) = 7) = false := decide_eq_false (by rw [List.length_map]; omega)
        have e6 : decide (((l.map W.str).length : Int) = 6) = false := decide_eq_false (by rw [List.length_map]; omega)
        have ea : S5a [some (.lst (l.map .str)), some (.int 1), none, none] h = .nx [some (.lst (l.map .str)), some (.int 1), some (.bl false), none] h := by
          simp only [S5a, ap_set, mAndV, ap_op, ap_cb, ap_cons, ap_nil, var_0, bind_ok, fLen_lst, ofO_some, ap_c, fEq_int, e7, toS_ok, List.set]
        have eb : S5b [some (.lst (l.map .str)), some (.int 1), some (.bl false), none] h = .exc 4 [.int 1] [some (.lst (l.map .str)), some (.int 1), some (.bl false), none] h := by
          simp only [S5b, ap_ifS, ap_and, ap_tst, ap_op, ap_cb, ap_cons, ap_nil, var_0, var_s, bind_ok, fLen_lst, ofO_some, ap_c, fNe_int, e6, Bool.not_false, if_true, ap_not, ap_tru, truW_bl, toS_ok]
          rfl
        rw [ea, thn_nx, ap_seq, eb, thn_exc]
        exact ⟨_, rfl⟩
  obtain ⟨ρ, e⟩ := key
  rw [show call 9 5 = fnM true 4 2 (M5 (call 8)) from cl5]
  show trimR h.length (frzR (fnB 4 2 (M5 (call 8)) [.lst (l.map .str), .int 1] h)) = _
  rw [show fnB 4 2 (M5 (call 8)) [.lst (l.map .str), .int 1] h = (M5 (call 8) [some (.lst (l.map .str)), some (.int 1), none, none] h).toR from rfl, e]
  rfl
end K07

namespace K07
open PySem PySem.Spec PyProof.Rows L2 Fz TL
abbrev badW : W := .lst [.str "BadText", .int 1]
theorem split_of {t : Str} (n : ∀ r ∈ R128, t ≠ formP r) : ∀ r ∈ R128, splitS t " " ≠ ws r := fun r hr e => n r hr (by
  have h := join_split (a := t) (b := " ") (s := 32) rfl
  rw [e] at h
  exact h.symm.trans (by kernel_rfl))
theorem read_bad {t : Str} {h : List Cell} (hl : t.length ≤ 300) (n : ∀ r ∈ R128, t ≠ formP r) : call 10 4 [.str t] h = .exc 4 [.int 1] h := by
  have wb := way_bad (h := h) (split_of n)
  have sp : mSplit false (mVar 0) (mC (.str " ")) [some (.str t)] h = .ok (.lst ((splitS t " ").map .str)) h := by
    have hz : decide (t.length + 2 ≤ sizeLine) = true := decide_eq_true (Nat.le_trans (Nat.add_le_add_right hl 2) (by decide))
    show (if (!(tl (" " : Str)).isEmpty && ((" " : Str).cps.all (· < 256) && decide (t.length + 2 ≤ sizeLine))) = true then _ else _) = _
    rw [hz]
    kernel_rfl
  rw [show call 10 4 = fnM true 1 1 (M4 (call 9)) from cl4]
  have e : M4 (call 9) [some (.str t)] h = .exc 4 [.int 1] [some (.str t)] h := by
    show (mRet (mCall (call 9 5) [] (mCons (mSplit false (mVar 0) (mC (.str " "))) (mCons (mC (.int 1)) mNil)))) [some (.str t)] h = _
    simp only [ap_ret, ap_call, ap_cons, ap_nil, sp, bind_ok, ap_c, List.append_nil, wb, toS_exc]
  show trimR h.length (frzR ((M4 (call 9) [some (.str t)] h).toR)) = _
  rw [e]
  rfl
theorem told_bad {t : Str} {k : Int} (hl : t.length ≤ 300) (n : ∀ r ∈ R128, t ≠ formP r) : call 11 15 [.str t] (cu k) = .ok badW (cu k) := by
  have rb := read_bad (h := cu k) hl n
  rw [show call 11 15 = fnM true 3 1 (M15 (call 10)) from cl15]
  have e : (mSet 1 (mCall (call 10 4) [] (mCons (mVar 0) mNil))) [some (.str t), none, none] (cu k) = .exc 4 [.int 1] [some (.str t), none, none] (cu k) := by
    simp only [ap_set, ap_call, ap_cons, ap_nil, var_0, bind_ok, List.append_nil, rb, toS_exc]
  have e2 : M15 (call 10) [some (.str t), none, none] (cu k) = .rt badW (cu k) := by
    show Fz.thn (match (mSet 1 (mCall (call 10 4) [] (mCons (mVar 0) mNil))) [some (.str t), none, none] (cu k) with | .exc c vs ρ1 h1 => _ | r => _) _ = _
    rw [e]
    kernel_rfl
  show trimR (cu k).length (frzR ((M15 (call 10) [some (.str t), none, none] (cu k)).toR)) = _
  rw [e2]
  kernel_rfl
/-! ### the law's own reading -/
theorem form_ok {r : Rk} {k : Int} (hr : r ∈ R128) : call 10 12 [rW r] (cu k) = .ok (.str (formP r)) (cu k) := by
  have : R128.map (fun r => call 10 12 [rW r] (cu k)) = R128.map fun r => .ok (.str (formP r)) (cu k) := by kernel_rfl
  exact at_all this hr
theorem adj10_ok {r : Rk} {k : Int} (hr : r ∈ R128) : call 10 9 [rW r] (cu k) = .ok (rW (adj r)) (cu k) := by
  have : R128.map (fun r => call 10 9 [rW r] (cu k)) = R128.map fun r => .ok (rW (adj r)) (cu k) := by kernel_rfl
  exact at_all this hr
theorem adj_mem {r : Rk} (hr : r ∈ R128) : adj r ∈ R128 := by
  have : (R128.all fun r => decide (adj r ∈ R128)) = true := by decide +kernel
  exact of_decide_eq_true (List.all_eq_true.mp this r hr)
theorem words10_ok {r : Rk} {k : Int} (hr : r ∈ R128) : call 10 11 [rW r] (cu k) = .ok (wordsP r) (cu k) := by
  have : R128.map (fun r => call 10 11 [rW r] (cu k)) = R128.map fun r => .ok (wordsP r) (cu k) := by kernel_rfl
  exact at_all this hr
abbrev B13 : MS := mIfS (mTst (mOp fEq (mVar 0) (mCall (call 10 12) [] (mCons (mLst (mCons (mVar 1) (mCons (mVar 2) (mCons (mVar 3) (mCons (mVar 4) mNil))))) mNil)))) (mRet (mCall (call 10 11) [] (mCons (mCall (call 10 9) [] (mCons (mLst (mCons (mVar 1) (mCons (mVar 2) (mCons (mVar 3) (mCons (mVar 4) mNil))))) mNil)) mNil))) mSkip
abbrev L13d : MS := mFor (mISeq (mLst (mCons (mC (.bl false)) (mCons (mC (.bl true)) mNil)))) (mGName 4) B13
abbrev L13c : MS := mFor (mIRng1 (mCons (mC (.int 4)) mNil)) (mGName 3) L13d
abbrev L13b : MS := mFor (mIRng1 (mCons (mC (.int 4)) mNil)) (mGName 2) L13c
abbrev L13a : MS := mFor (mIRng1 (mCons (mC (.int 4)) mNil)) (mGName 1) L13b
/-- what the loops may return -/
def Fnd (t : Str) (y : W) : Prop := ∃ r, r ∈ R128 ∧ t = formP r ∧ y = wordsP (adj r)
theorem B13_ok {t : Str} {a b c : Nat} {e : Bool} {k : Int} (hr : (a, b, c, e) ∈ R128) (env : EnvW) (he : env = [some (.str t), some (.int (a : Nat)), some (.int (b : Nat)), some (.int (c : Nat)), some (.bl e)]) :
    (B13 env (cu k) = .nx env (cu k) ∧ t ≠ formP (a, b, c, e)) ∨ ∃ y, B13 env (cu k) = .rt y (cu k) ∧ Fnd t y := by
  subst he
  have e1 := form_ok (k := k) hr
  have e2 := adj10_ok (k := k) hr
  have e3 := words10_ok (k := k) (adj_mem hr)
  have e1 : call 10 12 [.lst [.int (a : Nat), .int (b : Nat), .int (c : Nat), .bl e]] (cu k) = _ := e1
  have e2 : call 10 9 [.lst [.int (a : Nat), .int (b : Nat), .int (c : Nat), .bl e]] (cu k) = _ := e2
  have sz : (4 : Nat) ≤ sizeLine := by decide
  by_cases h : t = formP (a, b, c, e)
  · refine .inr ⟨_, ?_, (a, b, c, e), hr, h, rfl⟩
    simp only [B13, ap_ifS, ap_tst, ap_op, var_0, var_s, ap_call, ap_cons, ap_nil, ap_lst, bind_ok, List.length_cons, List.length_nil, Nat.zero_add, Nat.reduceAdd, sz, if_true, List.append_nil, e1, e2, e3, fEq_str, decide_eq_true h, ofO_some, toS_ok, ap_ret]
  · refine .inl ⟨?_, h⟩
    simp only [B13, ap_ifS, ap_tst, ap_op, var_0, var_s, ap_call, ap_cons, ap_nil, ap_lst, bind_ok, List.length_cons, List.length_nil, Nat.zero_add, Nat.reduceAdd, sz, if_true, List.append_nil, e1, fEq_str, decide_eq_false h, ofO_some, toS_ok, Bool.false_eq_true, if_false, ap_skip]
theorem rng4 {ρ : EnvW} {h : List Cell} {g : MG} {b : MS} : (mFor (mIRng1 (mCons (mC (.int 4)) mNil)) g b) ρ h = forW (srcRng 0 1 4) g b 5 0 ρ h := rfl
theorem mem_b4 {i : Nat} (h : i < 4) : i ∈ b4 := by
  have : i = 0 ∨ i = 1 ∨ i = 2 ∨ i = 3 := by omega
  rcases this with rfl | rfl | rfl | rfl <;> decide
theorem L13d_ok {t : Str} {a b c : Nat} {o : Option W} {k : Int} (ha : a < 4) (hb : b < 4) (hc : c < 4) :
    (∃ o', L13d [some (.str t), some (.int (a : Nat)), some (.int (b : Nat)), some (.int (c : Nat)), o] (cu k) = .nx [some (.str t), some (.int (a : Nat)), some (.int (b : Nat)), some (.int (c : Nat)), o'] (cu k) ∧ ∀ e, t ≠ formP (a, b, c, e)) ∨
      ∃ y, L13d [some (.str t), some (.int (a : Nat)), some (.int (b : Nat)), some (.int (c : Nat)), o] (cu k) = .rt y (cu k) ∧ Fnd t y := by
  have e0 : L13d [some (.str t), some (.int (a : Nat)), some (.int (b : Nat)), some (.int (c : Nat)), o] (cu k) = forW (srcSeq (.lst [.bl false, .bl true])) (mGName 4) B13 3 0 [some (.str t), some (.int (a : Nat)), some (.int (b : Nat)), some (.int (c : Nat)), o] (cu k) := rfl
  rw [e0]
  rcases for_scan (src := srcSeq (.lst [.bl false, .bl true])) (gg := mGName 4) (body := B13) (xs := [.bl false, .bl true]) (h0 := cu k) (m := 3) (ρ := [some (.str t), some (.int (a : Nat)), some (.int (b : Nat)), some (.int (c : Nat)), o])
    (fun ρ => ∃ o, ρ = [some (.str t), some (.int (a : Nat)), some (.int (b : Nat)), some (.int (c : Nat)), o]) (fun i => t ≠ formP (a, b, c, decide (i = 1))) (Fnd t) (fun i hi => rfl) (fun i x ρ hx ⟨o, ho⟩ => by
      subst ho
      have hx2 : x = .bl (decide (i = 1)) ∧ i < 2 := by
        match i, hx with
        | 0, hx => exact ⟨(Option.some.inj hx).symm, by decide⟩
        | 1, hx => exact ⟨(Option.some.inj hx).symm, by decide⟩
      obtain ⟨rfl, hi⟩ := hx2
      refine ⟨_, rfl, ?_⟩
      rcases B13_ok (t := t) (k := k) (mem128 (e := decide (i = 1)) (mem_b4 ha) (mem_b4 hb) (mem_b4 hc)) _ rfl with ⟨z1, z2⟩ | z
      · exact .inl ⟨_, z1, ⟨_, rfl⟩, z2⟩
      · exact .inr z) (by decide) ⟨o, rfl⟩ with ⟨ρ', e, ⟨o', rfl⟩, n⟩ | h
  · exact .inl ⟨o', e, fun e => match e with
      | false => n 0 (by decide)
      | true => n 1 (by decide)⟩
  · exact .inr h
theorem L13c_ok {t : Str} {a b : Nat} {o p : Option W} {k : Int} (ha : a < 4) (hb : b < 4) :
    (∃ o' p', L13c [some (.str t), some (.int (a : Nat)), some (.int (b : Nat)), o, p] (cu k) = .nx [some (.str t), some (.int (a : Nat)), some (.int (b : Nat)), o', p'] (cu k) ∧ ∀ c, c < 4 → ∀ e, t ≠ formP (a, b, c, e)) ∨
      ∃ y, L13c [some (.str t), some (.int (a : Nat)), some (.int (b : Nat)), o, p] (cu k) = .rt y (cu k) ∧ Fnd t y := by
  rw [L13c, rng4]
  rcases for_scan (src := srcRng 0 1 4) (gg := mGName 3) (body := L13d) (xs := rngW 0 1 4) (h0 := cu k) (m := 5) (ρ := [some (.str t), some (.int (a : Nat)), some (.int (b : Nat)), o, p])
    (fun ρ => ∃ o p, ρ = [some (.str t), some (.int (a : Nat)), some (.int (b : Nat)), o, p]) (fun c => ∀ e, t ≠ formP (a, b, c, e)) (Fnd t) (fun i hi => src_rng_at hi) (fun i x ρ hx ⟨o, p, ho⟩ => by
      subst ho
      obtain ⟨hi, rfl⟩ := rngW_at hx
      refine ⟨_, rfl, ?_⟩
      rw [show (0 : Int) + (i : Nat) * 1 = (i : Nat) by omega]
      rcases L13d_ok (t := t) (k := k) (o := p) ha hb hi with ⟨o', z1, z2⟩ | z
      · exact .inl ⟨_, z1, ⟨_, _, rfl⟩, z2⟩
      · exact .inr z) (by decide) ⟨o, p, rfl⟩ with ⟨ρ', e, ⟨o', p', rfl⟩, n⟩ | h
  · exact .inl ⟨o', p', e, fun c hc => n c hc⟩
  · exact .inr h
theorem L13b_ok {t : Str} {a : Nat} {o p q : Option W} {k : Int} (ha : a < 4) :
    (∃ o' p' q', L13b [some (.str t), some (.int (a : Nat)), o, p, q] (cu k) = .nx [some (.str t), some (.int (a : Nat)), o', p', q'] (cu k) ∧ ∀ b, b < 4 → ∀ c, c < 4 → ∀ e, t ≠ formP (a, b, c, e)) ∨
      ∃ y, L13b [some (.str t), some (.int (a : Nat)), o, p, q] (cu k) = .rt y (cu k) ∧ Fnd t y := by
  rw [L13b, rng4]
  rcases for_scan (src := srcRng 0 1 4) (gg := mGName 2) (body := L13c) (xs := rngW 0 1 4) (h0 := cu k) (m := 5) (ρ := [some (.str t), some (.int (a : Nat)), o, p, q])
    (fun ρ => ∃ o p q, ρ = [some (.str t), some (.int (a : Nat)), o, p, q]) (fun b => ∀ c, c < 4 → ∀ e, t ≠ formP (a, b, c, e)) (Fnd t) (fun i hi => src_rng_at hi) (fun i x ρ hx ⟨o, p, q, ho⟩ => by
      subst ho
      obtain ⟨hi, rfl⟩ := rngW_at hx
      refine ⟨_, rfl, ?_⟩
      rw [show (0 : Int) + (i : Nat) * 1 = (i : Nat) by omega]
      rcases L13c_ok (t := t) (k := k) (o := p) (p := q) ha hi with ⟨o', p', z1, z2⟩ | z
      · exact .inl ⟨_, z1, ⟨_, _, _, rfl⟩, z2⟩
      · exact .inr z) (by decide) ⟨o, p, q, rfl⟩ with ⟨ρ', e, ⟨o', p', q', rfl⟩, n⟩ | h
  · exact .inl ⟨o', p', q', e, fun c hc => n c hc⟩
  · exact .inr h
theorem L13a_ok {t : Str} {o p q s : Option W} {k : Int} :
    (∃ o' p' q' s', L13a [some (.str t), o, p, q, s] (cu k) = .nx [some (.str t), o', p', q', s'] (cu k) ∧ ∀ a, a < 4 → ∀ b, b < 4 → ∀ c, c < 4 → ∀ e, t ≠ formP (a, b, c, e)) ∨
      ∃ y, L13a [some (.str t), o, p, q, s] (cu k) = .rt y (cu k) ∧ Fnd t y := by
  rw [L13a, rng4]
  rcases for_scan (src := srcRng 0 1 4) (gg := mGName 1) (body := L13b) (xs := rngW 0 1 4) (h0 := cu k) (m := 5) (ρ := [some (.str t), o, p, q, s])
    (fun ρ => ∃ o p q s, ρ = [some (.str t), o, p, q, s]) (fun a => ∀ b, b < 4 → ∀ c, c < 4 → ∀ e, t ≠ formP (a, b, c, e)) (Fnd t) (fun i hi => src_rng_at hi) (fun i x ρ hx ⟨o, p, q, s, ho⟩ => by
      subst ho
      obtain ⟨hi, rfl⟩ := rngW_at hx
      refine ⟨_, rfl, ?_⟩
      rw [show (0 : Int) + (i : Nat) * 1 = (i : Nat) by omega]
      rcases L13b_ok (t := t) (k := k) (o := p) (p := q) (q := s) hi with ⟨o', p', q', z1, z2⟩ | z
      · exact .inl ⟨_, z1, ⟨_, _, _, _, rfl⟩, z2⟩
      · exact .inr z) (by decide) ⟨o, p, q, s, rfl⟩ with ⟨ρ', e, ⟨o', p', q', s', rfl⟩, n⟩ | h
  · exact .inl ⟨o', p', q', s', e, fun c hc => n c hc⟩
  · exact .inr h
theorem lt_b4 {i : Nat} (h : i ∈ b4) : i < 4 := by
  simp only [b4, List.mem_cons, List.not_mem_nil, or_false] at h
  omega
theorem due_ok {t : Str} {k : Int} : ∃ y, call 11 13 [.str t] (cu k) = .ok y (cu k) ∧ ((Fnd t y) ∨ (y = badW ∧ ∀ r ∈ R128, t ≠ formP r)) := by
  have em : M13 (call 10) = mSeq L13a (mRet (mLst (mCons (mC (.str "BadText")) (mCons (mC (.int 1)) mNil)))) := rfl
  have fin : ∀ y, M13 (call 10) [some (.str t), none, none, none, none] (cu k) = .rt y (cu k) → (∃ r, y = wordsP r) ∨ y = badW → call 11 13 [.str t] (cu k) = .ok y (cu k) := fun y e hy => by
    rw [show call 11 13 = fnM true 5 1 (M13 (call 10)) from cl13]
    show trimR (cu k).length (frzR ((M13 (call 10) [some (.str t), none, none, none, none] (cu k)).toR)) = _
    rw [e]
    rcases hy with ⟨r, rfl⟩ | rfl
    · rfl
    · rfl
  rcases L13a_ok (t := t) (o := none) (p := none) (q := none) (s := none) (k := k) with ⟨o', p', q', s', e, n⟩ | ⟨y, e, f⟩
  · refine ⟨badW, fin _ ?_ (.inr rfl), .inr ⟨rfl, fun r hr => ?_⟩⟩
    · rw [em, ap_seq, e, thn_nx]
      rfl
    · obtain ⟨a, b, c, e⟩ := r
      simp only [R128, List.mem_flatMap, List.mem_map] at hr
      obtain ⟨a', ha, b', hb, c', hc, e', he, eq⟩ := hr
      cases eq
      exact n a (lt_b4 ha) b (lt_b4 hb) c (lt_b4 hc) e
  · refine ⟨y, fin _ ?_ ?_, .inl f⟩
    · rw [em, ap_seq, e, thn_rt]
    · obtain ⟨r, _, _, rfl⟩ := f
      exact .inl ⟨_, rfl⟩
/-- told and due are alike -/
theorem alike {t : Str} {k : Int} (hl : t.length ≤ 300) : ∃ y, call 11 15 [.str t] (cu k) = .ok y (cu k) ∧ call 11 13 [.str t] (cu k) = .ok y (cu k) ∧ call 11 8 [y, y] (cu k) = .ok (.bl true) (cu k) := by
  obtain ⟨y, e, h⟩ := due_ok (t := t) (k := k)
  rcases h with ⟨r, hr, rfl, rfl⟩ | ⟨rfl, n⟩
  · exact ⟨_, at_all told_all hr, e, at_all same_w (adj_mem hr)⟩
  · exact ⟨_, told_bad hl n, e, bad_same⟩
end K07

namespace K07
open PySem PySem.Spec PyProof.Rows L2 Fz TL
/-! ### the changed text -/
abbrev I1 : MS := (mIfS (mTst (mOp fEq (mVar 4) (mC (.int 1)))) (mRet (mJoin (mC (.str " ")) (mOp fAdd (mSl (mVar 3) mNoP (mPart (mVar 5))) (mSl (mVar 3) (mPart (mOp fAdd (mVar 5) (mC (.int 1)))) mNoP)))) mSkip)
abbrev I2 : MS := (mIfS (mTst (mOp fEq (mVar 4) (mC (.int 2)))) (mRet (mJoin (mC (.str " ")) (mOp fAdd (mOp fAdd (mSl (mVar 3) mNoP (mPart (mVar 5))) (mLst (mCons (mVar 8) (mCons (mVar 8) mNil)))) (mSl (mVar 3) (mPart (mOp fAdd (mVar 5) (mC (.int 1)))) mNoP)))) mSkip)
abbrev A3 : MS := (mSeq (mAsgG (mOp fIx (mVar 3) (mVar 6)) (mGSub (mVar 3) (mVar 5)))
    (mAsgG (mVar 8) (mGSub (mVar 3) (mVar 6))))
abbrev A4 : MS := (mAsgG (mT0 c56 gUp (mVar 8)) (mGSub (mVar 3) (mVar 5)))
abbrev A5 : MS := (mAsgG (mSl (mVar 8) mNoP (mPart (mOp fSubI (mCB fLen (mCons (mVar 8) mNil)) (mC (.int 1))))) (mGSub (mVar 3) (mVar 5)))
abbrev A6 (C : Nat → Fn) : MS := (mAsgG (mOp fIx (mVar 7) (mCall (C 7) [] (mCons (mVar 0) (mCons (mVar 1) (mCons (mC (.int 8)) mNil))))) (mGSub (mVar 3) (mVar 5)))
abbrev X7 : MS := mRet (mOp fAdd (mVar 2) (mC (.str " early")))
abbrev X9 : MS := mRet (mOp fIx (mLst (mCons (mOp fAdd (mC (.str " ")) (mVar 2)) (mCons (mOp fAdd (mVar 2) (mC (.str " "))) mNil))) (mOp fModI (mCB fInt (mCons (mVar 6) mNil)) (mC (.int 2))))
abbrev X10 : MS := mRet (mOp fIx (mLst (mCons (mOp fAdd (mVar 2) (mC (.str "\n"))) (mCons (mOp fAdd (mC (.str "\n")) (mVar 2)) (mCons (mC (.str "")) mNil)))) (mOp fModI (mCB fInt (mCons (mVar 6) mNil)) (mC (.int 3))))
def U10 : MS := (mSeq (mIfS (mTst (mOp fEq (mVar 4) (mC (.int 11)))) (mRet (mRepl " " "\t" (mVar 2))) mSkip)
    (mRet (mJoin (mC (.str " ")) (mVar 3))))
def U9 : MS := mSeq (mIfS (mTst (mOp fEq (mVar 4) (mC (.int 10)))) X10 mSkip) U10
def U7 : MS :=
    (mSeq (mIfS (mTst (mOp fEq (mVar 4) (mC (.int 8)))) (mRet (mOp fAdd (mOp fAdd (mJoin (mC (.str " ")) (mSl (mVar 3) mNoP (mPart (mVar 5)))) (mC (.str "  "))) (mJoin (mC (.str " ")) (mSl (mVar 3) (mPart (mVar 5)) mNoP)))) mSkip)
    (mSeq (mIfS (mTst (mOp fEq (mVar 4) (mC (.int 9)))) X9 mSkip) U9))
def U6 : MS := mSeq (mIfS (mTst (mOp fEq (mVar 4) (mC (.int 7)))) X7 mSkip) U7
def U5 (C : Nat → Fn) : MS := mSeq (mIfS (mTst (mOp fEq (mVar 4) (mC (.int 6)))) (A6 C) mSkip) U6
def U4 (C : Nat → Fn) : MS := mSeq (mIfS (mTst (mOp fEq (mVar 4) (mC (.int 5)))) A5 mSkip) (U5 C)
def U3 (C : Nat → Fn) : MS := mSeq (mIfS (mTst (mOp fEq (mVar 4) (mC (.int 4)))) A4 mSkip) (U4 C)
def T14 (C : Nat → Fn) : MS := mSeq I1 (mSeq I2 (mSeq (mIfS (mTst (mOp fEq (mVar 4) (mC (.int 3)))) A3 mSkip) (U3 C)))
abbrev menuW : W := .lst [.str "none", .str "one", .str "most", .str "all", .str "early", .str "", .str "held", .str "late"]
def J14 : MS := mRet (mJoin (mC (.str " ")) (mVar 3))
def wd (r : Rk) (p : Nat) : Str := (ws r).getD p ""
abbrev env14 (d : W) (r : Rk) (c : Int) (p : W) (o : W) (w : W) : EnvW := [some d, some (.loc 0), some (.str (formP r)), some (.loc 1), some (.int c), some p, some o, some menuW, some w]
abbrev hp14 (k : Int) (l : List Str) : List Cell := [.lst [.int k], .lst (l.map .str)]
/-- short words -/
structure Few (l : List Str) : Prop where
  len : l.length ≤ 8
  each : ∀ s ∈ l, s.length ≤ 30
theorem Few.set {l : List Str} (f : Few l) {p : Nat} {s : Str} (h : s.length ≤ 30) : Few (l.set p s) :=
  ⟨by rw [List.length_set]; exact f.len, fun z hz => (List.mem_or_eq_of_mem_set hz).elim (f.each z) fun e => by rw [e]; exact h⟩
theorem sum_le : ∀ {l : List Str}, (∀ s ∈ l, s.length ≤ 30) → sumL l ≤ 30 * l.length
  | [], _ => Nat.le_refl _
  | x :: l, h => by
    have a := h x List.mem_cons_self
    have b := sum_le (l := l) fun s hs => h s (List.mem_cons_of_mem _ hs)
    show x.length + sumL l ≤ 30 * (l.length + 1)
    omega
theorem joinL_len {S : List Nat} : ∀ l : List Str, (joinL S (l.map tl)).length ≤ sumL l + l.length * S.length
  | [] => Nat.zero_le _
  | [x] => by
    show (tl x).length ≤ x.length + 0 + 1 * S.length
    rw [len_tl]; omega
  | x :: y :: r => by
    have b := joinL_len (S := S) (y :: r)
    show (tl x ++ (S ++ joinL S ((y :: r).map tl))).length ≤ x.length + sumL (y :: r) + ((y :: r).length + 1) * S.length
    rw [List.length_append, List.length_append, len_tl x, Nat.succ_mul]
    omega
theorem strsW_map : ∀ l : List Str, strsW (l.map .str) = some l
  | [] => rfl
  | x :: l => by
    show (match strsW (l.map .str) with | some r => some (x :: r) | none => none) = _
    rw [strsW_map l]
theorem J14_ok {a b c d e f g i : Option W} {l : List Str} {k : Int} (F : Few l) : ∃ t, J14 [a, b, c, some (.loc 1), d, e, f, g, i] (hp14 k l) = .rt (.str t) (hp14 k l) ∧ t.length ≤ 300 := by
  have s1 := sum_le F.each
  have s2 := F.len
  have hz : sumL l + l.length * (" " : Str).length ≤ 16777216 := by
    rw [show (" " : Str).length = 1 from by kernel_rfl]
    omega
  refine ⟨joinS " " l, ?_, ?_⟩
  · show (mJoin (mC (.str " ")) (mVar 3) [a, b, c, some (.loc 1), d, e, f, g, i] (hp14 k l)).toS _ _ = _
    have : mJoin (mC (.str " ")) (mVar 3) [a, b, c, some (.loc 1), d, e, f, g, i] (hp14 k l) = .ok (.str (joinS " " l)) (hp14 k l) := by
      simp only [mJoin, ap_c, bind_ok, var_s, var_0]
      rw [show rdS (hp14 k l) (.loc 1) = some (l.map .str) from rfl]
      simp only [strsW_map]
      exact if_pos hz
    rw [this]
    rfl
  · have := joinL_len (S := tl " ") l
    rw [show (tl " ").length = 1 from by kernel_rfl] at this
    show (mkS (joinL (tl " ") (l.map tl))).length ≤ 300
    rw [len_tl, tl_mkS]
    omega
theorem set_map {l : List Str} {p : Nat} {s : Str} : (l.map W.str).set p (.str s) = (l.set p s).map .str := (List.map_set ..).symm
theorem ixN_at {n p : Nat} (h : p < n) : ixN n (p : Int) = some p := by
  unfold ixN
  first
  | (rw [if_neg (by omega)]; simp; omega)
  | (simp; omega)
def pr (r : RS) : Option (Cell × Bool) := match r with
  | .rt (.str t) (c :: _) => some (c, decide (t.length ≤ 300))
  | _ => none
theorem pr_ok {r : RS} {c : Cell} (h : pr r = some (c, true)) : ∃ t l, r = .rt (.str t) (c :: l) ∧ t.length ≤ 300 := by
  unfold pr at h
  split at h
  · rename_i t c' l
    simp only [Option.some.injEq, Prod.mk.injEq, decide_eq_true_eq] at h
    obtain ⟨rfl, h⟩ := h
    exact ⟨t, l, rfl, h⟩
  · cases h
def RP : List (Rk × Nat) := R128.flatMap fun r => (List.range (ws r).length).map fun p => (r, p)
theorem mem_RP {r : Rk} {p : Nat} (hr : r ∈ R128) (hp : p < (ws r).length) : (r, p) ∈ RP :=
  List.mem_flatMap.mpr ⟨r, hr, List.mem_map.mpr ⟨p, List.mem_range.mpr hp, rfl⟩⟩
section
variable {k : Int} {d p o w : W}
/-- the item at p gets the text s -/
theorem put {r : Rk} {c : Int} {o w : W} {l : List Str} {q : Nat} {s : Str} (hp : q < l.length) : mGSub (mVar 3) (mVar 5) (.str s) (env14 d r c (.int (q : Nat)) o w) (hp14 k l) = .nx (env14 d r c (.int (q : Nat)) o w) (hp14 k (l.set q s)) := by
  rw [mGSub_loc (l := l.map .str) (j := 1) (k := (q : Nat)) (t := q) rfl rfl rfl (by rw [List.length_map]; exact ixN_at hp), set_map]
  rfl
theorem put6 {r : Rk} {c : Int} {o w : W} {l : List Str} {q : Nat} {s : Str} (hp : q < l.length) : mGSub (mVar 3) (mVar 6) (.str s) (env14 d r c o (.int (q : Nat)) w) (hp14 k l) = .nx (env14 d r c o (.int (q : Nat)) w) (hp14 k (l.set q s)) := by
  rw [mGSub_loc (l := l.map .str) (j := 1) (k := (q : Nat)) (t := q) rfl rfl rfl (by rw [List.length_map]; exact ixN_at hp), set_map]
  rfl
theorem atS {l : List Str} {q : Nat} (hp : q < l.length) {h : List Cell} (e : h[1]? = some (.lst (l.map .str))) : fIx (.loc 1) (.int (q : Nat)) h = some (.str (l.getD q "")) := by
  rw [fIx_loc e]
  refine atI_natC ?_
  rw [List.getElem?_map, List.getElem?_eq_getElem hp]
  simp [List.getD, List.getElem?_eq_getElem hp]
theorem mem_getD {l : List Str} {q : Nat} (hp : q < l.length) : l.getD q "" ∈ l := by
  rw [show l.getD q "" = l[q] by simp [List.getD, List.getElem?_eq_getElem hp]]
  exact List.getElem_mem hp
theorem t3 {r : Rk} {l : List Str} {p o : Nat} (F : Few l) (hp : p < l.length) (ho : o < l.length) :
    ∃ t, T14 (call 10) (env14 d r 3 (.int (p : Nat)) (.int (o : Nat)) (.str (l.getD p ""))) (hp14 k l) = .rt (.str t) (hp14 k ((l.set p (l.getD o "")).set o (l.getD p ""))) ∧ t.length ≤ 300 := by
  have e1 : A3 (env14 d r 3 (.int (p : Nat)) (.int (o : Nat)) (.str (l.getD p ""))) (hp14 k l) = .nx (env14 d r 3 (.int (p : Nat)) (.int (o : Nat)) (.str (l.getD p ""))) (hp14 k ((l.set p (l.getD o "")).set o (l.getD p ""))) := by
    rw [A3, ap_seq, ap_asgG, ap_op]
    simp only [var_s, var_0, bind_ok]
    rw [atS ho rfl]
    simp only [ofO_some, toS_ok]
    rw [put hp, gOnly_nx, thn_nx, ap_asgG]
    simp only [var_s, var_0, toS_ok]
    rw [put6 (by rw [List.length_set]; exact ho), gOnly_nx]
  have F2 := (F.set (p := p) (F.each _ (mem_getD ho))).set (p := o) (F.each _ (mem_getD hp))
  obtain ⟨t, et, hl⟩ := J14_ok (a := some d) (b := some (.loc 0)) (c := some (.str (formP r))) (d := some (.int 3)) (e := some (.int (p : Nat))) (f := some (.int (o : Nat))) (g := some menuW) (i := some (.str (l.getD p ""))) (k := k) F2
  refine ⟨t, ?_, hl⟩
  rw [show T14 (call 10) (env14 d r 3 (.int (p : Nat)) (.int (o : Nat)) (.str (l.getD p ""))) (hp14 k l) = Fz.thn (A3 (env14 d r 3 (.int (p : Nat)) (.int (o : Nat)) (.str (l.getD p ""))) (hp14 k l)) (U3 (call 10)) from by kernel_rfl, e1, thn_nx]
  exact (show U3 (call 10) (env14 d r 3 (.int (p : Nat)) (.int (o : Nat)) (.str (l.getD p ""))) (hp14 k ((l.set p (l.getD o "")).set o (l.getD p ""))) = J14 _ _ from by kernel_rfl).trans et
theorem t4 {r : Rk} {l : List Str} {p : Nat} {o : W} {s : Str} (F : Few l) (hp : p < l.length) (hs : s.length ≤ 10) :
    ∃ t h', T14 (call 10) (env14 d r 4 (.int (p : Nat)) o (.str s)) (hp14 k l) = .rt (.str t) (.lst [.int k] :: h') ∧ t.length ≤ 300 := by
  have e1 : A4 (env14 d r 4 (.int (p : Nat)) o (.str s)) (hp14 k l) = .nx (env14 d r 4 (.int (p : Nat)) o (.str s)) (hp14 k (l.set p (Txt.upper s))) := by
    rw [A4, ap_asgG]
    rw [show mT0 c56 gUp (mVar 8) (env14 d r 4 (.int (p : Nat)) o (.str s)) (hp14 k l) = .ok (.str (Txt.upper s)) (hp14 k l) from by
      show (if c56 s = true then _ else _) = _
      rw [if_pos (show c56 s = true from decide_eq_true (Nat.le_trans hs (by decide)))]
      rfl]
    simp only [toS_ok]
    rw [put hp, gOnly_nx]
  have hu := PyProof.Rows.len_upper s
  obtain ⟨t, et, hl⟩ := J14_ok (a := some d) (b := some (.loc 0)) (c := some (.str (formP r))) (d := some (.int 4)) (e := some (.int (p : Nat))) (f := some o) (g := some menuW) (i := some (.str s)) (k := k) (F.set (p := p) (s := Txt.upper s) (by omega))
  refine ⟨t, [.lst ((l.set p (Txt.upper s)).map .str)], ?_, hl⟩
  rw [show T14 (call 10) (env14 d r 4 (.int (p : Nat)) o (.str s)) (hp14 k l) = Fz.thn (A4 (env14 d r 4 (.int (p : Nat)) o (.str s)) (hp14 k l)) (U4 (call 10)) from by kernel_rfl, e1, thn_nx]
  exact (show U4 (call 10) (env14 d r 4 (.int (p : Nat)) o (.str s)) (hp14 k (l.set p (Txt.upper s))) = J14 _ _ from by kernel_rfl).trans et
theorem t5 {r : Rk} {l : List Str} {p : Nat} {o : W} {s : Str} (F : Few l) (hp : p < l.length) (hs : s.length ≤ 10) :
    ∃ t h', T14 (call 10) (env14 d r 5 (.int (p : Nat)) o (.str s)) (hp14 k l) = .rt (.str t) (.lst [.int k] :: h') ∧ t.length ≤ 300 := by
  have e1 : A5 (env14 d r 5 (.int (p : Nat)) o (.str s)) (hp14 k l) = .nx (env14 d r 5 (.int (p : Nat)) o (.str s)) (hp14 k (l.set p (cutS s none (some ((s.length : Int) - 1))))) := by
    rw [A5, ap_asgG]
    rw [show mSl (mVar 8) mNoP (mPart (mOp fSubI (mCB fLen (mCons (mVar 8) mNil)) (mC (.int 1)))) (env14 d r 5 (.int (p : Nat)) o (.str s)) (hp14 k l) = .ok (.str (cutS s none (some ((s.length : Int) - 1)))) (hp14 k l) from by
      have hz : s.length ≤ sizeLine := Nat.le_trans hs (by decide)
      have e2 : mOp fSubI (mCB fLen (mCons (mVar 8) mNil)) (mC (.int 1)) (env14 d r 5 (.int (p : Nat)) o (.str s)) (hp14 k l) = .ok (.int ((s.length : Int) - 1)) (hp14 k l) := by
        simp only [ap_op, ap_cb, ap_cons, ap_nil, var_s, var_0, bind_ok, ap_c]
        rw [show fLen [.str s] (hp14 k l) = some (.int (s.length : Nat)) from by
          unfold fLen lenW
          simp only [if_pos hz]]
        rfl
      have e3 : mPart (mOp fSubI (mCB fLen (mCons (mVar 8) mNil)) (mC (.int 1))) (env14 d r 5 (.int (p : Nat)) o (.str s)) (hp14 k l) = .ok (some ((s.length : Int) - 1)) (hp14 k l) := by
        unfold mPart
        rw [e2]
        rfl
      unfold mSl
      simp only [var_s, var_0, bind_ok]
      rw [show mNoP (env14 d r 5 (.int (p : Nat)) o (.str s)) (hp14 k l) = .ok none (hp14 k l) from rfl]
      simp only [bind_ok]
      rw [e3]
      simp only [bind_ok]
      show R.ofO (if s.length ≤ sizeLine then _ else _) _ = _
      rw [if_pos hz]
      rfl]
    simp only [toS_ok]
    rw [put hp, gOnly_nx]
  have hu := cutS_length s none (some ((s.length : Int) - 1))
  obtain ⟨t, et, hl⟩ := J14_ok (a := some d) (b := some (.loc 0)) (c := some (.str (formP r))) (d := some (.int 5)) (e := some (.int (p : Nat))) (f := some o) (g := some menuW) (i := some (.str s)) (k := k) (F.set (p := p) (s := cutS s none (some ((s.length : Int) - 1))) (by omega))
  refine ⟨t, [.lst ((l.set p (cutS s none (some ((s.length : Int) - 1)))).map .str)], ?_, hl⟩
  rw [show T14 (call 10) (env14 d r 5 (.int (p : Nat)) o (.str s)) (hp14 k l) = Fz.thn (A5 (env14 d r 5 (.int (p : Nat)) o (.str s)) (hp14 k l)) (U5 (call 10)) from by kernel_rfl, e1, thn_nx]
  exact (show U5 (call 10) (env14 d r 5 (.int (p : Nat)) o (.str s)) _ = J14 _ _ from by kernel_rfl).trans et
theorem menu_at {i : Int} (h0 : 0 ≤ i) (h1 : i < 8) : ∃ z : Str, z.length ≤ 30 ∧ ∀ h, fIx menuW (.int i) h = some (.str z) := by
  have : i = 0 ∨ i = 1 ∨ i = 2 ∨ i = 3 ∨ i = 4 ∨ i = 5 ∨ i = 6 ∨ i = 7 := by omega
  rcases this with rfl | rfl | rfl | rfl | rfl | rfl | rfl | rfl
  · exact ⟨"none", by decide +kernel, fun _ => rfl⟩
  · exact ⟨"one", by decide +kernel, fun _ => rfl⟩
  · exact ⟨"most", by decide +kernel, fun _ => rfl⟩
  · exact ⟨"all", by decide +kernel, fun _ => rfl⟩
  · exact ⟨"early", by decide +kernel, fun _ => rfl⟩
  · exact ⟨"", by decide +kernel, fun _ => rfl⟩
  · exact ⟨"held", by decide +kernel, fun _ => rfl⟩
  · exact ⟨"late", by decide +kernel, fun _ => rfl⟩
theorem t6 {r : Rk} {l : List Str} {p k : Nat} {o : W} {s : Str} {ds : List Int} (F : Few l) (hp : p < l.length) :
    ∃ t h', T14 (call 10) (env14 (.lst (ds.map .int)) r 6 (.int (p : Nat)) o (.str s)) (hp14 k l) = .rt (.str t) (.lst [.int ((k + 1 : Nat) : Int)] :: h') ∧ t.length ≤ 300 := by
  obtain ⟨z, hz, ez⟩ := menu_at (drw_nn (ds := ds) (k := k) (size := 8) (by decide)) (drw_lt (ds := ds) (k := k) (size := 8) (by decide))
  have tk : call 10 7 [.lst (ds.map .int), .loc 0, .int 8] (hp14 k l) = .ok (.int (drw ds k 8)) (hp14 ((k : Int) + 1) l) := by
    rw [take_ok (k := k) (j := 0) rfl (by decide)]
    rfl
  have e1 : A6 (call 10) (env14 (.lst (ds.map .int)) r 6 (.int (p : Nat)) o (.str s)) (hp14 k l) = .nx (env14 (.lst (ds.map .int)) r 6 (.int (p : Nat)) o (.str s)) (hp14 ((k : Int) + 1) (l.set p z)) := by
    simp only [A6, ap_asgG, ap_op, ap_call, var_s, var_0, bind_ok, ap_cons, ap_nil, ap_c, List.append_nil]
    rw [tk]
    simp only [bind_ok, ez, ofO_some, toS_ok]
    rw [put hp, gOnly_nx]
  obtain ⟨t, et, hl⟩ := J14_ok (a := some (.lst (ds.map .int))) (b := some (.loc 0)) (c := some (.str (formP r))) (d := some (.int 6)) (e := some (.int (p : Nat))) (f := some o) (g := some menuW) (i := some (.str s)) (k := ((k : Int) + 1)) (F.set (p := p) (s := z) hz)
  refine ⟨t, [.lst ((l.set p (z)).map .str)], ?_, hl⟩
  rw [show T14 (call 10) (env14 (.lst (ds.map .int)) r 6 (.int (p : Nat)) o (.str s)) (hp14 k l) = Fz.thn (A6 (call 10) (env14 (.lst (ds.map .int)) r 6 (.int (p : Nat)) o (.str s)) (hp14 k l)) U6 from by kernel_rfl, e1, thn_nx]
  exact (show U6 (env14 (.lst (ds.map .int)) r 6 (.int (p : Nat)) o (.str s)) (hp14 ((k : Int) + 1) (l.set p z)) = J14 _ _ from by kernel_rfl).trans et
theorem form_len {r : Rk} (hr : r ∈ R128) : (formP r).length ≤ 60 := by
  have : (R128.all fun r => decide ((formP r).length ≤ 60)) = true := by decide +kernel
  exact of_decide_eq_true (List.all_eq_true.mp this r hr)
theorem app_len (a b : Str) : (a ++ b).length = a.length + b.length := by
  rw [len_tl, tl_append, List.length_append, ← len_tl, ← len_tl]
theorem tJ {r : Rk} {l : List Str} {c : Int} {h : List Cell} (hc : c = 0 ∨ c = 12 ∨ c = 13) : T14 (call 10) (env14 d r c p o w) h = J14 (env14 d r c p o w) h := by
  rcases hc with rfl | rfl | rfl <;> kernel_rfl
theorem fAdd_s {a b : Str} {h : List Cell} (e : a.length + b.length ≤ 300) : fAdd (.str a) (.str b) h = some (.str (a ++ b)) := if_pos (Nat.le_trans e (by decide))
theorem t7 {r : Rk} {l : List Str} (hr : r ∈ R128) : ∃ t h', T14 (call 10) (env14 d r 7 p o w) (hp14 k l) = .rt (.str t) (.lst [.int k] :: h') ∧ t.length ≤ 300 := by
  have hl := form_len hr
  have b : (" early" : Str).length = 6 := by kernel_rfl
  have e : X7 (env14 d r 7 p o w) (hp14 k l) = .rt (.str (formP r ++ " early")) (hp14 k l) := by
    simp only [X7, ap_ret, ap_op, var_s, var_0, bind_ok, ap_c]
    rw [fAdd_s (by omega)]
    rfl
  refine ⟨formP r ++ " early", [.lst (l.map .str)], ?_, Nat.le_trans (Nat.le_of_eq (app_len _ _)) (by omega)⟩
  rw [show T14 (call 10) (env14 d r 7 p o w) (hp14 k l) = Fz.thn (X7 (env14 d r 7 p o w) (hp14 k l)) U7 from by kernel_rfl, e, thn_rt]
theorem t9 {r : Rk} {i : Int} {l : List Str} (hr : r ∈ R128) (h0 : 0 ≤ i) : ∃ t h', T14 (call 10) (env14 d r 9 p (.int i) w) (hp14 k l) = .rt (.str t) (.lst [.int k] :: h') ∧ t.length ≤ 300 := by
  have hl := form_len hr
  have b : (" " : Str).length = 1 := by kernel_rfl
  have sz : (2 : Nat) ≤ sizeLine := by decide
  have m : ∀ h, fModI (.int i) (.int 2) h = some (.int (i % 2)) := fun h => rfl
  have q : ∃ t : Str, X9 (env14 d r 9 p (.int i) w) (hp14 k l) = .rt (.str t) (hp14 k l) ∧ t.length ≤ 300 := by
    have e : ∀ j, i % 2 = j → X9 (env14 d r 9 p (.int i) w) (hp14 k l) = (R.ofO (fIx (.lst [.str (" " ++ formP r), .str (formP r ++ " ")]) (.int j) (hp14 k l)) (hp14 k l)).toS (env14 d r 9 p (.int i) w) (fun x h1 => .rt x h1) := fun j hj => by
      have a1 : ∀ h, fAdd (.str (" ")) (.str (formP r)) h = some (.str (" " ++ formP r)) := fun h => fAdd_s (by omega)
      have a2 : ∀ h, fAdd (.str (formP r)) (.str (" ")) h = some (.str (formP r ++ " ")) := fun h => fAdd_s (by omega)
      simp only [X9, ap_ret, ap_op, ap_lst, ap_cons, ap_nil, var_s, var_0, bind_ok, ap_c, ap_cb, fInt_int, ofO_some, a1, a2, List.length_cons, List.length_nil, Nat.zero_add, Nat.reduceAdd, sz, if_true, m, hj]
    have : i % 2 = 0 ∨ i % 2 = 1 := by omega
    rcases this with z | z
    · exact ⟨_, (e 0 z).trans rfl, Nat.le_trans (Nat.le_of_eq (app_len _ _)) (by omega)⟩
    · exact ⟨_, (e 1 z).trans rfl, Nat.le_trans (Nat.le_of_eq (app_len _ _)) (by omega)⟩
  obtain ⟨t, e, ht⟩ := q
  refine ⟨t, [.lst (l.map .str)], ?_, ht⟩
  rw [show T14 (call 10) (env14 d r 9 p (.int i) w) (hp14 k l) = Fz.thn (X9 (env14 d r 9 p (.int i) w) (hp14 k l)) U9 from by kernel_rfl, e, thn_rt]
theorem t10 {r : Rk} {i : Int} {l : List Str} (hr : r ∈ R128) (h0 : 0 ≤ i) : ∃ t h', T14 (call 10) (env14 d r 10 p (.int i) w) (hp14 k l) = .rt (.str t) (.lst [.int k] :: h') ∧ t.length ≤ 300 := by
  have hl := form_len hr
  have b : ("\n" : Str).length = 1 := by kernel_rfl
  have sz : (3 : Nat) ≤ sizeLine := by decide
  have m : ∀ h, fModI (.int i) (.int 3) h = some (.int (i % 3)) := fun h => rfl
  have q : ∃ t : Str, X10 (env14 d r 10 p (.int i) w) (hp14 k l) = .rt (.str t) (hp14 k l) ∧ t.length ≤ 300 := by
    have e : ∀ j, i % 3 = j → X10 (env14 d r 10 p (.int i) w) (hp14 k l) = (R.ofO (fIx (.lst [.str (formP r ++ "\n"), .str ("\n" ++ formP r), .str ""]) (.int j) (hp14 k l)) (hp14 k l)).toS (env14 d r 10 p (.int i) w) (fun x h1 => .rt x h1) := fun j hj => by
      have a1 : ∀ h, fAdd (.str (formP r)) (.str ("\n")) h = some (.str (formP r ++ "\n")) := fun h => fAdd_s (by omega)
      have a2 : ∀ h, fAdd (.str ("\n")) (.str (formP r)) h = some (.str ("\n" ++ formP r)) := fun h => fAdd_s (by omega)
      simp only [X10, ap_ret, ap_op, ap_lst, ap_cons, ap_nil, var_s, var_0, bind_ok, ap_c, ap_cb, fInt_int, ofO_some, a1, a2, List.length_cons, List.length_nil, Nat.zero_add, Nat.reduceAdd, sz, if_true, m, hj]
    have : i % 3 = 0 ∨ i % 3 = 1 ∨ i % 3 = 2 := by omega
    rcases this with z | z | z
    · exact ⟨_, (e 0 z).trans rfl, Nat.le_trans (Nat.le_of_eq (app_len _ _)) (by omega)⟩
    · exact ⟨_, (e 1 z).trans rfl, Nat.le_trans (Nat.le_of_eq (app_len _ _)) (by omega)⟩
    · exact ⟨_, (e 2 z).trans rfl, by decide +kernel⟩
  obtain ⟨t, e, ht⟩ := q
  refine ⟨t, [.lst (l.map .str)], ?_, ht⟩
  rw [show T14 (call 10) (env14 d r 10 p (.int i) w) (hp14 k l) = Fz.thn (X10 (env14 d r 10 p (.int i) w) (hp14 k l)) U10 from by kernel_rfl, e, thn_rt]
end
end K07

namespace K07
open PySem PySem.Spec PyProof.Rows L2 Fz TL
section
variable {k : Int} {d p o w : W}
theorem c11 : R128.map (fun r => pr (T14 (call 10) (env14 d r 11 p o w) (hp14 k (ws r)))) = R128.map fun _ => some (.lst [.int k], true) := by kernel_rfl
theorem c1 : RP.map (fun q => pr (T14 (call 10) (env14 d q.1 1 (.int (q.2 : Nat)) o (.str (wd q.1 q.2))) (hp14 k (ws q.1)))) = RP.map fun _ => some (.lst [.int k], true) := by kernel_rfl
theorem c2 : RP.map (fun q => pr (T14 (call 10) (env14 d q.1 2 (.int (q.2 : Nat)) o (.str (wd q.1 q.2))) (hp14 k (ws q.1)))) = RP.map fun _ => some (.lst [.int k], true) := by kernel_rfl
theorem c8 : RP.map (fun q => pr (T14 (call 10) (env14 d q.1 8 (.int (q.2 : Nat)) o (.str (wd q.1 q.2))) (hp14 k (ws q.1)))) = RP.map fun _ => some (.lst [.int k], true) := by kernel_rfl
end
end K07

namespace K07
open PySem PySem.Spec PyProof.Rows L2 Fz TL
theorem split_ok {r : Rk} {k : Int} (hr : r ∈ R128) : mSplit true (mC (.str (formP r))) (mC (.str " ")) [] (cu k) = .ok (.loc 1) (hp14 k (ws r)) := by
  have : R128.map (fun r => mSplit true (mC (.str (formP r))) (mC (.str " ")) [] (cu k)) = R128.map fun r => .ok (.loc 1) (hp14 k (ws r)) := by kernel_rfl
  exact at_all this hr
theorem ws_few {r : Rk} (hr : r ∈ R128) : Few (ws r) ∧ 0 < (ws r).length ∧ (ws r).length ≤ 7 ∧ ∀ s ∈ ws r, s.length ≤ 10 := by
  have : (R128.all fun r => decide (0 < (ws r).length ∧ (ws r).length ≤ 7) && (ws r).all fun s => decide (s.length ≤ 10)) = true := by decide +kernel
  have h := List.all_eq_true.mp this r hr
  rw [Bool.and_eq_true] at h
  obtain ⟨h1, h2⟩ := h
  obtain ⟨h3, h4⟩ := of_decide_eq_true h1
  have h5 : ∀ s ∈ ws r, s.length ≤ 10 := fun s hs => of_decide_eq_true (List.all_eq_true.mp h2 s hs)
  exact ⟨⟨by omega, fun s hs => Nat.le_trans (h5 s hs) (by decide)⟩, h3, h4, h5⟩
theorem tk2 {ds : List Int} {k : Nat} {size : Int} {l : List Str} (hs : 0 < size) : call 10 7 [.lst (ds.map .int), .loc 0, .int size] (hp14 (k : Int) l) = .ok (.int (drw ds k size)) (hp14 ((k + 1 : Nat) : Int) l) := by
  rw [take_ok (k := k) (j := 0) rfl hs]
  rfl
theorem m14_ok {r : Rk} {ds : List Int} {k : Nat} (hr : r ∈ R128) : ∃ (t : Str) (j : Nat) (h' : List Cell),
    M14 (call 10) [some (.lst (ds.map .int)), some (.loc 0), some (.str (formP r)), none, none, none, none, none, none] (cu (k : Int)) = .rt (.str t) (.lst [.int (j : Int)] :: h') ∧ t.length ≤ 300 := by
  obtain ⟨F, n0, n1, fs⟩ := ws_few hr
  have hn : (0 : Int) < ((ws r).length : Nat) := by omega
  have a0 := drw_nn (ds := ds) (k := k) (size := 14) (by decide)
  have a1 := drw_lt (ds := ds) (k := k) (size := 14) (by decide)
  have b0 := drw_nn (ds := ds) (k := k + 1) hn
  have b1 := drw_lt (ds := ds) (k := k + 1) hn
  have c0 := drw_nn (ds := ds) (k := k + 2) hn
  have c1 := drw_lt (ds := ds) (k := k + 2) hn
  have t1 := tk2 (ds := ds) (k := k) (size := 14) (l := ws r) (by decide)
  have t2 := tk2 (ds := ds) (k := k + 1) (l := ws r) hn
  have t3' := tk2 (ds := ds) (k := k + 2) (l := ws r) hn
  obtain ⟨p, hp⟩ : ∃ p : Nat, drw ds (k + 1) ((ws r).length : Nat) = (p : Int) := ⟨_, (Int.toNat_of_nonneg b0).symm⟩
  obtain ⟨o, ho⟩ : ∃ o : Nat, drw ds (k + 2) ((ws r).length : Nat) = (o : Int) := ⟨_, (Int.toNat_of_nonneg c0).symm⟩
  rw [hp] at b1 t2
  rw [ho] at c1 t3'
  have hp1 : p < (ws r).length := by omega
  have ho1 : o < (ws r).length := by omega
  have sp : mSplit true (mVar 2) (mC (.str " ")) [some (.lst (ds.map .int)), some (.loc 0), some (.str (formP r)), none, none, none, none, none, none] (cu (k : Int)) = .ok (.loc 1) (hp14 (k : Int) (ws r)) := split_ok hr
  have ln : ∀ k : Int, fLen [.loc 1] (hp14 k (ws r)) = some (.int ((ws r).length : Nat)) := fun k => by
    show some (W.int (((ws r).map W.str).length : Nat)) = _
    rw [List.length_map]
  have ix := atS hp1 (h := hp14 ((k + 3 : Nat) : Int) (ws r)) rfl
  have sz : (8 : Nat) ≤ sizeLine := by decide
  have e : M14 (call 10) [some (.lst (ds.map .int)), some (.loc 0), some (.str (formP r)), none, none, none, none, none, none] (cu (k : Int)) =
      T14 (call 10) (env14 (.lst (ds.map .int)) r (drw ds k 14) (.int (p : Nat)) (.int (o : Nat)) (.str ((ws r).getD p ""))) (hp14 ((k + 3 : Nat) : Int) (ws r)) := by
    rw [show M14 (call 10) = mSeq (mSet 3 (mSplit true (mVar 2) (mC (.str " "))))
    (mSeq (mSet 4 (mCall (call 10 7) [] (mCons (mVar 0) (mCons (mVar 1) (mCons (mC (.int 14)) mNil)))))
    (mSeq (mSet 5 (mCall (call 10 7) [] (mCons (mVar 0) (mCons (mVar 1) (mCons (mCB fLen (mCons (mVar 3) mNil)) mNil)))))
    (mSeq (mSet 6 (mCall (call 10 7) [] (mCons (mVar 0) (mCons (mVar 1) (mCons (mCB fLen (mCons (mVar 3) mNil)) mNil)))))
    (mSeq (mSet 7 (mLst (mCons (mC (.str "none")) (mCons (mC (.str "one")) (mCons (mC (.str "most")) (mCons (mC (.str "all")) (mCons (mC (.str "early")) (mCons (mC (.str "")) (mCons (mC (.str "held")) (mCons (mC (.str "late")) mNil))))))))))
    (mSeq (mSet 8 (mOp fIx (mVar 3) (mVar 5))) (T14 (call 10))))))) from rfl]
    simp -implicitDefEqProofs only [ap_seq, ap_set, sp, toS_ok, thn_nx, List.set, ap_call, ap_cons, ap_nil, var_s, var_0, bind_ok, ap_c, List.append_nil, t1, ap_cb, ln, ofO_some, t2, t3', ap_lst, List.length_cons, List.length_nil, Nat.zero_add, Nat.reduceAdd, sz, if_true, ap_op, ix]
  rw [e]
  generalize hc : drw ds k 14 = c at *
  have hc' : c = 0 ∨ c = 1 ∨ c = 2 ∨ c = 3 ∨ c = 4 ∨ c = 5 ∨ c = 6 ∨ c = 7 ∨ c = 8 ∨ c = 9 ∨ c = 10 ∨ c = 11 ∨ c = 12 ∨ c = 13 := by omega
  have fin : ∀ {q : RS}, (∃ (t : Str) (h' : List Cell), q = .rt (.str t) (.lst [.int ((k + 3 : Nat) : Int)] :: h') ∧ t.length ≤ 300) → ∃ (t : Str) (j : Nat) (h' : List Cell), q = .rt (.str t) (.lst [.int (j : Int)] :: h') ∧ t.length ≤ 300 := fun ⟨t, h', a, b⟩ => ⟨t, _, h', a, b⟩
  have gJ : ∀ {q : RS} {a b c d e f g i : Option W}, q = J14 [a, b, c, some (.loc 1), d, e, f, g, i] (hp14 ((k + 3 : Nat) : Int) (ws r)) → ∃ (t : Str) (h' : List Cell), q = .rt (.str t) (.lst [.int ((k + 3 : Nat) : Int)] :: h') ∧ t.length ≤ 300 := fun {q a b c d e f g i} hq => by
    obtain ⟨t, et, hl⟩ := J14_ok (a := a) (b := b) (c := c) (d := d) (e := e) (f := f) (g := g) (i := i) (k := ((k + 3 : Nat) : Int)) F
    exact ⟨t, _, hq.trans et, hl⟩
  have gP : ∀ {q : RS}, pr q = some (.lst [.int ((k + 3 : Nat) : Int)], true) → ∃ (t : Str) (h' : List Cell), q = .rt (.str t) (.lst [.int ((k + 3 : Nat) : Int)] :: h') ∧ t.length ≤ 300 := fun h => pr_ok h
  have hs := fs _ (mem_getD hp1)
  rcases hc' with rfl | rfl | rfl | rfl | rfl | rfl | rfl | rfl | rfl | rfl | rfl | rfl | rfl | rfl
  · exact fin (gJ (tJ (r := r) (l := []) (.inl rfl)))
  · have h1 := at_all (K07.c1 (k := ((k + 3 : Nat) : Int)) (d := .lst (ds.map .int)) (o := .int (o : Nat))) (mem_RP hr hp1)
    dsimp only at h1
    rw [show wd r p = (ws r).getD p "" from rfl] at h1
    exact fin (gP h1)
  · have h1 := at_all (K07.c2 (k := ((k + 3 : Nat) : Int)) (d := .lst (ds.map .int)) (o := .int (o : Nat))) (mem_RP hr hp1)
    dsimp only at h1
    rw [show wd r p = (ws r).getD p "" from rfl] at h1
    exact fin (gP h1)
  · obtain ⟨t, h1, h2⟩ := t3 (k := ((k + 3 : Nat) : Int)) (d := .lst (ds.map .int)) (r := r) F hp1 ho1
    exact ⟨t, k + 3, _, h1, h2⟩
  · exact fin (t4 F hp1 hs)
  · exact fin (t5 F hp1 hs)
  · obtain ⟨t, h', h1, h2⟩ := t6 (k := k + 3) (r := r) (o := .int (o : Nat)) (s := (ws r).getD p "") (ds := ds) F hp1
    exact ⟨t, k + 4, h', h1, h2⟩
  · exact fin (t7 hr)
  · have h1 := at_all (K07.c8 (k := ((k + 3 : Nat) : Int)) (d := .lst (ds.map .int)) (o := .int (o : Nat))) (mem_RP hr hp1)
    dsimp only at h1
    rw [show wd r p = (ws r).getD p "" from rfl] at h1
    exact fin (gP h1)
  · exact fin (t9 hr (by omega))
  · exact fin (t10 hr (by omega))
  · have h1 := at_all (K07.c11 (k := ((k + 3 : Nat) : Int)) (d := .lst (ds.map .int)) (p := .int (p : Nat)) (o := .int (o : Nat)) (w := .str ((ws r).getD p ""))) hr
    exact fin (gP h1)
  · exact fin (gJ (tJ (r := r) (l := []) (.inr (.inl rfl))))
  · exact fin (gJ (tJ (r := r) (l := []) (.inr (.inr rfl))))
theorem changed_ok {r : Rk} {ds : List Int} {k : Nat} (hr : r ∈ R128) : ∃ (t : Str) (j : Nat), call 11 14 [.lst (ds.map .int), .loc 0, .str (formP r)] (cu (k : Int)) = .ok (.str t) (cu (j : Int)) ∧ t.length ≤ 300 := by
  obtain ⟨t, j, h', e, hl⟩ := m14_ok (r := r) (ds := ds) (k := k) hr
  refine ⟨t, j, ?_, hl⟩
  rw [show call 11 14 = fnM true 9 3 (M14 (call 10)) from cl14]
  have e2 : M14 (call 10) ([.lst (ds.map .int), .loc 0, .str (formP r)].map some ++ List.replicate (9 - 3) none) (cu (k : Int)) = .rt (.str t) (.lst [.int (j : Int)] :: h') := e
  have e3 : fnB 9 3 (M14 (call 10)) [.lst (ds.map .int), .loc 0, .str (formP r)] (cu (k : Int)) = .ok (.str t) (.lst [.int (j : Int)] :: h') := by
    unfold fnB
    have l3 : [W.lst (ds.map .int), W.loc 0, W.str (formP r)].length = 3 := by simp only [List.length_cons, List.length_nil]
    simp only [if_pos l3, e2, toR_rt]
  show trimR (cu (k : Int)).length (frzR (fnB 9 3 (M14 (call 10)) [.lst (ds.map .int), .loc 0, .str (formP r)] (cu (k : Int)))) = _
  rw [e3]
  have e4 : frzR (.ok (.str t) (.lst [.int (j : Int)] :: h')) = .ok (.str t) (.lst [.int (j : Int)] :: h') := rfl
  rw [e4]
  show (if (Cell.lst [.int (j : Int)] :: h').length ≤ 1 then _ else _) = _
  by_cases q : (Cell.lst [.int (j : Int)] :: h').length ≤ 1
  · rw [if_pos q]
    have : h' = [] := List.eq_nil_of_length_eq_zero (by simpa using q)
    rw [this]
  · rw [if_neg q]
    rfl
end K07

namespace K07
open PySem PySem.Spec PyProof.Rows L2 Fz TL
/-! ### a turn -/
def Q16 (C : Nat → Fn) (X : MS) : MS :=
    (mSeq (mSet 6 (mFrzT (mMakeK 0 (C 1) (fun xs ys => xs ++ ys) 3 1 (mCons (mOp fIx (mVar 3) (mOp fIx (mVar 5) (mC (.int 0)))) (mCons (mOp fIx (mVar 3) (mOp fIx (mVar 5) (mC (.int 1)))) (mCons (mOp fIx (mVar 3) (mOp fIx (mVar 5) (mC (.int 2)))) mNil))) (mCons (mOp fIx (mVar 5) (mC (.int 3))) mNil))))
    (mSeq (mSet 7 (mStrO 0 (C 3) (mVar 6)))
    (mSeq (mIfS (mNot (mTru (mCall (C 8) [] (mCons (mVar 7) (mCons (mCall (C 12) [] (mCons (mCall (C 9) [] (mCons (mVar 5) mNil)) mNil)) mNil))))) (mRet (mC (.bl false))) mSkip)
    (mSeq (mIfS (mNot (mTru (mCall (C 8) [] (mCons (mOpH (fOwn 0 (C 2)) (mCall (C 4) [] (mCons (mVar 7) mNil)) (mVar 6)) (mCons (mC (.bl true)) mNil))))) (mRet (mC (.bl false))) mSkip)
    (mSeq (mSet 8 (mCall (C 12) [] (mCons (mVar 5) mNil)))
    (mSeq (mIfS (mNot (mTru (mCall (C 8) [] (mCons (mCall (C 15) [] (mCons (mVar 8) mNil)) (mCons (mCall (C 11) [] (mCons (mCall (C 9) [] (mCons (mVar 5) mNil)) mNil)) mNil))))) (mRet (mC (.bl false))) mSkip)
    X))))))
def Z16 (C : Nat → Fn) : MS := (mIfS (mNot (mTru (mCall (C 8) [] (mCons (mCall (C 15) [] (mCons (mVar 7) mNil)) (mCons (mCall (C 11) [] (mCons (mCall (C 9) [] (mCons (mVar 5) mNil)) mNil)) mNil))))) (mRet (mC (.bl false))) mSkip)
def Y16 (C : Nat → Fn) : MS :=
    (mSeq (mSet 9 (mCall (C 14) [] (mCons (mVar 1) (mCons (mVar 2) (mCons (mVar 8) mNil)))))
    (mSeq (mIfS (mNot (mTru (mCall (C 8) [] (mCons (mCall (C 15) [] (mCons (mVar 9) mNil)) (mCons (mCall (C 13) [] (mCons (mVar 9) mNil)) mNil))))) (mRet (mC (.bl false))) mSkip)
    (Z16 C)))
abbrev lvL : W := .lst [.str "none", .str "one", .str "most", .str "all"]
theorem pre_ok {s d t : W} {o6 o7 o8 o9 : Option W} {r : Rk} {k : Int} {X : MS} (hr : r ∈ R128) : Q16 (call 11) X [some s, some d, some (.loc 0), some lvL, some t, some (rW r), o6, o7, o8, o9] (cu k) =
    X [some s, some d, some (.loc 0), some lvL, some t, some (rW r), some (wayW (adj r)), some (.str (formP (adj r))), some (.str (formP r)), o9] (cu k) := by
  have : R128.map (fun r => Q16 (call 11) X [some s, some d, some (.loc 0), some lvL, some t, some (rW r), o6, o7, o8, o9] (cu k)) = R128.map fun r => X [some s, some d, some (.loc 0), some lvL, some t, some (rW r), some (wayW (adj r)), some (.str (formP (adj r))), some (.str (formP r)), o9] (cu k) := by kernel_rfl
  exact at_all this hr
theorem end_ok {s d t w e f : W} {r : Rk} {k : Int} (hr : r ∈ R128) : Z16 (call 11) [some s, some d, some (.loc 0), some lvL, some t, some (rW r), some w, some (.str (formP (adj r))), some e, some f] (cu k) =
    .nx [some s, some d, some (.loc 0), some lvL, some t, some (rW r), some w, some (.str (formP (adj r))), some e, some f] (cu k) := by
  have : R128.map (fun r => Z16 (call 11) [some s, some d, some (.loc 0), some lvL, some t, some (rW r), some w, some (.str (formP (adj r))), some e, some f] (cu k)) = R128.map fun r => .nx [some s, some d, some (.loc 0), some lvL, some t, some (rW r), some w, some (.str (formP (adj r))), some e, some f] (cu k) := by kernel_rfl
  exact at_all this hr
end K07

namespace K07
open PySem PySem.Spec PyProof.Rows L2 Fz TL
theorem tk1 {ds : List Int} {k : Nat} {size : Int} (hs : 0 < size) : call 11 7 [.lst (ds.map .int), .loc 0, .int size] (cu (k : Int)) = .ok (.int (drw ds k size)) (cu ((k + 1 : Nat) : Int)) := by
  rw [take_ok (k := k) (j := 0) rfl hs]
  rfl
theorem nat_of {i : Int} {n : Nat} (h0 : 0 ≤ i) (h1 : i < n) : ∃ m : Nat, i = (m : Int) ∧ m < n := ⟨i.toNat, (Int.toNat_of_nonneg h0).symm, by omega⟩
abbrev SR5 : MS := mSet 5 (mLst (mCons (mCall (call 11 7) [] (mCons (mVar 1) (mCons (mVar 2) (mCons (mC (.int 4)) mNil)))) (mCons (mCall (call 11 7) [] (mCons (mVar 1) (mCons (mVar 2) (mCons (mC (.int 4)) mNil)))) (mCons (mCall (call 11 7) [] (mCons (mVar 1) (mCons (mVar 2) (mCons (mC (.int 4)) mNil)))) (mCons (mOp fEq (mCall (call 11 7) [] (mCons (mVar 1) (mCons (mVar 2) (mCons (mC (.int 2)) mNil)))) (mC (.int 1))) mNil)))))
theorem S5_ok {s t : W} {o5 o6 o7 o8 o9 : Option W} {ds : List Int} {k : Nat} : ∃ r, r ∈ R128 ∧ SR5 [some s, some (.lst (ds.map .int)), some (.loc 0), some lvL, some t, o5, o6, o7, o8, o9] (cu (k : Int)) =
    .nx [some s, some (.lst (ds.map .int)), some (.loc 0), some lvL, some t, some (rW r), o6, o7, o8, o9] (cu ((k + 4 : Nat) : Int)) := by
  have t1 := tk1 (ds := ds) (k := k) (size := 4) (by decide)
  have t2 := tk1 (ds := ds) (k := k + 1) (size := 4) (by decide)
  have t3 := tk1 (ds := ds) (k := k + 2) (size := 4) (by decide)
  have t4 := tk1 (ds := ds) (k := k + 3) (size := 2) (by decide)
  obtain ⟨a, ea, ha⟩ := nat_of (n := 4) (drw_nn (ds := ds) (k := k) (size := 4) (by decide)) (drw_lt (ds := ds) (k := k) (size := 4) (by decide))
  obtain ⟨b, eb, hb⟩ := nat_of (n := 4) (drw_nn (ds := ds) (k := k + 1) (size := 4) (by decide)) (drw_lt (ds := ds) (k := k + 1) (size := 4) (by decide))
  obtain ⟨c, ec, hc⟩ := nat_of (n := 4) (drw_nn (ds := ds) (k := k + 2) (size := 4) (by decide)) (drw_lt (ds := ds) (k := k + 2) (size := 4) (by decide))
  rw [ea] at t1
  rw [eb] at t2
  rw [ec] at t3
  refine ⟨(a, b, c, decide (drw ds (k + 3) 2 = 1)), mem128 (mem_b4 ha) (mem_b4 hb) (mem_b4 hc), ?_⟩
  have sz : (4 : Nat) ≤ sizeLine := by decide
  simp -implicitDefEqProofs only [SR5, ap_set, ap_lst, ap_cons, ap_nil, ap_call, var_s, var_0, ap_c, bind_ok, List.append_nil, t1, t2, t3, ap_op, t4, fEq_int, ofO_some, List.length_cons, List.length_nil, Nat.zero_add, Nat.reduceAdd, sz, if_true, toS_ok, List.set, rW]
theorem Y16_ok {s t w : W} {o9 : Option W} {ds : List Int} {k : Nat} {r : Rk} (hr : r ∈ R128) : ∃ (j : Nat) (z : W), Y16 (call 11) [some s, some (.lst (ds.map .int)), some (.loc 0), some lvL, some t, some (rW r), some w, some (.str (formP (adj r))), some (.str (formP r)), o9] (cu (k : Int)) =
    .nx [some s, some (.lst (ds.map .int)), some (.loc 0), some lvL, some t, some (rW r), some w, some (.str (formP (adj r))), some (.str (formP r)), some z] (cu (j : Int)) := by
  obtain ⟨x, j, e, hl⟩ := changed_ok (ds := ds) (k := k) hr
  obtain ⟨y, e1, e2, e3⟩ := alike (t := x) (k := (j : Int)) hl
  refine ⟨j, .str x, ?_⟩
  unfold Y16
  simp -implicitDefEqProofs only [ap_seq, ap_set, ap_call, ap_cons, ap_nil, var_s, var_0, bind_ok, List.append_nil, e, toS_ok, List.set, thn_nx, ap_ifS, ap_not, ap_tru, e1, e2, e3, truW_bl, ofO_some, Bool.not_true, Bool.false_eq_true, if_false, ap_skip]
  exact end_ok hr
abbrev B16 : MS := mSeq SR5 (Q16 (call 11) (Y16 (call 11)))
theorem B16_ok {s t : W} {o5 o6 o7 o8 o9 : Option W} {ds : List Int} {k : Nat} : ∃ (j : Nat) (p5 p6 p7 p8 p9 : Option W), B16 [some s, some (.lst (ds.map .int)), some (.loc 0), some lvL, some t, o5, o6, o7, o8, o9] (cu (k : Int)) =
    .nx [some s, some (.lst (ds.map .int)), some (.loc 0), some lvL, some t, p5, p6, p7, p8, p9] (cu (j : Int)) := by
  obtain ⟨r, hr, e⟩ := S5_ok (s := s) (t := t) (o5 := o5) (o6 := o6) (o7 := o7) (o8 := o8) (o9 := o9) (ds := ds) (k := k)
  obtain ⟨j, z, e2⟩ := Y16_ok (s := s) (t := t) (w := wayW (adj r)) (o9 := o9) (ds := ds) (k := k + 4) hr
  refine ⟨j, some (rW r), some (wayW (adj r)), some (.str (formP (adj r))), some (.str (formP r)), some z, ?_⟩
  rw [B16, ap_seq, e, thn_nx, pre_ok hr, e2]
theorem law_ok (ns : List Int) (hn : ns.length ≤ 63) : ∃ h, call 12 16 [.scr (ns.map .int)] [] = .ok (.bl true) h := by
  obtain ⟨ds, e0⟩ := draws_ok 10 hn
  have sz : ∀ n, n ≤ 4 → n ≤ sizeLine := fun n h => Nat.le_trans h (by decide)
  have i4 : Fz.inR 4 = true := by decide
  have key : ∃ (k : Nat), M16 (call 11) [some (.scr (ns.map .int)), none, none, none, none, none, none, none, none, none] [] = .rt (.bl true) (cu (k : Int)) := by
    obtain ⟨ρ', h', ef, j, t, o5, o6, o7, o8, o9, rfl, rfl⟩ := for_inv (src := srcRng 0 1 4) (gg := mGName 4) (body := B16) (xs := rngW 0 1 4) (m := 5) (ρ := [some (.scr (ns.map .int)), some (.lst (ds.map .int)), some (.loc 0), some lvL, none, none, none, none, none, none]) (h := cu ((0 : Nat) : Int))
      (fun i ρ h => ∃ (k : Nat) (t o5 o6 o7 o8 o9 : Option W), ρ = [some (.scr (ns.map .int)), some (.lst (ds.map .int)), some (.loc 0), some lvL, t, o5, o6, o7, o8, o9] ∧ h = cu (k : Int)) (fun i ρ h hi p => src_rng_at hi)
      (fun i x ρ h hx ⟨k, t, o5, o6, o7, o8, o9, hρ, hh⟩ => by
        subst hρ hh
        obtain ⟨j, p5, p6, p7, p8, p9, e⟩ := B16_ok (s := .scr (ns.map .int)) (t := x) (o5 := o5) (o6 := o6) (o7 := o7) (o8 := o8) (o9 := o9) (ds := ds) (k := k)
        exact ⟨_, _, _, _, rfl, e, j, _, _, _, _, _, _, rfl, rfl⟩) (by decide) ⟨0, none, none, none, none, none, none, rfl, rfl⟩
    refine ⟨j, ?_⟩
    rw [show M16 (call 11) = (mSeq (mSet 1 (mCall (call 11 6) [] (mCons (mVar 0) mNil)))
    (mSeq (mSet 2 (mLstC (mCons (mC (.int 0)) mNil)))
    (mSeq (mSet 3 (mLst (mCons (mC (.str "none")) (mCons (mC (.str "one")) (mCons (mC (.str "most")) (mCons (mC (.str "all")) mNil))))))
    (mSeq (mFor (mIRng1 (mCons (mC (.int 4)) mNil)) (mGName 4) B16) (mRet (mC (.bl true))))))) from rfl]
    have e0' : call 11 6 [.scr (ns.map .int)] [] = .ok (.lst (ds.map .int)) [] := e0
    simp -implicitDefEqProofs only [ap_seq, ap_set, ap_call, ap_cons, ap_nil, var_s, var_0, bind_ok, List.append_nil, e0', toS_ok, thn_nx, List.set, ap_lstC, ap_lst, ap_c, List.length_cons, List.length_nil, Nat.zero_add, Nat.reduceAdd, sz 1 (by decide), sz 4 (by decide), if_true, List.nil_append]
    rw [rng4]
    rw [show forW (srcRng 0 1 4) (mGName 4) B16 5 0 [some (.scr (ns.map .int)), some (.lst (ds.map .int)), some (.loc 0), some (.lst [.str "none", .str "one", .str "most", .str "all"]), none, none, none, none, none, none] [Cell.lst [.int 0]] = _ from ef, thn_nx]
    rfl
  obtain ⟨k, e⟩ := key
  refine ⟨[], ?_⟩
  rw [show call 12 16 = fnM true 10 1 (M16 (call 11)) from cl16]
  exact fnM_tail (h := []) (t := cu (k : Int)) rfl e (fun _ => rfl) (fun z => nomatch z) rfl rfl
end K07

theorem PySem.Challenge.cw_finerlocks_k07_way_texts_holds : PySem.Challenge.rw_finerlocks_k07_way_texts.Holds := by
  exact K07.holds_of fun ns hn => K07.law_ok ns hn
