import PyProof.Rows.All
import Wide.All
import OpenK.AllK
import Wide.FinOn
import HandS.ForMost
import HandS.TupMul
import HandS.ForExc
import HandS.Star
import HandS.Flow
import HandS.Defaults
import HandS.TupAny
import HandS.TupLe
import HandS.IsInst
import HandS.Conv
import HandS.Walk
import HandS.SortInts
import HandS.More
import HandS.WideBits
import HandS.RaiseMore
import HandS.WordsDict
import HandS.TupLen
import HandS.Small
import HandS.Style
import HandS.HeadEnd
import HandS.ExcOwn
import HandS.MakeKw
import HandS.Property
import KE.KFmtOwn
import HandS.SlotsOwn
import HandS.WrittenGet
import KE.GoesMore
import PyProof.EnumMake
import HandS.Iter
import PyProof.ReprRoads
import HandS.TryOnly
import HandS.DictComp
import HandS.ClsMeth
import KE.KDictPairs
import HandS.Head0
import HandS.Head1
import HandS.Head2
import HandS.HeadHook4
import HandS.Codes
import PyProof.StrLawsRepr
import PySem.Challenge.RW_turnedevenly_k08_whole_walks
set_option Elab.async false
set_option linter.all false
set_option maxRecDepth 100000
set_option maxHeartbeats 0
section S_MPm1
/-! MPm1: (..) * 1 is the tuple itself. -/
namespace L2
open PySem PySem.Spec PyProof.Rows
theorem tuple_mul1W (l : Addr) (items : Array Value) (n : Nat) (dd : Option Addr) (sl : Array (Option Value)) (u : Tok) :
    Meets (Builtin.«tuple.__mul__» ⟨[.ref l, .int 1 u], []⟩) (fun _ R s => s.heap.get? l = some { cls := .type "tuple", dict := dd, data := .seq items n, slots := sl } ∧ R (.ok (.ret (Value.ref l))) s) :=
  .of_wp fun prog w A R s h => by
    obtain ⟨hp, g, d, tk, os⟩ := s
    obtain ⟨hl, h⟩ := h
    have f1 := AutoSeq1.idx_int
    have c0 : ¬ ((decide ((1 : Int) < -(2 ^ 63)) || decide ((1 : Int) ≥ 2 ^ 63)) = true) := by decide
    have c1 : (items.isEmpty || (1 : Int) == 1) = true := by simp
    wp_walk using wpAny_loadPart' hl
    exact ⟨_, rfl, h⟩
section
variable {X : Cx}
theorem op_rep1 : OpR X (binaryOp .Mult) (fun x y H Q => ∃ l xs, x = .ref l ∧ y = .int 1 ∧ SqT X.K H l xs ∧ Q (.ref l) H) := by
  intro pins s σ H x y v u Q I rx ry ⟨l, xs, e1, e2, hT, q⟩
  subst e1 e2
  cases rx
  obtain ⟨t, rfl⟩ := ry
  obtain ⟨its, r, ⟨⟨cls, dd, data, sl⟩, ho, hc, n, hd⟩, hs⟩ := I.tuple hT
  simp only at hc hd
  subst hc hd
  refine wpAny_binaryOp_repeat_ref (T := "tuple") (U := "int") (by decide) ⟨_, ho, rfl⟩ (fun s' => typeIs_int s' 1 t) noFill_tuple_mul F.fills_int_mul F.slot_int_rmul repeat_tuple F.slot_int_index.lookup (call_meets F.slot_int_rmul (typeIs_int s 1 t) F.entry_int_rmul (F.args_int_rmul_2 _ _) (int_rmul_tuple 1 t l its.toArray n dd sl)
      ⟨ho, rfl, ⟨_, ho, rfl⟩, call_meets F.slot_tuple_mul ⟨_, ho, rfl⟩ F.entry_tuple_mul (F.args_tuple_mul_2 _ _) (tuple_mul1W l its.toArray n dd sl t) ⟨ho, ?_⟩⟩)
  exact ⟨.ref l, H, I, rfl, q⟩
end
end L2
end S_MPm1
section S_MPa
/-! MPa: values as trees, an abstract heap for what changes, a position-free tree of expressions and statements. -/
namespace MP
open PySem
abbrev Key := L2.Key

inductive D where
  | non | bl (b : Bool) | int (i : Int) | str (x : Str)
  | tup (xs : List D) | lst (xs : List D) | dk (kvs : List (Key × D)) | dt (kvs : List (List Key × D)) | obj (c : Nat) (fs : List D)
  | fn (f : Nat) | cls (c : Nat) | scr (ns : List Int)
  deriving Inhabited

inductive A where
  | d (x : D) | ref (i : Nat)
  deriving Inhabited

inductive O where
  | lst (xs : List A) | dk (kvs : List (Key × A)) | dt (kvs : List (List Key × A)) | ins (c : Nat) (fs : List A) | dead
  deriving Inhabited

abbrev Hh := List O
abbrev Sl := List (Option A)

inductive Out (α : Type) where
  | ok (a : α) (h : Hh) | ex (e : D) (h : Hh) | no

def Out.bind {α β : Type} (x : Out α) (f : α → Hh → Out β) : Out β := match x with
  | .ok a h => f a h
  | .ex e h => .ex e h
  | .no => .no
theorem Out.bind_ok {α β : Type} (a : α) (h : Hh) (f : α → Hh → Out β) : (Out.ok a h).bind f = f a h := rfl
theorem Out.bind_ex {α β : Type} (e : D) (h : Hh) (f : α → Hh → Out β) : (Out.ex e h : Out α).bind f = .ex e h := rfl
theorem Out.bind_no {α β : Type} (f : α → Hh → Out β) : (Out.no : Out α).bind f = .no := rfl

/-- a statement's end -/
inductive OS where
  | nx (s : Sl) (h : Hh) | rt (a : A) (h : Hh) | bk (s : Sl) (h : Hh) | ct (s : Sl) (h : Hh) | ex (e : D) (s : Sl) (h : Hh) | no

/-- an expression's end in a statement -/
def Out.st {α : Type} (x : Out α) (s : Sl) (f : α → Hh → OS) : OS := match x with
  | .ok a h => f a h
  | .ex e h => .ex e s h
  | .no => .no
theorem Out.st_ok {α : Type} (a : α) (h : Hh) (s : Sl) (f : α → Hh → OS) : (Out.ok a h).st s f = f a h := rfl
theorem Out.st_ex {α : Type} (e : D) (h : Hh) (s : Sl) (f : α → Hh → OS) : (Out.ex e h : Out α).st s f = .ex e s h := rfl
def OS.seq (x : OS) (f : Sl → Hh → OS) : OS := match x with
  | .nx s h => f s h
  | o => o
theorem OS.seq_nx (s : Sl) (h : Hh) (f : Sl → Hh → OS) : (OS.nx s h).seq f = f s h := rfl
theorem OS.seq_rt (a : A) (h : Hh) (f : Sl → Hh → OS) : (OS.rt a h).seq f = .rt a h := rfl
theorem OS.seq_ex (e : D) (s : Sl) (h : Hh) (f : Sl → Hh → OS) : (OS.ex e s h).seq f = .ex e s h := rfl

/-- a tuple that begins with (name, image) -/
def turnsD : List D → Bool
  | .tup [.str _, .tup _] :: _ => true
  | _ => false

end MP
end S_MPa
section S_MPb
/-! MPb: how abstract values lie in the hand layer's heap. -/
namespace MP
open PySem L2

def lockable : HO → Bool
  | .dK _ => true | .dT _ => true | _ => false
/-- readable as u: u itself, or u locked -/
def Rx (H : Hp) (p : Addr) (u : HO) : Prop := H p = some u ∨ (lockable u = true ∧ ∃ o, H p = some (.frz o u))
theorem Rx.of {H : Hp} {p : Addr} {u : HO} (h : H p = some u) : Rx H p u := .inl h
theorem Rx.rd {H : Hp} {p : Addr} {u : HO} (h : Rx H p u) : Rd H p u := h.elim .inl fun x => .inr x.2
theorem Rx.some {H : Hp} {p : Addr} {u : HO} (h : Rx H p u) : ∃ o, H p = Option.some o := h.elim (fun x => ⟨_, x⟩) fun ⟨_, _, x⟩ => ⟨_, x⟩
theorem Rx.upd {H : Hp} {p q : Addr} {u o : HO} (h : Rx H p u) (n : p ≠ q) : Rx (upd H q o) p u := by
  rcases h with h | ⟨l, o', h⟩
  · exact .inl (by rw [upd_ne n]; exact h)
  · exact .inr ⟨l, o', by rw [upd_ne n]; exact h⟩
theorem Rx.ins {H : Hp} {p C dx : Addr} {fs : List (Str × V)} (h : Rx H p (.ins C dx fs)) : H p = Option.some (.ins C dx fs) := by
  rcases h with h | ⟨l, _⟩
  · exact h
  · cases l
theorem Rx.inj {H : Hp} {p : Addr} {u u' : HO} (h : Rx H p u) (h' : Rx H p u') (n : ∀ o x, u ≠ .frz o x) (n' : ∀ o x, u' ≠ .frz o x) : u = u' := by
  rcases h with h | ⟨_, o, h⟩ <;> rcases h' with h' | ⟨_, o', h'⟩ <;> rw [h] at h' <;> cases h'
  · rfl
  · exact absurd rfl (n _ _)
  · exact absurd rfl (n' _ _)
  · rfl

/-- addresses of the text's classes and defs, the fields of each class in their order -/
structure Gm where
  ca : Nat → Addr
  lay : Nat → List Str
  fa : Nat → Addr

/-- where things lie: the mutable objects by number, the frozen ones, the hand layer's heap -/
structure Zn where
  rho : List Addr
  F : Addr → Prop
  H : Hp

structure Ext (z z' : Zn) : Prop where
  pre : ∃ t, z'.rho = z.rho ++ t ∧ ∀ p ∈ t, z.H p = none
  fz : ∀ p, z.F p → z'.F p
  rx : ∀ p u, (z.F p ∨ p ∉ z.rho) → Rx z.H p u → Rx z'.H p u
  st : ∀ p, z'.H p = none → z.H p = none
  fn : ∀ p, z'.F p → z.F p ∨ z.H p = none ∨ p ∈ z.rho
  al : ∀ p u, z.H p = some u → p ∉ z.rho → ¬ z.F p → z'.H p = some u
theorem Ext.refl (z : Zn) : Ext z z := ⟨⟨[], by simp⟩, fun _ h => h, fun _ _ _ h => h, fun _ h => h, fun _ h => .inl h, fun _ _ h _ _ => h⟩
theorem Ext.trans {z z1 z2 : Zn} (a : Ext z z1) (b : Ext z1 z2) : Ext z z2 := by
  obtain ⟨t1, e1, f1⟩ := a.pre
  obtain ⟨t2, e2, f2⟩ := b.pre
  have nn : ∀ p u, (z.F p ∨ p ∉ z.rho) → Rx z.H p u → z1.F p ∨ p ∉ z1.rho := fun p u h r => by
    rcases h with h | h
    · exact .inl (a.fz p h)
    · refine .inr fun hm => ?_
      rw [e1, List.mem_append] at hm
      rcases hm with hm | hm
      · exact h hm
      · obtain ⟨o, ho⟩ := r.some
        rw [f1 p hm] at ho; cases ho
  refine ⟨⟨t1 ++ t2, by rw [e2, e1, List.append_assoc], fun p hp => ?_⟩, fun p h => b.fz p (a.fz p h), fun p u h r => b.rx p u (nn p u h r) (a.rx p u h r), fun p h => a.st p (b.st p h), fun p h => ?_, fun p u h n f => b.al p u (a.al p u h n f) (fun hm => ?_) fun hf => ?_⟩
  rotate_left 2
  · rw [e1, List.mem_append] at hm
    rcases hm with hm | hm
    · exact n hm
    · rw [f1 p hm] at h; cases h
  · rcases a.fn p hf with q | q | q
    · exact f q
    · rw [q] at h; cases h
    · exact n q
  rotate_left
  · rcases b.fn p h with h | h | h
    · exact a.fn p h
    · exact .inr (.inl (a.st p h))
    · rw [e1, List.mem_append] at h
      rcases h with h | h
      · exact .inr (.inr h)
      · exact .inr (.inl (f1 p h))
  rcases List.mem_append.mp hp with hp | hp
  · exact f1 p hp
  · exact a.st p (f2 p hp)

theorem Ext.keep {z z' : Zn} (e : Ext z z') {p : Addr} {u : HO} (f : z.F p) (h : z.H p = some u) (l : lockable u = false) : z'.H p = some u := by
  rcases e.rx p u (.inl f) (.of h) with x | ⟨y, _⟩
  · exact x
  · rw [l] at y; cases y
/-- a tuple of the written part -/
def KTup (K : PySem.W.Frag) (a : Addr) (xs : List V) : Prop :=
  ∃ (o : Obj) (its : Array Value) (n : Nat), K.lookup a = some o ∧ o.cls = .type "tuple" ∧ o.data = .seq its n ∧ its.size ≤ sizeLine ∧ Vals xs its.toList

/-- a list of the written part -/
def KLst (K : PySem.W.Frag) (a : Addr) (xs : List V) : Prop :=
  ∃ (o : Obj) (its : Array Value) (n : Nat), K.lookup a = some o ∧ o.cls = .type "list" ∧ o.dict = none ∧ o.data = .seq its n ∧ its.size ≤ sizeLine ∧ Vals xs its.toList

def kD : Key → D
  | .inl i => .int i
  | .inr x => .str x

section
variable (K : PySem.W.Frag) (g : Gm) (z : Zn)
mutual
inductive RelD : D → V → Prop
  | non : RelD .non .non
  | bl (b : Bool) : RelD (.bl b) (.bl b)
  | int (i : Int) : RelD (.int i) (.int i)
  | str (x : Str) : RelD (.str x) (.str x)
  | tup {p : Addr} {xs : List D} {vs : List V} : z.F p → z.H p = some (.tup vs) → RelL xs vs → turnsD xs = false → RelD (.tup xs) (.ref p)
  | tupF {p : Addr} {o : Obj} {xs : List D} {vs : List V} : z.F p → z.H p = some (.frz o (.tup vs)) → o.dict = none → RelL xs vs → turnsD xs = true → RelD (.tup xs) (.ref p)
  | tupK {p : Addr} : KTup K p [] → RelD (.tup []) (.ref p)
  | lst {p : Addr} {xs : List D} {vs : List V} : z.F p → z.H p = some (.lst vs) → RelL xs vs → RelD (.lst xs) (.ref p)
  | dk {p : Addr} {ks : List Key} {xs : List D} {vs : List V} : z.F p → Rx z.H p (.dK (ks.zip vs)) → ks.length = vs.length → RelL xs vs → RelD (.dk (ks.zip xs)) (.ref p)
  | dt {p : Addr} {ks : List (List Key)} {xs : List D} {vs : List V} : z.F p → Rx z.H p (.dT (ks.zip vs)) → ks.length = vs.length → RelL xs vs → RelD (.dt (ks.zip xs)) (.ref p)
  | obj {c : Nat} {p dx : Addr} {xs : List D} {ns : List Str} {vs : List V} : z.F p → z.H p = some (.ins (g.ca c) dx (ns.zip vs)) → ns = g.lay c → ns.length = vs.length → RelL xs vs → RelD (.obj c xs) (.ref p)
  | fn (f : Nat) : RelD (.fn f) (.ref (g.fa f))
  | cls (c : Nat) : RelD (.cls c) (.ref (g.ca c))
  | scr {p : Addr} {o : Obj} {ns : List Int} : z.F p → z.H p = some (.frz o (.lst (ns.map V.int))) → RelD (.scr ns) (.ref p)
  | scrK {p : Addr} {ns : List Int} : KLst K p (ns.map V.int) → RelD (.scr ns) (.ref p)
inductive RelL : List D → List V → Prop
  | nil : RelL [] []
  | cons {x : D} {v : V} {xs : List D} {vs : List V} : RelD x v → RelL xs vs → RelL (x :: xs) (v :: vs)
end
def RelA : A → V → Prop
  | .d x, v => RelD K g z x v
  | .ref i, v => ∃ p, z.rho[i]? = some p ∧ v = .ref p
inductive RelAs : List A → List V → Prop
  | nil : RelAs [] []
  | cons {x : A} {v : V} {xs : List A} {vs : List V} : RelA K g z x v → RelAs xs vs → RelAs (x :: xs) (v :: vs)
/-- what a mutable object is -/
def RelO : O → Addr → Prop
  | .lst xs, p => ¬ z.F p ∧ ∃ vs, z.H p = some (.lst vs) ∧ RelAs K g z xs vs
  | .dk kvs, p => ¬ z.F p ∧ ∃ vs : List V, z.H p = some (.dK ((kvs.map (·.1)).zip vs)) ∧ RelAs K g z (kvs.map (·.2)) vs
  | .dt kvs, p => ¬ z.F p ∧ ∃ vs : List V, z.H p = some (.dT ((kvs.map (·.1)).zip vs)) ∧ RelAs K g z (kvs.map (·.2)) vs
  | .ins c fs, p => ¬ z.F p ∧ ∃ (dx : Addr) (vs : List V), z.H p = some (.ins (g.ca c) dx (((g.lay c).take fs.length).zip vs)) ∧ fs.length ≤ (g.lay c).length ∧ RelAs K g z fs vs
  | .dead, _ => True
structure Cn (h : Hh) : Prop where
  len : z.rho.length = h.length
  nd : z.rho.Nodup
  rt : ∀ p ∈ z.rho, ∃ o, z.H p = some o
  ft : ∀ p, z.F p → ∃ o, z.H p = some o
  ob : ∀ (i : Nat) (o : O) (p : Addr), h[i]? = some o → z.rho[i]? = some p → RelO K g z o p
end

section
variable {K : PySem.W.Frag} {g : Gm} {z z' : Zn} {h : Hh}
mutual
theorem RelD.mono (e : Ext z z') : ∀ {x : D} {v : V}, RelD K g z x v → RelD K g z' x v
  | _, _, .non => .non
  | _, _, .bl b => .bl b
  | _, _, .int i => .int i
  | _, _, .str x => .str x
  | _, _, .tup f r l t => .tup (e.fz _ f) (e.keep f r rfl) (RelL.mono e l) t
  | _, _, .tupF f r d l t => .tupF (e.fz _ f) (e.keep f r rfl) d (RelL.mono e l) t
  | _, _, .tupK k => .tupK k
  | _, _, .lst f r l => .lst (e.fz _ f) (e.keep f r rfl) (RelL.mono e l)
  | _, _, .dk f r n l => .dk (e.fz _ f) (e.rx _ _ (.inl f) r) n (RelL.mono e l)
  | _, _, .dt f r n l => .dt (e.fz _ f) (e.rx _ _ (.inl f) r) n (RelL.mono e l)
  | _, _, .obj f r a n l => .obj (e.fz _ f) (e.keep f r rfl) a n (RelL.mono e l)
  | _, _, .fn f => .fn f
  | _, _, .cls c => .cls c
  | _, _, .scr f r => .scr (e.fz _ f) (e.keep f r rfl)
  | _, _, .scrK k => .scrK k
theorem RelL.mono (e : Ext z z') : ∀ {x : List D} {v : List V}, RelL K g z x v → RelL K g z' x v
  | _, _, .nil => .nil
  | _, _, .cons a b => .cons (RelD.mono e a) (RelL.mono e b)
end
theorem RelA.mono (e : Ext z z') {a : A} {v : V} (r : RelA K g z a v) : RelA K g z' a v := by
  cases a with
  | d x => exact RelD.mono e r
  | ref i =>
    obtain ⟨p, hp, rfl⟩ := r
    obtain ⟨t, et, _⟩ := e.pre
    refine ⟨p, ?_, rfl⟩
    rw [et, List.getElem?_append_left (List.getElem?_eq_some_iff.mp hp).1]
    exact hp
theorem RelAs.mono (e : Ext z z') : ∀ {a : List A} {v : List V}, RelAs K g z a v → RelAs K g z' a v
  | _, _, .nil => .nil
  | _, _, .cons a b => .cons (a.mono e) (RelAs.mono e b)
theorem RelAs.length : ∀ {a : List A} {v : List V}, RelAs K g z a v → a.length = v.length
  | _, _, .nil => rfl
  | _, _, .cons _ b => by simp [RelAs.length b]
theorem RelL.length : ∀ {a : List D} {v : List V}, RelL K g z a v → a.length = v.length
  | _, _, .nil => rfl
  | _, _, .cons _ b => by simp [RelL.length b]
theorem RelL.get : ∀ {a : List D} {v : List V} {i : Nat} {x : D}, RelL K g z a v → a[i]? = some x → ∃ y, v[i]? = some y ∧ RelD K g z x y
  | _, _, _, _, .nil, h => by simp at h
  | _, _, 0, _, .cons r _, h => by simp at h; subst h; exact ⟨_, rfl, r⟩
  | _, _, i + 1, x, .cons _ b, h => by
    obtain ⟨y, h1, h2⟩ := RelL.get (i := i) b (by simpa using h)
    exact ⟨y, by simpa using h1, h2⟩
theorem RelAs.get : ∀ {a : List A} {v : List V} {i : Nat} {x : A}, RelAs K g z a v → a[i]? = some x → ∃ y, v[i]? = some y ∧ RelA K g z x y
  | _, _, _, _, .nil, h => by simp at h
  | _, _, 0, _, .cons r _, h => by simp at h; subst h; exact ⟨_, rfl, r⟩
  | _, _, i + 1, x, .cons _ b, h => by
    obtain ⟨y, h1, h2⟩ := RelAs.get (i := i) b (by simpa using h)
    exact ⟨y, by simpa using h1, h2⟩
theorem RelAs.ofL : ∀ {a : List D} {v : List V}, RelL K g z a v → RelAs K g z (a.map .d) v
  | _, _, .nil => .nil
  | _, _, .cons a b => .cons a (RelAs.ofL b)
theorem RelL.ofAs : ∀ {a : List D} {v : List V}, RelAs K g z (a.map .d) v → RelL K g z a v
  | [], _, .nil => .nil
  | _ :: _, _, .cons a b => .cons a (RelL.ofAs b)
theorem RelAs.append : ∀ {a b : List A} {v w : List V}, RelAs K g z a v → RelAs K g z b w → RelAs K g z (a ++ b) (v ++ w)
  | _, _, _, _, .nil, s => s
  | _, _, _, _, .cons r t, s => .cons r (RelAs.append t s)
theorem RelL.append : ∀ {a b : List D} {v w : List V}, RelL K g z a v → RelL K g z b w → RelL K g z (a ++ b) (v ++ w)
  | _, _, _, _, .nil, s => s
  | _, _, _, _, .cons r t, s => .cons r (RelL.append t s)
theorem RelAs.set {x : A} {v : V} (r : RelA K g z x v) : ∀ {a : List A} {w : List V} (i : Nat), RelAs K g z a w → RelAs K g z (a.set i x) (w.set i v)
  | _, _, _, .nil => .nil
  | _, _, 0, .cons _ t => .cons r t
  | _, _, i + 1, .cons q t => .cons q (RelAs.set r i t)
theorem RelAs.take : ∀ {a : List A} {w : List V} (n : Nat), RelAs K g z a w → RelAs K g z (a.take n) (w.take n)
  | _, _, 0, _ => .nil
  | _, _, _ + 1, .nil => .nil
  | _, _, n + 1, .cons r t => .cons r (RelAs.take n t)
theorem RelAs.drop : ∀ {a : List A} {w : List V} (n : Nat), RelAs K g z a w → RelAs K g z (a.drop n) (w.drop n)
  | _, _, 0, r => r
  | _, _, _ + 1, .nil => .nil
  | _, _, n + 1, .cons _ t => RelAs.drop n t
theorem RelL.take : ∀ {a : List D} {w : List V} (n : Nat), RelL K g z a w → RelL K g z (a.take n) (w.take n)
  | _, _, 0, _ => .nil
  | _, _, _ + 1, .nil => .nil
  | _, _, n + 1, .cons r t => .cons r (RelL.take n t)
theorem RelL.drop : ∀ {a : List D} {w : List V} (n : Nat), RelL K g z a w → RelL K g z (a.drop n) (w.drop n)
  | _, _, 0, r => r
  | _, _, _ + 1, .nil => .nil
  | _, _, n + 1, .cons _ t => RelL.drop n t

theorem RelO.mono {o : O} {p : Addr} (e : Ext z z') (hF : ¬ z'.F p) (hH : z'.H p = z.H p) (r : RelO K g z o p) : RelO K g z' o p := by
  cases o with
  | lst xs => obtain ⟨_, vs, h1, h2⟩ := r; exact ⟨hF, vs, hH.trans h1, h2.mono e⟩
  | dk xs => obtain ⟨_, vs, h1, h2⟩ := r; exact ⟨hF, vs, hH.trans h1, h2.mono e⟩
  | dt xs => obtain ⟨_, vs, h1, h2⟩ := r; exact ⟨hF, vs, hH.trans h1, h2.mono e⟩
  | ins c fs => obtain ⟨_, dx, vs, h1, h3, h2⟩ := r; exact ⟨hF, dx, vs, hH.trans h1, h3, h2.mono e⟩
  | dead => trivial
/-- it stands among the mutable ones, alive -/
theorem RelO.nf {o : O} {p : Addr} (r : RelO K g z o p) (hd : o ≠ .dead) : ¬ z.F p := by
  cases o with
  | lst xs => exact r.1
  | dk xs => exact r.1
  | dt xs => exact r.1
  | ins c fs => exact r.1
  | dead => exact absurd rfl hd

abbrev Zn.upd (z : Zn) (p : Addr) (o : HO) : Zn := { z with H := L2.upd z.H p o }
abbrev Zn.frz (z : Zn) (p : Addr) (o : HO) : Zn := { z with H := L2.upd z.H p o, F := fun q => z.F q ∨ q = p }
abbrev Zn.new (z : Zn) (p : Addr) (o : HO) : Zn := { z with H := L2.upd z.H p o, rho := z.rho ++ [p] }

theorem upd_none {H : Hp} {p q : Addr} {o : HO} (h : upd H p o q = none) : H q = none := by
  unfold L2.upd at h
  split at h
  · cases h
  · exact h
theorem Ext.junk {p : Addr} {o : HO} (hp : z.H p = none) : Ext z (z.upd p o) :=
  ⟨⟨[], by simp⟩, fun _ h => h, fun q u _ r => r.upd (fun e => by subst e; obtain ⟨_, x⟩ := r.some; rw [hp] at x; cases x), fun _ h => upd_none h, fun _ h => .inl h, fun q u h _ _ => (upd_ne (fun e => by subst e; rw [hp] at h; cases h)).trans h⟩
theorem Cn.junk {p : Addr} {o : HO} (c : Cn K g z h) (hp : z.H p = none) : Cn K g (z.upd p o) h := by
  have ne : ∀ q u, z.H q = some u → q ≠ p := fun q u e x => by subst x; rw [hp] at e; cases e
  refine ⟨c.len, c.nd, fun q hq => ?_, fun q hq => ?_, fun i ob q h1 h2 => ?_⟩
  · obtain ⟨u, e⟩ := c.rt q hq
    exact ⟨u, (upd_ne (ne q u e)).trans e⟩
  · obtain ⟨u, e⟩ := c.ft q hq
    exact ⟨u, (upd_ne (ne q u e)).trans e⟩
  · obtain ⟨u, e⟩ := c.rt q (List.mem_of_getElem? h2)
    by_cases hd : ob = .dead
    · subst hd; trivial
    · exact (c.ob i ob q h1 h2).mono (Ext.junk hp) ((c.ob i ob q h1 h2).nf hd) (upd_ne (ne q u e))
theorem Ext.frozen {p : Addr} {o : HO} (hp : z.H p = none) : Ext z (z.frz p o) :=
  ⟨⟨[], by simp⟩, fun _ h => .inl h, fun q u _ r => r.upd (fun e => by subst e; obtain ⟨_, x⟩ := r.some; rw [hp] at x; cases x), fun _ h => upd_none h, fun _ h => h.elim .inl fun e => .inr (.inl (e ▸ hp)), fun q u h _ _ => (upd_ne (fun e => by subst e; rw [hp] at h; cases h)).trans h⟩
theorem Cn.frozen {p : Addr} {o : HO} (c : Cn K g z h) (hp : z.H p = none) : Cn K g (z.frz p o) h := by
  have ne : ∀ q u, z.H q = some u → q ≠ p := fun q u e x => by subst x; rw [hp] at e; cases e
  refine ⟨c.len, c.nd, fun q hq => ?_, fun q hq => ?_, fun i ob q h1 h2 => ?_⟩
  · obtain ⟨u, e⟩ := c.rt q hq
    exact ⟨u, (upd_ne (ne q u e)).trans e⟩
  · rcases hq with hq | rfl
    · obtain ⟨u, e⟩ := c.ft q hq
      exact ⟨u, (upd_ne (ne q u e)).trans e⟩
    · exact ⟨o, upd_same⟩
  · obtain ⟨u, e⟩ := c.rt q (List.mem_of_getElem? h2)
    by_cases hd : ob = .dead
    · subst hd; trivial
    · refine (c.ob i ob q h1 h2).mono (Ext.frozen hp) ?_ (upd_ne (ne q u e))
      rintro (x | x)
      · exact (c.ob i ob q h1 h2).nf hd x
      · exact ne q u e x
theorem Ext.alloc {p : Addr} {o : HO} (hp : z.H p = none) : Ext z (z.new p o) :=
  ⟨⟨[p], rfl, fun q hq => by rw [List.mem_singleton.mp hq]; exact hp⟩, fun _ h => h, fun q u _ r => r.upd (fun e => by subst e; obtain ⟨_, x⟩ := r.some; rw [hp] at x; cases x), fun _ h => upd_none h, fun _ h => .inl h, fun q u h _ _ => (upd_ne (fun e => by subst e; rw [hp] at h; cases h)).trans h⟩
theorem Cn.alloc {p : Addr} {o : HO} {ob : O} (c : Cn K g z h) (hp : z.H p = none) (new : RelO K g (z.new p o) ob p) : Cn K g (z.new p o) (h ++ [ob]) := by
  have ne : ∀ q u, z.H q = some u → q ≠ p := fun q u e x => by subst x; rw [hp] at e; cases e
  have np : p ∉ z.rho := fun hm => by obtain ⟨u, e⟩ := c.rt p hm; rw [hp] at e; cases e
  refine ⟨by simp [c.len], ?_, fun q hq => ?_, fun q hq => ?_, fun i o' q h1 h2 => ?_⟩
  · refine List.nodup_append.mpr ⟨c.nd, by simp, fun a ha b hb => ?_⟩
    rw [List.mem_singleton.mp hb]
    exact fun e => np (e ▸ ha)
  · rcases List.mem_append.mp hq with hq | hq
    · obtain ⟨u, e⟩ := c.rt q hq
      exact ⟨u, (upd_ne (ne q u e)).trans e⟩
    · rw [List.mem_singleton.mp hq]; exact ⟨o, upd_same⟩
  · obtain ⟨u, e⟩ := c.ft q hq
    exact ⟨u, (upd_ne (ne q u e)).trans e⟩
  · by_cases hi : i < h.length
    · rw [List.getElem?_append_left hi] at h1
      have h2' : z.rho[i]? = some q := by rw [← h2, List.getElem?_append_left (by rw [c.len]; exact hi)]
      obtain ⟨u, e⟩ := c.rt q (List.mem_of_getElem? h2')
      by_cases hd : o' = .dead
      · subst hd; trivial
      · exact (c.ob i o' q h1 h2').mono (Ext.alloc hp) ((c.ob i o' q h1 h2').nf hd) (upd_ne (ne q u e))
    · have hi' : i = h.length := by
        have := (List.getElem?_eq_some_iff.mp h1).1
        simp at this; omega
      subst hi'
      rw [List.getElem?_append_right (Nat.le_refl _)] at h1
      rw [List.getElem?_append_right (by rw [c.len]; exact Nat.le_refl _)] at h2
      simp at h1
      simp [c.len] at h2
      subst h1; subst h2
      exact new
theorem Ext.write {i : Nat} {p : Addr} {o : HO} (hi : z.rho[i]? = some p) (hF : ¬ z.F p) : Ext z (z.upd p o) :=
  ⟨⟨[], by simp⟩, fun _ h => h, fun q u k r => r.upd (fun e => by
    subst e
    rcases k with k | k
    · exact hF k
    · exact k (List.mem_of_getElem? hi)), fun _ h => upd_none h, fun _ h => .inl h, fun q u h n _ => (upd_ne (fun e => by subst e; exact n (List.mem_of_getElem? hi))).trans h⟩
theorem nodup_get {l : List Addr} (n : l.Nodup) {i j : Nat} {a : Addr} (h1 : l[i]? = some a) (h2 : l[j]? = some a) : i = j := by
  obtain ⟨b1, e1⟩ := List.getElem?_eq_some_iff.mp h1
  obtain ⟨b2, e2⟩ := List.getElem?_eq_some_iff.mp h2
  exact (List.getElem_inj n).mp (e1.trans e2.symm)
theorem Cn.write {i : Nat} {p : Addr} {o : HO} {ob : O} (c : Cn K g z h) (hi : z.rho[i]? = some p) (hF : ¬ z.F p) (new : RelO K g (z.upd p o) ob p) : Cn K g (z.upd p o) (h.set i ob) := by
  refine ⟨by simp [c.len], c.nd, fun q hq => ?_, fun q hq => ?_, fun j o' q h1 h2 => ?_⟩
  · by_cases e : q = p
    · subst e; exact ⟨o, upd_same⟩
    · obtain ⟨u, e'⟩ := c.rt q hq
      exact ⟨u, (upd_ne e).trans e'⟩
  · by_cases e : q = p
    · subst e; exact ⟨o, upd_same⟩
    · obtain ⟨u, e'⟩ := c.ft q hq
      exact ⟨u, (upd_ne e).trans e'⟩
  · by_cases hj : i = j
    · subst hj
      rw [hi] at h2; cases h2
      have hl : i < h.length := by rw [← c.len]; exact (List.getElem?_eq_some_iff.mp hi).1
      rw [List.getElem?_set_self hl] at h1
      cases h1
      exact new
    · rw [List.getElem?_set_ne hj] at h1
      have ne : q ≠ p := fun e => hj (nodup_get c.nd hi (e ▸ h2))
      by_cases hd : o' = .dead
      · subst hd; trivial
      · exact (c.ob j o' q h1 h2).mono (Ext.write hi hF) ((c.ob j o' q h1 h2).nf hd) (upd_ne ne)
theorem Cn.at (c : Cn K g z h) {i : Nat} {o : O} (hi : h[i]? = some o) : ∃ p, z.rho[i]? = some p ∧ RelO K g z o p := by
  have hl : i < z.rho.length := by rw [c.len]; exact (List.getElem?_eq_some_iff.mp hi).1
  exact ⟨z.rho[i], List.getElem?_eq_getElem hl, c.ob i o _ hi (List.getElem?_eq_getElem hl)⟩
end
end MP
end S_MPb
section S_MPc
/-! MPc: the lifts of abstract readings, the judgements, the first rules. -/
namespace L2
open PySem
theorem PE.impM {X : Cx} {e : Expr} {t t' : TE} (h : PE X e t) (w : ∀ σ H Q, t' σ H Q → t σ H Q) : PE X e t' := ⟨fun pins s σ H Q I q => h.run pins s σ H Q I (w σ H Q q)⟩
theorem PT.impM {X : Cx} {e : Expr} {t t' : TT} (h : PT X e t) (w : ∀ σ H Q, t' σ H Q → t σ H Q) : PT X e t' := ⟨fun pins s σ H Q I q => h.run pins s σ H Q I (w σ H Q q)⟩
theorem PA.impM {X : Cx} {e : List Expr} {t t' : TA} (h : PA X e t) (w : ∀ σ H Q, t' σ H Q → t σ H Q) : PA X e t' := ⟨fun pos pins s σ H Q I q => h.run pos pins s σ H Q I (w σ H Q q)⟩
theorem PS.impM {X : Cx} {e : Stmt} {t t' : TS} (h : PS X e t) (w : ∀ D σ H, t' D σ H → t D σ H) : PS X e t' := ⟨fun pins s σ H Q I q => h.run pins s σ H Q I (w Q σ H q)⟩
theorem PSs.impM {X : Cx} {e : List Stmt} {t t' : TS} (h : PSs X e t) (w : ∀ D σ H, t' D σ H → t D σ H) : PSs X e t' := ⟨fun pins s σ H Q I q => h.run pins s σ H Q I (w Q σ H q)⟩

end L2
namespace MP
open PySem L2

def Out.wp {α : Type} (r : Out α) (Q : α → Hh → Prop) (W : D → Hh → Prop) : Prop := match r with
  | .ok a h => Q a h
  | .ex e h => W e h
  | .no => False
theorem Out.wp_bind {α β : Type} {r : Out α} {f : α → Hh → Out β} {Q : β → Hh → Prop} {W : D → Hh → Prop} (h : (r.bind f).wp Q W) : r.wp (fun a h => (f a h).wp Q W) W := by
  cases r <;> exact h
theorem Out.wp_mono {α : Type} {r : Out α} {Q Q' : α → Hh → Prop} {W W' : D → Hh → Prop} (h : r.wp Q W) (hq : ∀ a h, Q a h → Q' a h) (hw : ∀ e h, W e h → W' e h) : r.wp Q' W' := by
  cases r with
  | ok a hh => exact hq _ _ h
  | ex e hh => exact hw _ _ h
  | no => exact h
def OS.wp (r : OS) (nx bk ct : Sl → Hh → Prop) (rt : A → Hh → Prop) (W : D → Sl → Hh → Prop) : Prop := match r with
  | .nx s h => nx s h
  | .rt a h => rt a h
  | .bk s h => bk s h
  | .ct s h => ct s h
  | .ex e s h => W e s h
  | .no => False

section
variable (K : PySem.W.Frag) (g : Gm)
def RelSl (z : Zn) (s : Sl) (σ : St) : Prop := s.length = σ.length ∧ ∀ (i : Nat) (a : A), s[i]? = some (some a) → ∃ v, σ[i]? = some (some v) ∧ RelA K g z a v
/-- how an exception lies -/
def RelX (z : Zn) (e : D) (cls : Value) (d : Option Addr) : Prop := ∃ c fs, e = .obj c fs ∧ cls = .ref (g.ca c) ∧
  ((fs = [] ∧ g.lay c = [] ∧ d = none) ∨ ∃ (dx : Addr) (vs : List V), d = some dx ∧ z.F dx ∧ z.H dx = some (.xd ((g.lay c).zip vs)) ∧ (g.lay c).length = vs.length ∧ RelL K g z fs vs)
def okK (z : Zn) (Q : VK) : A → Hh → Prop := fun a h' => ∀ v z', Ext z z' → Cn K g z' h' → RelA K g z' a v → Q v z'.H
def okKs (z : Zn) (Q : List V → Hp → Prop) : List A → Hh → Prop := fun as h' => ∀ vs z', Ext z z' → Cn K g z' h' → RelAs K g z' as vs → Q vs z'.H
def okB (z : Zn) (Q : Bool → Hp → Prop) : Bool → Hh → Prop := fun b h' => ∀ z', Ext z z' → Cn K g z' h' → Q b z'.H
def exK (z : Zn) (σ : St) (W : WX) : D → Hh → Prop := fun e h' => ∀ cls d z', Ext z z' → Cn K g z' h' → RelX K g z' e cls d → W cls d σ z'.H
def slK (z : Zn) (N : St → Hp → Prop) : Sl → Hh → Prop := fun s' h' => ∀ σ' z', Ext z z' → Cn K g z' h' → RelSl K g z' s' σ' → N σ' z'.H
def exS (z : Zn) (W : WX) : D → Sl → Hh → Prop := fun e s' h' => ∀ cls d σ' z', Ext z z' → Cn K g z' h' → RelX K g z' e cls d → RelSl K g z' s' σ' → W cls d σ' z'.H
def liftE (W : WX) (f : Sl → Hh → Out A) : TE := fun σ H Q => ∃ s h z, z.H = H ∧ Cn K g z h ∧ RelSl K g z s σ ∧ (f s h).wp (okK K g z Q) (exK K g z σ W)
def liftT (W : WX) (f : Sl → Hh → Out Bool) : TT := fun σ H Q => ∃ s h z, z.H = H ∧ Cn K g z h ∧ RelSl K g z s σ ∧ (f s h).wp (okB K g z Q) (exK K g z σ W)
def liftA (W : WX) (f : Sl → Hh → Out (List A)) : TA := fun σ H Q => ∃ s h z, z.H = H ∧ Cn K g z h ∧ RelSl K g z s σ ∧ (f s h).wp (okKs K g z Q) (exK K g z σ W)
def liftS (W : WX) (f : Sl → Hh → OS) : TS := fun Dn σ H => ∃ s h z, z.H = H ∧ Cn K g z h ∧ RelSl K g z s σ ∧
  (f s h).wp (slK K g z Dn.nx) (slK K g z Dn.bk) (slK K g z Dn.ct) (okK K g z Dn.rt) (exS K g z W)
end

section
variable (g : Gm) (X : Cx)
/-- e's abstract reading is f -/
def AE (e : Expr) (f : Sl → Hh → Out A) : Prop := ∀ W, Takes X W → PE X e (liftE X.K g W f)
def AT (e : Expr) (f : Sl → Hh → Out Bool) : Prop := ∀ W, Takes X W → PT X e (liftT X.K g W f)
def AA (es : List Expr) (f : Sl → Hh → Out (List A)) : Prop := ∀ W, Takes X W → PA X es (liftA X.K g W f)
def AS (st : Stmt) (f : Sl → Hh → OS) : Prop := ∀ W, Takes X W → PS X st (liftS X.K g W f)
def ASs (st : List Stmt) (f : Sl → Hh → OS) : Prop := ∀ W, Takes X W → PSs X st (liftS X.K g W f)
end

section
variable {K : PySem.W.Frag} {g : Gm} {z z' : Zn} {h : Hh} {σ : St} {s : Sl} {Q : VK} {W : WX}
theorem RelSl.mono (r : RelSl K g z s σ) (e : Ext z z') : RelSl K g z' s σ := ⟨r.1, fun i a h => let ⟨v, h1, h2⟩ := r.2 i a h; ⟨v, h1, h2.mono e⟩⟩
theorem RelSl.set (r : RelSl K g z s σ) {i : Nat} {a : A} {v : V} (q : RelA K g z a v) : RelSl K g z (s.set i (some a)) (σ.set i (some v)) := by
  refine ⟨by simp [r.1], fun j b hb => ?_⟩
  by_cases hj : i = j
  · subst hj
    have hl : i < s.length := by
      have := (List.getElem?_eq_some_iff.mp hb).1
      simpa using this
    rw [List.getElem?_set_self hl] at hb
    cases hb
    exact ⟨v, List.getElem?_set_self (by rw [← r.1]; exact hl), q⟩
  · rw [List.getElem?_set_ne hj] at hb
    obtain ⟨w, h1, h2⟩ := r.2 j b hb
    exact ⟨w, by rw [List.getElem?_set_ne hj]; exact h1, h2⟩
theorem RelSl.unset (r : RelSl K g z s σ) (i : Nat) : RelSl K g z (s.set i none) (σ.set i none) := by
  refine ⟨by simp [r.1], fun j b hb => ?_⟩
  by_cases hj : i = j
  · subst hj
    have hl : i < s.length := by
      have := (List.getElem?_eq_some_iff.mp hb).1
      simpa using this
    rw [List.getElem?_set_self hl] at hb
    cases hb
  · rw [List.getElem?_set_ne hj] at hb
    obtain ⟨w, h1, h2⟩ := r.2 j b hb
    exact ⟨w, by rw [List.getElem?_set_ne hj]; exact h1, h2⟩
theorem okK.ext {a : A} (e : Ext z z') (q : okK K g z Q a h) : okK K g z' Q a h := fun v z2 e2 c r => q v z2 (e.trans e2) c r
theorem exK.ext {x : D} (e : Ext z z') (q : exK K g z σ W x h) : exK K g z' σ W x h := fun cl d z2 e2 c r => q cl d z2 (e.trans e2) c r
theorem okB.ext {Q : Bool → Hp → Prop} {b : Bool} (e : Ext z z') (q : okB K g z Q b h) : okB K g z' Q b h := fun z2 e2 c => q z2 (e.trans e2) c
theorem okKs.ext {Q : List V → Hp → Prop} {b : List A} (e : Ext z z') (q : okKs K g z Q b h) : okKs K g z' Q b h := fun v z2 e2 c r => q v z2 (e.trans e2) c r
theorem slK.ext {N : St → Hp → Prop} (e : Ext z z') (q : slK K g z N s h) : slK K g z' N s h := fun v z2 e2 c r => q v z2 (e.trans e2) c r
theorem exS.ext {x : D} (e : Ext z z') (q : exS K g z W x s h) : exS K g z' W x s h := fun cl d σ' z2 e2 c r l => q cl d σ' z2 (e.trans e2) c r l

/-- the next reading behind one: the shape of every rule -/
theorem next_E {f : A → Hh → Out A} {a : A} (w : (f a h).wp (okK K g z Q) (exK K g z σ W)) {v : V} {zz : Zn} (e : Ext z zz) : (f a h).wp (okK K g zz Q) (exK K g zz σ W) :=
  Out.wp_mono w (fun _ _ q => q.ext e) (fun _ _ q => q.ext e)
end
end MP
end S_MPc
section S_MPs
/-! MPs: the abstract semantics. -/
namespace MP
open PySem

/-! ### pure data -/
mutual
def D.pure : D → Bool
  | .non => true | .bl _ => true | .int _ => true | .str _ => true
  | .tup xs => pureL xs
  | .lst xs => pureL xs
  | _ => false
def pureL : List D → Bool
  | [] => true
  | x :: r => x.pure && pureL r
end
mutual
def D.toP : D → PyData
  | .non => .none | .bl b => .bool b | .int i => .int i | .str x => .str x
  | .tup xs => .tuple (toPL xs)
  | .lst xs => .list (toPL xs)
  | _ => .none
def toPL : List D → List PyData
  | [] => []
  | x :: r => x.toP :: toPL r
end
mutual
/-- == of pure data -/
def D.eqb : D → D → Bool
  | .non, .non => true
  | .bl a, .bl b => a == b
  | .bl a, .int j => (if a then 1 else 0) == j
  | .int i, .bl b => i == (if b then 1 else 0)
  | .int i, .int j => i == j
  | .str x, .str y => x == y
  | .lst xs, .lst ys => eqbL xs ys
  | .tup xs, .tup ys => eqbL xs ys
  | _, _ => false
def eqbL : List D → List D → Bool
  | [], [] => true
  | x :: xs, y :: ys => x.eqb y && eqbL xs ys
  | _, _ => false
end
mutual
def D.depth : D → Nat
  | .tup xs => depthL xs + 1
  | .lst xs => depthL xs + 1
  | _ => 0
def depthL : List D → Nat
  | [] => 0
  | x :: r => max x.depth (depthL r)
end

/-! ### reading sequences -/
def allD : List A → Option (List D)
  | [] => some []
  | .d x :: r => (allD r).map (x :: ·)
  | .ref _ :: _ => none
def asLst (a : A) (h : Hh) : Option (List A) := match a with
  | .d (.lst xs) => some (xs.map .d)
  | .ref i => match h[i]? with
    | some (.lst xs) => some xs
    | _ => none
  | _ => none
def asSeq (a : A) (h : Hh) : Option (List A) := match a with
  | .d (.tup xs) => some (xs.map .d)
  | a => asLst a h
def opt {α : Type} (o : Option α) (h : Hh) : Out α := match o with
  | some a => .ok a h
  | none => .no
theorem opt_some {α : Type} (a : α) (h : Hh) : opt (some a) h = .ok a h := rfl

/-! ### operators -/
inductive BOp where | add | sub | mul | fdiv | mod | pow
inductive COp where | eq | ne | lt | le | gt | ge | isin | notin | is_ | isnot

def addA (a b : A) (h : Hh) : Option A := match a, b with
  | .d (.int i), .d (.int j) => some (.d (.int (i + j)))
  | .d (.str x), .d (.str y) => if x.length + y.length ≤ sizeLine then some (.d (.str (x ++ y))) else none
  | .d (.tup xs), .d (.tup ys) => if xs.length + ys.length ≤ sizeLine ∧ turnsD (xs ++ ys) = false then some (.d (.tup (xs ++ ys))) else none
  | a, b => match asLst a h, asLst b h with
    | some xs, some ys => match allD (xs ++ ys) with
      | some ds => if ds.length ≤ sizeLine then some (.d (.lst ds)) else none
      | none => none
    | _, _ => none
def subA (a b : A) : Option A := match a, b with
  | .d (.int i), .d (.int j) => some (.d (.int (i - j)))
  | _, _ => none
def mulA (a b : A) (h : Hh) : Option A := match a, b with
  | .d (.int i), .d (.int j) => if (-(2 ^ 64) < i ∧ i < 2 ^ 64) ∨ (-(2 ^ 64) < j ∧ j < 2 ^ 64) then some (.d (.int (i * j))) else none
  | .d (.tup xs), .d (.int k) => if (xs.length = 1 ∧ 1 ≤ k ∧ k ≤ 1000) ∧ turnsD (List.replicate k.toNat xs).flatten = false then some (.d (.tup (List.replicate k.toNat xs).flatten)) else none
  | a, .d (.int k) => match asLst a h with
    | some xs => match allD xs with
      | some ds => if 0 ≤ k ∧ k ≤ 1000 ∧ ds.length ≤ 1000 then some (.d (.lst (List.replicate k.toNat ds).flatten)) else none
      | none => none
    | none => none
  | _, _ => none
def fdivA (a b : A) : Option A := match a, b with
  | .d (.int i), .d (.int j) => if 0 < j ∧ j < 1073741824 then some (.d (.int (i / j))) else none
  | _, _ => none
def modA (a b : A) : Option A := match a, b with
  | .d (.int i), .d (.int j) => if 0 < j then some (.d (.int (i % j))) else none
  | _, _ => none
def powA (a b : A) : Option A := match a, b with
  | .d (.int i), .d (.int j) => if 0 ≤ j ∧ j ≤ 1000000 ∧ i.natAbs < 2 ^ 64 then some (.d (.int (i ^ j.toNat))) else none
  | _, _ => none
def binA (o : BOp) (a b : A) (h : Hh) : Option A := match o with
  | .add => addA a b h
  | .sub => subA a b
  | .mul => mulA a b h
  | .fdiv => fdivA a b
  | .mod => modA a b
  | .pow => powA a b

/-! ### tables -/
def keyD : D → Option Key
  | .int i => some (.inl i)
  | .str x => some (.inr x)
  | _ => none
def keysD : List D → Option (List Key)
  | [] => some []
  | x :: r => match keyD x, keysD r with
    | some k, some ks => some (k :: ks)
    | _, _ => none
def look {κ α : Type} [DecidableEq κ] (kvs : List (κ × α)) (k : κ) : Option α := (kvs.find? fun kv => decide (kv.1 = k)).map (·.2)
def put {κ α : Type} [DecidableEq κ] (kvs : List (κ × α)) (k : κ) (v : α) : List (κ × α) :=
  if (kvs.any fun kv => decide (kv.1 = k)) = true then kvs.map (fun kv => if kv.1 = k then (kv.1, v) else kv) else kvs ++ [(k, v)]

def wipeS (s : Sl) : List Nat → Sl
  | [] => s
  | v :: vs => (wipeS s vs).set v none

/-! ### truth, places, slices -/
def truthD : D → Option Bool
  | .non => some false
  | .bl b => some b
  | .int i => some (i != 0)
  | .str y => some ((y.length : Int) != 0)
  | .tup xs => some (!xs.isEmpty)
  | .lst xs => some (!xs.isEmpty)
  | _ => none
def truthA (a : A) (h : Hh) : Option Bool := match a with
  | .d x => truthD x
  | a => (asLst a h).map fun xs => !xs.isEmpty
def ixA {α : Type} (xs : List α) (i : Int) : Option α := L2.atI xs i
def strAt (x : Str) (i : Int) : Option D := (L2.atI x.cps.toList i).map fun c => .str ⟨#[c]⟩
def cutL {α : Type} (xs : List α) (lo hi : Option Int) : List α := (xs.drop (HT.sIx xs.length 0 lo)).take (HT.sIx xs.length xs.length hi - HT.sIx xs.length 0 lo)

end MP
end S_MPs
section S_MPd
/-! MPd: expressions. -/
namespace MP
open PySem L2

section
variable {g : Gm} {X : Cx} {pos : Pos}

theorem ae_const {e : Expr} {x : D} {v : V} (h : PE X e (tC v)) (r : ∀ z, RelD X.K g z x v) : AE g X e (fun _ h => .ok (.d x) h) := by
  intro W tk
  refine h.impM fun σ H Q ⟨s, h, z, hz, c, rs, w⟩ => ?_
  subst hz
  exact w v z (Ext.refl z) c (r z)
theorem ae_int {i j} : AE g X (.Constant (.int i) j pos) (fun _ h => .ok (.d (.int i)) h) := ae_const pe_int fun _ => .int i
theorem ae_bl {b j} : AE g X (.Constant (.bool b) j pos) (fun _ h => .ok (.d (.bl b)) h) := ae_const pe_bl fun _ => .bl b
theorem ae_non {j} : AE g X (.Constant .none j pos) (fun _ h => .ok (.d .non) h) := ae_const pe_non fun _ => .non
theorem ae_str {x j} : AE g X (.Constant (.str x) j pos) (fun _ h => .ok (.d (.str x)) h) := ae_const pe_str fun _ => .str x

theorem opt_wp {α : Type} {o : Option α} {h : Hh} {Q : α → Hh → Prop} {W : D → Hh → Prop} (w : (opt o h).wp Q W) : ∃ a, o = some a ∧ Q a h := by
  cases o with
  | none => exact w.elim
  | some a => exact ⟨a, rfl, w⟩
def getS (s : Sl) (i : Nat) : Option A := match s[i]? with
  | some (some a) => some a
  | _ => none
theorem getS_some {s : Sl} {i : Nat} {a : A} (h : getS s i = some a) : s[i]? = some (some a) := by
  unfold getS at h
  split at h
  · cases h; assumption
  · cases h
theorem ae_var {i : Nat} {x : Str} (hN : X.N[i]? = some x) (hv : Vis X.env.scope x) (hd : (x == ("__debug__" : Str)) = false) (hcd : (x == ("__classdict__" : Str)) = false) : AE g X (.Name x pos) (fun s h => opt (getS s i) h) := by
  intro W tk
  refine (pe_var hN hv hd hcd).impM fun σ H Q ⟨s, h, z, hz, c, rs, w⟩ => ?_
  subst hz
  obtain ⟨a, e, q⟩ := opt_wp w
  obtain ⟨v, h1, h2⟩ := rs.2 i a (getS_some e)
  exact ⟨v, h1, q v z (Ext.refl z) c h2⟩

/-! ### two values, one operation that keeps the abstract heap -/
def liftR (K : PySem.W.Frag) (g : Gm) (f : A → A → Hh → Option A) : R2 := fun x y H Q => ∃ a b h z r, z.H = H ∧ Cn K g z h ∧ RelA K g z a x ∧ RelA K g z b y ∧ f a b h = some r ∧ okK K g z Q r h
theorem two_E {fa fb : Sl → Hh → Out A} {W : WX} {F : A → A → Hh → Out A} {R : V → V → Hp → VK → Prop} {σ : St} {H : Hp} {Q : VK}
    (hw : liftE X.K g W (fun s h => (fa s h).bind fun x h1 => (fb s h1).bind fun y h2 => F x y h2) σ H Q)
    (hR : ∀ s x y h z v u, Cn X.K g z h → RelSl X.K g z s σ → RelA X.K g z x v → RelA X.K g z y u → (F x y h).wp (okK X.K g z Q) (exK X.K g z σ W) → R v u z.H Q) :
    liftE X.K g W fa σ H fun v H1 => liftE X.K g W fb σ H1 fun u H2 => R v u H2 Q := by
  obtain ⟨s, h, z, hz, c, rs, w⟩ := hw
  refine ⟨s, h, z, hz, c, rs, Out.wp_mono (Out.wp_bind w) (fun x h1 w1 v z1 e1 c1 r1 => ?_) fun _ _ q => q⟩
  refine ⟨s, h1, z1, rfl, c1, rs.mono e1, Out.wp_mono (Out.wp_bind w1) (fun y h2 w2 u z2 e2 c2 r2 => ?_) fun _ _ q => q.ext e1⟩
  exact hR s x y h2 z2 v u c2 ((rs.mono e1).mono e2) (r1.mono e2) r2 (Out.wp_mono w2 (fun _ _ q => q.ext (e1.trans e2)) fun _ _ q => q.ext (e1.trans e2))
theorem ae_op {op : Operator} {a b : Expr} {fa fb : Sl → Hh → Out A} {f : A → A → Hh → Option A} (ho : OpR X (binaryOp op) (liftR X.K g f)) (ha : AE g X a fa) (hb : AE g X b fb) :
    AE g X (.BinOp a op b pos) (fun s h => (fa s h).bind fun x h1 => (fb s h1).bind fun y h2 => opt (f x y h2) h2) := by
  intro W tk
  refine (pe_op ho (ha W tk) (hb W tk)).impM fun σ H Q hw => ?_
  refine two_E (F := fun x y h2 => opt (f x y h2) h2) hw fun s x y h z v u c rs r1 r2 w => ?_
  obtain ⟨r, e, q⟩ := opt_wp w
  exact ⟨x, y, h, z, r, rfl, c, r1, r2, e, q⟩
theorem ae_cmpo {op : CmpOp} {a b : Expr} {fa fb : Sl → Hh → Out A} {f : A → A → Hh → Option A} (ho : OpR X (compareOp op) (liftR X.K g f)) (ha : AE g X a fa) (hb : AE g X b fb) (hm : behindInMarks op b = false) :
    AE g X (.Compare a [op] [b] pos) (fun s h => (fa s h).bind fun x h1 => (fb s h1).bind fun y h2 => opt (f x y h2) h2) := by
  intro W tk
  refine (pe_cmpR ho (ha W tk) (hb W tk) hm).impM fun σ H Q hw => ?_
  refine two_E (F := fun x y h2 => opt (f x y h2) h2) hw fun s x y h z v u c rs r1 r2 w => ?_
  obtain ⟨r, e, q⟩ := opt_wp w
  exact ⟨x, y, h, z, r, rfl, c, r1, r2, e, q⟩

/-! ### what values are -/
theorem RelD.int_inv {K : PySem.W.Frag} {z : Zn} {i : Int} {v : V} (r : RelD K g z (.int i) v) : v = .int i := by cases r; rfl
theorem RelD.str_inv {K : PySem.W.Frag} {z : Zn} {i : Str} {v : V} (r : RelD K g z (.str i) v) : v = .str i := by cases r; rfl
theorem RelD.bl_inv {K : PySem.W.Frag} {z : Zn} {i : Bool} {v : V} (r : RelD K g z (.bl i) v) : v = .bl i := by cases r; rfl
theorem RelD.non_inv {K : PySem.W.Frag} {z : Zn} {v : V} (r : RelD K g z .non v) : v = .non := by cases r; rfl
theorem RelD.tup_inv {K : PySem.W.Frag} {z : Zn} {xs : List D} {v : V} (r : RelD K g z (.tup xs) v) : ∃ p vs, v = .ref p ∧ SqT K z.H p vs ∧ RelL K g z xs vs := by
  cases r with
  | tup f x l t => exact ⟨_, _, rfl, .of x, l⟩
  | tupF f x d l t => exact ⟨_, _, rfl, .inl (.inr ⟨_, x⟩), l⟩
  | tupK k => exact ⟨_, _, rfl, .inr k, .nil⟩
theorem RelD.lst_inv {K : PySem.W.Frag} {z : Zn} {xs : List D} {v : V} (r : RelD K g z (.lst xs) v) : ∃ p vs, v = .ref p ∧ z.H p = some (.lst vs) ∧ RelL K g z xs vs := by
  cases r with
  | lst f x l => exact ⟨_, _, rfl, x, l⟩
theorem asLst_inv {K : PySem.W.Frag} {z : Zn} {h : Hh} {a : A} {xs : List A} {v : V} (c : Cn K g z h) (e : asLst a h = some xs) (r : RelA K g z a v) : ∃ p vs, v = .ref p ∧ z.H p = some (.lst vs) ∧ RelAs K g z xs vs := by
  unfold asLst at e
  split at e
  · cases e
    obtain ⟨p, vs, h1, h2, h3⟩ := RelD.lst_inv r
    exact ⟨p, vs, h1, h2, RelAs.ofL h3⟩
  · rename_i i
    split at e
    · rename_i ys hi
      cases e
      obtain ⟨p, hp, rfl⟩ := r
      obtain ⟨_, vs, h1, h2⟩ := c.ob i _ p hi hp
      exact ⟨p, vs, rfl, h1, h2⟩
    · cases e
  · cases e
theorem asSeq_inv {K : PySem.W.Frag} {z : Zn} {h : Hh} {a : A} {xs : List A} {v : V} (c : Cn K g z h) (e : asSeq a h = some xs) (r : RelA K g z a v) : ∃ p vs, v = .ref p ∧ (SqT K z.H p vs ∨ SqL K z.H p vs) ∧ RelAs K g z xs vs := by
  unfold asSeq at e
  split at e
  · cases e
    obtain ⟨p, vs, h1, h2, h3⟩ := RelD.tup_inv r
    exact ⟨p, vs, h1, .inl h2, RelAs.ofL h3⟩
  · obtain ⟨p, vs, h1, h2, h3⟩ := asLst_inv c e r
    exact ⟨p, vs, h1, .inr (.of h2), h3⟩
theorem allD_eq : ∀ {xs : List A} {ds : List D}, allD xs = some ds → xs = ds.map .d
  | [], _, h => by cases h; rfl
  | .d x :: r, ds, h => by
    unfold allD at h
    cases e : allD r with
    | none => rw [e] at h; cases h
    | some q =>
      rw [e] at h
      cases h
      rw [allD_eq e]
      rfl
  | .ref _ :: _, _, h => by cases h
theorem allD_map : ∀ ds : List D, allD (ds.map .d) = some ds
  | [] => rfl
  | x :: r => by simp [allD, allD_map r]

/-- a new frozen thing -/
theorem okK.frozen {K : PySem.W.Frag} {z : Zn} {h : Hh} {Q : VK} {x : D} {p : Addr} {o : HO} (q : okK K g z Q (.d x) h) (c : Cn K g z h) (hp : z.H p = none) (r : ∀ z', Ext z z' → z'.F p → z'.H p = some o → RelD K g z' x (.ref p)) : Q (.ref p) (upd z.H p o) :=
  q (.ref p) (z.frz p o) (Ext.frozen hp) (c.frozen hp) (r _ (Ext.frozen hp) (.inr rfl) upd_same)
theorem okK.same {K : PySem.W.Frag} {z : Zn} {h : Hh} {Q : VK} {a : A} {v : V} (q : okK K g z Q a h) (c : Cn K g z h) (r : RelA K g z a v) : Q v z.H := q v z (Ext.refl z) c r

/-! ### + -/
theorem opA_add : OpR X (binaryOp .Add) (liftR X.K g addA) := by
  intro pins s σ H x y v u Q I rx ry hw
  obtain ⟨a, b, h, z, r, hz, c, ra, rb, e, q⟩ := hw
  subst hz
  unfold addA at e
  split at e
  · cases e; cases ra; cases rb
    exact op_add pins s σ z.H _ _ v u Q I rx ry ⟨_, _, rfl, rfl, q.same c (.int _)⟩
  · split at e
    · cases e; cases ra; cases rb
      exact op_add_str pins s σ z.H _ _ v u Q I rx ry ⟨_, _, rfl, rfl, by assumption, q.same c (.str _)⟩
    · cases e
  · split at e
    · rename_i xs ys hl
      cases e
      obtain ⟨p, vs, rfl, t1, l1⟩ := RelD.tup_inv ra
      obtain ⟨p', vs', rfl, t2, l2⟩ := RelD.tup_inv rb
      refine op_catA pins s σ z.H _ _ v u Q I rx ry ⟨p, p', vs, vs', rfl, rfl, t1, t2, by rw [← l1.length, ← l2.length]; exact hl.1, fun e0 => ?_, fun _ e0 => ?_, fun _ _ q' hq => ?_⟩
      · subst e0
        cases l1
        exact q.same c rb
      · subst e0
        cases l2
        rw [List.append_nil] at q
        exact q.same c ra
      · exact q.frozen c hq fun z' ez f e => .tup f e ((l1.append l2).mono ez) hl.2
    · cases e
  · split at e
    · rename_i xs ys ha hb
      split at e
      · rename_i ds hd
        split at e
        · rename_i hl
          cases e
          obtain ⟨p, vs, rfl, t1, l1⟩ := asLst_inv c ha ra
          obtain ⟨p', vs', rfl, t2, l2⟩ := asLst_inv c hb rb
          have ee := allD_eq hd
          have hl' : vs.length + vs'.length ≤ sizeLine := by
            rw [← l1.length, ← l2.length, ← List.length_append, ee, List.length_map]
            exact hl
          refine op_cat pins s σ z.H _ _ v u Q I rx ry ⟨p, p', vs, vs', rfl, rfl, t1, t2, hl', fun q' hq => ?_⟩
          have l3 := l1.append l2
          rw [ee] at l3
          exact q.frozen c hq fun z' ez f e => .lst f e ((RelL.ofAs l3).mono ez)
        · cases e
      · cases e
    · cases e
theorem opA_sub : OpR X (binaryOp .Sub) (liftR X.K g fun a b _ => subA a b) := by
  intro pins s σ H x y v u Q I rx ry hw
  obtain ⟨a, b, h, z, r, hz, c, ra, rb, e, q⟩ := hw
  subst hz
  simp only [subA] at e
  split at e
  · cases e; cases ra; cases rb
    exact op_sub pins s σ z.H _ _ v u Q I rx ry ⟨_, _, rfl, rfl, q.same c (.int _)⟩
  · cases e
theorem opA_fdiv : OpR X (binaryOp .FloorDiv) (liftR X.K g fun a b _ => fdivA a b) := by
  intro pins s σ H x y v u Q I rx ry hw
  obtain ⟨a, b, h, z, r, hz, c, ra, rb, e, q⟩ := hw
  subst hz
  simp only [fdivA] at e
  split at e
  · split at e
    · cases e; cases ra; cases rb
      exact op_fdiv pins s σ z.H _ _ v u Q I rx ry ⟨_, _, rfl, rfl, by assumption, q.same c (.int _)⟩
    · cases e
  · cases e
theorem opA_mod : OpR X (binaryOp .Mod) (liftR X.K g fun a b _ => modA a b) := by
  intro pins s σ H x y v u Q I rx ry hw
  obtain ⟨a, b, h, z, r, hz, c, ra, rb, e, q⟩ := hw
  subst hz
  simp only [modA] at e
  split at e
  · split at e
    · cases e; cases ra; cases rb
      exact op_mod pins s σ z.H _ _ v u Q I rx ry ⟨_, _, rfl, rfl, by assumption, q.same c (.int _)⟩
    · cases e
  · cases e
theorem opA_pow : OpR X (binaryOp .Pow) (liftR X.K g fun a b _ => powA a b) := by
  intro pins s σ H x y v u Q I rx ry hw
  obtain ⟨a, b, h, z, r, hz, c, ra, rb, e, q⟩ := hw
  subst hz
  simp only [powA] at e
  split at e
  · split at e
    · cases e; cases ra; cases rb
      exact op_pow pins s σ z.H _ _ v u Q I rx ry ⟨_, _, rfl, rfl, by assumption, q.same c (.int _)⟩
    · cases e
  · cases e
theorem RelL.flat {K : PySem.W.Frag} {z : Zn} {xs : List D} {vs : List V} (l : RelL K g z xs vs) : ∀ n : Nat, RelL K g z (List.replicate n xs).flatten (List.replicate n vs).flatten
  | 0 => .nil
  | n + 1 => by
    rw [List.replicate_succ, List.replicate_succ, List.flatten_cons, List.flatten_cons]
    exact l.append (RelL.flat l n)
theorem opA_mul : OpR X (binaryOp .Mult) (liftR X.K g mulA) := by
  intro pins s σ H x y v u Q I rx ry hw
  obtain ⟨a, b, h, z, r, hz, c, ra, rb, e, q⟩ := hw
  subst hz
  unfold mulA at e
  split at e
  · split at e
    · cases e; cases ra; cases rb
      exact op_mul pins s σ z.H _ _ v u Q I rx ry ⟨_, _, rfl, rfl, by assumption, q.same c (.int _)⟩
    · cases e
  · split at e
    · rename_i xs k hk0
      obtain ⟨hk, hkt⟩ := hk0
      cases e
      cases rb
      obtain ⟨p, vs, rfl, t1, l1⟩ := RelD.tup_inv ra
      have hl := l1.length
      by_cases hk1 : k = 1
      · subst hk1
        have e1 : (List.replicate (1 : Int).toNat xs).flatten = xs := by simp
        rw [e1] at q
        exact op_rep1 pins s σ z.H _ _ v u Q I rx ry ⟨p, vs, rfl, rfl, t1, q.same c ra⟩
      have hk2 : 2 ≤ k := by omega
      refine op_repT pins s σ z.H _ _ v u Q I rx ry ⟨p, k, vs, rfl, rfl, t1, (fun e => by have h1 := hk.1; rw [hl, e] at h1; cases h1), hk2, hk.2.2, by omega, fun q' hq => ?_⟩
      exact q.frozen c hq fun z' ez f e => .tup f e ((l1.flat _).mono ez) hkt
    · cases e
  · split at e
    · rename_i xs ha
      split at e
      · rename_i ds hd
        split at e
        · rename_i hk
          cases e
          cases rb
          obtain ⟨p, vs, rfl, t1, l1⟩ := asLst_inv c ha ra
          have hl := l1.length
          rw [allD_eq hd] at l1 hl
          rw [List.length_map] at hl
          have l2 := RelL.ofAs l1
          refine op_rep pins s σ z.H _ _ v u Q I rx ry ⟨p, _, vs, rfl, rfl, t1, by omega, by omega, ?_, fun q' hq => ?_⟩
          · rw [← hl]
            exact Nat.le_trans (Nat.mul_le_mul hk.2.2 (Int.toNat_le.mpr hk.2.1)) (by decide : 1000 * 1000 ≤ sizeLine)
          · exact q.frozen c hq fun z' ez f e => .lst f e ((l2.flat _).mono ez)
        · cases e
      · cases e
    · cases e
  · cases e
end
end MP
end S_MPd
section S_MPe
/-! MPe: == and != of pure data, in. -/
namespace MP
open PySem L2 PySem.SeqAt

mutual
inductive Sh (h : Heap) : D → Value → Prop
  | non : Sh h .non .none
  | bl (b : Bool) : Sh h (.bl b) (.bool b)
  | int (i : Int) (t : Tok) : Sh h (.int i) (.int i t)
  | str (x : Str) (t : Tok) : Sh h (.str x) (.str x t)
  | tup {p : Addr} {xs : List D} {its : List Value} : h.IsTuple p its.toArray → ShL h xs its → Sh h (.tup xs) (.ref p)
  | lst {p : Addr} {xs : List D} {its : List Value} : h.IsList p its.toArray → ShL h xs its → Sh h (.lst xs) (.ref p)
inductive ShL (h : Heap) : List D → List Value → Prop
  | nil : ShL h [] []
  | cons {x : D} {xs : List D} {u : Value} {us : List Value} : Sh h x u → ShL h xs us → ShL h (x :: xs) (u :: us)
end
theorem ShL.length {h : Heap} : ∀ {xs : List D} {us : List Value}, ShL h xs us → xs.length = us.length
  | _, _, .nil => rfl
  | _, _, .cons _ r => by simp [ShL.length r]
theorem tup_inj {h : Heap} {p : Addr} {a b : List Value} (x : h.IsTuple p a.toArray) (y : h.IsTuple p b.toArray) : a = b := by
  obtain ⟨o, e, _, n, d⟩ := x
  obtain ⟨o', e', _, n', d'⟩ := y
  rw [e] at e'; cases e'
  rw [d] at d'; cases d'; rfl
theorem lst_inj {h : Heap} {p : Addr} {a b : List Value} (x : h.IsList p a.toArray) (y : h.IsList p b.toArray) : a = b := by
  obtain ⟨o, e, _, n, d⟩ := x
  obtain ⟨o', e', _, n', d'⟩ := y
  rw [e] at e'; cases e'
  rw [d] at d'; cases d'; rfl
theorem tup_lst {h : Heap} {p : Addr} {a b : Array Value} (x : h.IsTuple p a) (y : h.IsList p b) : False := by
  obtain ⟨o, e, c, _⟩ := x
  obtain ⟨o', e', c', _⟩ := y
  rw [e] at e'; cases e'
  rw [c] at c'; injection c' with c'; exact absurd c' (by decide)
mutual
theorem Sh.inj {h : Heap} : ∀ {x y : D} {u : Value}, Sh h x u → Sh h y u → x = y
  | _, _, _, .non, q => by cases q; rfl
  | _, _, _, .bl b, q => by cases q; rfl
  | _, _, _, .int i t, q => by cases q; rfl
  | _, _, _, .str i t, q => by cases q; rfl
  | _, _, _, .tup p l, q => by
    cases q with
    | tup p' l' => obtain rfl := tup_inj p p'; rw [ShL.inj l l']
    | lst p' l' => exact (tup_lst p p').elim
  | _, _, _, .lst p l, q => by
    cases q with
    | tup p' l' => exact (tup_lst p' p).elim
    | lst p' l' => obtain rfl := lst_inj p p'; rw [ShL.inj l l']
theorem ShL.inj {h : Heap} : ∀ {x y : List D} {u : List Value}, ShL h x u → ShL h y u → x = y
  | _, _, _, .nil, q => by cases q; rfl
  | _, _, _, .cons a b, q => by
    cases q with
    | cons a' b' => rw [Sh.inj a a', ShL.inj b b']
end
mutual
theorem Sh.refl {h : Heap} : ∀ {x : D} {u : Value}, Sh h x u → x.eqb x = true
  | _, _, .non => rfl
  | _, _, .bl b => by simp [D.eqb]
  | _, _, .int i t => by simp [D.eqb]
  | _, _, .str i t => by simp [D.eqb]
  | _, _, .tup p l => by rw [D.eqb]; exact ShL.refl l
  | _, _, .lst p l => by rw [D.eqb]; exact ShL.refl l
theorem ShL.refl {h : Heap} : ∀ {x : List D} {u : List Value}, ShL h x u → eqbL x x = true
  | _, _, .nil => rfl
  | _, _, .cons a b => by rw [eqbL, Sh.refl a, ShL.refl b]; rfl
end
/-- the j-th two are equal -/
def eqJ (xs ys : List D) (j : Nat) : Bool := (xs.getD j .non).eqb (ys.getD j .non)
theorem eqbL_range : ∀ xs ys : List D, ((List.range (min xs.length ys.length)).all (eqJ xs ys) && (xs.length == ys.length)) = eqbL xs ys
  | [], [] => rfl
  | [], _ :: _ => by simp [eqbL]
  | _ :: _, [] => by simp [eqbL]
  | x :: xs, y :: ys => by
    have ih := eqbL_range xs ys
    have m1 : min (x :: xs).length (y :: ys).length = min xs.length ys.length + 1 := by rw [List.length_cons, List.length_cons]; omega
    have m2 : (List.range (min xs.length ys.length + 1)).all (eqJ (x :: xs) (y :: ys)) = (x.eqb y && (List.range (min xs.length ys.length)).all (eqJ xs ys)) := by
      rw [List.range_succ_eq_map, List.all_cons, List.all_map]
      rfl
    have m3 : ((x :: xs).length == (y :: ys).length) = (xs.length == ys.length) := by simp
    rw [m1, m2, m3, eqbL, ← ih, Bool.and_assoc]
theorem eqbL_len {xs ys : List D} (h : xs.length ≠ ys.length) : eqbL xs ys = false := by rw [← eqbL_range]; simp [h]

section
variable {A : Around} {s : Shared}
/-- == of two lists' items, from that of the items -/
theorem rc_lists {p q : Addr} {xs ys : List D} {us vs : List Value} (hp : s.heap.IsList p us.toArray) (hq : s.heap.IsList q vs.toArray) (lx : xs.length = us.length) (ly : ys.length = vs.length) (hu : A.units < cLine)
    (he : ∀ j (h1 : j < us.length) (h2 : j < vs.length), EqAt A.in1 s us[j] vs[j] (eqJ xs ys j)) : RcAt A s (.ref p) (.ref q) (eqbL xs ys) := by
  by_cases hl : us.length = vs.length
  · have e0 : (List.range us.toArray.size).all (eqJ xs ys) = eqbL xs ys := by
      rw [← eqbL_range, lx, ly, ← hl, Nat.min_self]; simp
    rw [← e0]
    exact RcAt.lists hp hq (by simpa using hl) hu fun j h1 h2 => by simpa using he j (by simpa using h1) (by simpa using h2)
  · rw [eqbL_len (by omega)]
    exact RcAt.lists_lengths hp hq (by simpa using hl) hu
theorem rc_tups {p q : Addr} {xs ys : List D} {us vs : List Value} (hp : s.heap.IsTuple p us.toArray) (hq : s.heap.IsTuple q vs.toArray) (lx : xs.length = us.length) (ly : ys.length = vs.length) (hu : A.units < cLine)
    (he : ∀ j (h1 : j < us.length) (h2 : j < vs.length), EqAt A.in1 s us[j] vs[j] (eqJ xs ys j)) : RcAt A s (.ref p) (.ref q) (eqbL xs ys) := by
  have e0 : ((List.range (min us.toArray.size vs.toArray.size)).all (eqJ xs ys) && us.toArray.size == vs.toArray.size) = eqbL xs ys := by
    rw [← eqbL_range, lx, ly]; simp
  rw [← e0]
  exact RcAt.tuples hp hq hu fun j h1 h2 => by simpa using he j (by simpa using h1) (by simpa using h2)
end
theorem depth_le {xs : List D} {x : D} (h : x ∈ xs) : x.depth ≤ depthL xs := by
  induction xs with
  | nil => cases h
  | cons y r ih =>
    rw [depthL]
    rcases List.mem_cons.mp h with rfl | h
    · omega
    · have := ih h; omega
mutual
theorem Sh.eqAt : ∀ {x y : D} {A : Around} {s : Shared} {u v : Value}, Sh s.heap x u → Sh s.heap y v → A.units + min x.depth y.depth < cLine → EqAt A s u v (x.eqb y)
  | _, _, A, s, _, _, .non, q, hu => by
    cases q with
    | non => exact EqAt.same _
    | bl b => exact EqAt.none_bool b
    | int i t => exact EqAt.none_int i t
    | str i t => exact EqAt.none_str i t
    | tup p l => exact EqAt.none_tuple p (by omega)
    | lst p l => exact EqAt.none_list p (by omega)
  | _, _, A, s, _, _, .bl c, q, hu => by
    cases q with
    | non => exact EqAt.bool_none c
    | bl b => exact EqAt.bool_bool c b
    | int i t => exact EqAt.bool_int c i t
    | str i t => exact EqAt.bool_str c i t
    | tup p l => exact EqAt.bool_tuple c p (by omega)
    | lst p l => exact EqAt.bool_list c p (by omega)
  | _, _, A, s, _, _, .int j t', q, hu => by
    cases q with
    | non => exact EqAt.int_none j t'
    | bl b => exact EqAt.int_bool j t' b
    | int i t => exact EqAt.int_int j t' i t
    | str i t => exact EqAt.int_str j t' i t
    | tup p l => exact EqAt.int_tuple j t' p (by omega)
    | lst p l => exact EqAt.int_list j t' p (by omega)
  | _, _, A, s, _, _, .str j t', q, hu => by
    cases q with
    | non => exact EqAt.str_none j t'
    | bl b => exact EqAt.str_bool j t' b
    | int i t => exact EqAt.str_int j t' i t
    | str i t => exact EqAt.str_str j t' i t
    | tup p l => exact EqAt.str_tuple j t' p (by omega)
    | lst p l => exact EqAt.str_list j t' p (by omega)
  | _, _, A, s, _, _, .tup (p := a) (xs := xs) (its := us) p l, q, hu => by
    cases q with
    | non => exact EqAt.tuple_none p (by omega)
    | bl b => exact EqAt.tuple_bool b p (by omega)
    | int i t => exact EqAt.tuple_int i t p (by omega)
    | str i t => exact EqAt.tuple_str i t p (by omega)
    | lst p' l' => exact EqAt.tuple_list p p' (by omega)
    | @tup b ys vs p' l' =>
      show EqAt A s _ _ (eqbL xs ys)
      by_cases e : a = b
      · subst e
        obtain rfl := tup_inj p p'
        obtain rfl := ShL.inj l l'
        rw [ShL.refl l]
        exact EqAt.same _
      · refine EqAt.of_refs e (rc_tups p p' l.length l'.length (by omega) fun j h1 h2 => ShL.eqAt l l' (by rw [D.depth, D.depth] at hu; show A.units + 1 + min (depthL xs) (depthL ys) < cLine; omega) j h1 h2)
  | _, _, A, s, _, _, .lst (p := a) (xs := xs) (its := us) p l, q, hu => by
    cases q with
    | non => exact EqAt.list_none p (by omega)
    | bl b => exact EqAt.list_bool b p (by omega)
    | int i t => exact EqAt.list_int i t p (by omega)
    | str i t => exact EqAt.list_str i t p (by omega)
    | tup p' l' => exact EqAt.list_tuple p p' (by omega)
    | @lst b ys vs p' l' =>
      show EqAt A s _ _ (eqbL xs ys)
      by_cases e : a = b
      · subst e
        obtain rfl := lst_inj p p'
        obtain rfl := ShL.inj l l'
        rw [ShL.refl l]
        exact EqAt.same _
      · refine EqAt.of_refs e (rc_lists p p' l.length l'.length (by omega) fun j h1 h2 => ShL.eqAt l l' (by rw [D.depth, D.depth] at hu; show A.units + 1 + min (depthL xs) (depthL ys) < cLine; omega) j h1 h2)
theorem ShL.eqAt : ∀ {xs ys : List D} {A : Around} {s : Shared} {us vs : List Value}, ShL s.heap xs us → ShL s.heap ys vs → A.units + min (depthL xs) (depthL ys) < cLine → ∀ j (h1 : j < us.length) (h2 : j < vs.length), EqAt A s us[j] vs[j] (eqJ xs ys j)
  | _, _, A, s, _, _, .nil, _, _, j, h1, _ => absurd h1 (Nat.not_lt_zero _)
  | _, _, A, s, _, _, .cons _ _, .nil, _, j, _, h2 => absurd h2 (Nat.not_lt_zero _)
  | _, _, A, s, _, _, .cons (x := x) a r, .cons (x := y) b q, hu, 0, _, _ => by
    have := Sh.eqAt (A := A) a b (by rw [depthL, depthL] at hu; omega)
    exact this
  | _, _, A, s, _, _, .cons a r, .cons b q, hu, j + 1, h1, h2 => ShL.eqAt r q (by rw [depthL, depthL] at hu; omega) j (Nat.lt_of_succ_lt_succ h1) (Nat.lt_of_succ_lt_succ h2)
end
theorem Sh.rcAt {x y : D} {A : Around} {s : Shared} {u v : Value} (p : Sh s.heap x u) (q : Sh s.heap y v) (hu : A.units + min x.depth y.depth < cLine) : RcAt A s u v (x.eqb y) := by
  cases p with
  | non =>
    cases q with
    | non => exact RcAt.none_none
    | bl b => exact RcAt.none_bool b
    | int i t => exact RcAt.none_int i t
    | str i t => exact RcAt.none_str i t
    | tup p l => exact RcAt.none_tuple p (by omega)
    | lst p l => exact RcAt.none_list p (by omega)
  | bl c =>
    cases q with
    | non => exact RcAt.bool_none c
    | bl b => exact RcAt.bool_bool c b
    | int i t => exact RcAt.bool_int c i t
    | str i t => exact RcAt.bool_str c i t
    | tup p l => exact RcAt.bool_tuple c p (by omega)
    | lst p l => exact RcAt.bool_list c p (by omega)
  | int j t' =>
    cases q with
    | non => exact RcAt.int_none j t'
    | bl b => exact RcAt.int_bool j t' b
    | int i t => exact RcAt.int_int j t' i t
    | str i t => exact RcAt.int_str j t' i t
    | tup p l => exact RcAt.int_tuple j t' p (by omega)
    | lst p l => exact RcAt.int_list j t' p (by omega)
  | str j t' =>
    cases q with
    | non => exact RcAt.str_none j t'
    | bl b => exact RcAt.str_bool j t' b
    | int i t => exact RcAt.str_int j t' i t
    | str i t => exact RcAt.str_str j t' i t
    | tup p l => exact RcAt.str_tuple j t' p (by omega)
    | lst p l => exact RcAt.str_list j t' p (by omega)
  | @tup a xs us p l =>
    cases q with
    | non => exact RcAt.tuple_none p (by omega)
    | bl b => exact RcAt.tuple_bool b p (by omega)
    | int i t => exact RcAt.tuple_int i t p (by omega)
    | str i t => exact RcAt.tuple_str i t p (by omega)
    | lst p' l' => exact RcAt.tuple_list p p' (by omega)
    | @tup b ys vs p' l' => exact rc_tups p p' l.length l'.length (by omega) fun j h1 h2 => ShL.eqAt l l' (by rw [D.depth, D.depth] at hu; show A.units + 1 + min (depthL xs) (depthL ys) < cLine; omega) j h1 h2
  | @lst a xs us p l =>
    cases q with
    | non => exact RcAt.list_none p (by omega)
    | bl b => exact RcAt.list_bool b p (by omega)
    | int i t => exact RcAt.list_int i t p (by omega)
    | str i t => exact RcAt.list_str i t p (by omega)
    | tup p' l' => exact RcAt.list_tuple p p' (by omega)
    | @lst b ys vs p' l' => exact rc_lists p p' l.length l'.length (by omega) fun j h1 h2 => ShL.eqAt l l' (by rw [D.depth, D.depth] at hu; show A.units + 1 + min (depthL xs) (depthL ys) < cLine; omega) j h1 h2
section
variable {A : Around} {s : Shared}
theorem rcn_lists {p q : Addr} {xs ys : List D} {us vs : List Value} (hp : s.heap.IsList p us.toArray) (hq : s.heap.IsList q vs.toArray) (lx : xs.length = us.length) (ly : ys.length = vs.length) (hu : A.units < cLine)
    (he : ∀ j (h1 : j < us.length) (h2 : j < vs.length), EqAt A.in1 s us[j] vs[j] (eqJ xs ys j)) : RcNeAt A s (.ref p) (.ref q) (!eqbL xs ys) := by
  by_cases hl : us.length = vs.length
  · have e0 : (List.range us.toArray.size).all (eqJ xs ys) = eqbL xs ys := by
      rw [← eqbL_range, lx, ly, ← hl, Nat.min_self]; simp
    rw [← e0]
    exact RcNeAt.lists hp hq (by simpa using hl) hu fun j h1 h2 => by simpa using he j (by simpa using h1) (by simpa using h2)
  · rw [eqbL_len (by omega)]
    exact RcNeAt.lists_lengths hp hq (by simpa using hl) hu
theorem rcn_tups {p q : Addr} {xs ys : List D} {us vs : List Value} (hp : s.heap.IsTuple p us.toArray) (hq : s.heap.IsTuple q vs.toArray) (lx : xs.length = us.length) (ly : ys.length = vs.length) (hu : A.units < cLine)
    (he : ∀ j (h1 : j < us.length) (h2 : j < vs.length), EqAt A.in1 s us[j] vs[j] (eqJ xs ys j)) : RcNeAt A s (.ref p) (.ref q) (!eqbL xs ys) := by
  have e0 : ((List.range (min us.toArray.size vs.toArray.size)).all (eqJ xs ys) && us.toArray.size == vs.toArray.size) = eqbL xs ys := by
    rw [← eqbL_range, lx, ly]; simp
  rw [← e0]
  exact RcNeAt.tuples hp hq hu fun j h1 h2 => by simpa using he j (by simpa using h1) (by simpa using h2)
end
theorem Sh.rcNeAt {x y : D} {A : Around} {s : Shared} {u v : Value} (p : Sh s.heap x u) (q : Sh s.heap y v) (hu : A.units + min x.depth y.depth < cLine) : RcNeAt A s u v (!x.eqb y) := by
  cases p with
  | non =>
    cases q with
    | non => exact RcNeAt.none_none
    | bl b => exact RcNeAt.none_bool b
    | int i t => exact RcNeAt.none_int i t
    | str i t => exact RcNeAt.none_str i t
    | tup p l => exact RcNeAt.none_tuple p (by omega)
    | lst p l => exact RcNeAt.none_list p (by omega)
  | bl c =>
    cases q with
    | non => exact RcNeAt.bool_none c
    | bl b => exact RcNeAt.bool_bool c b
    | int i t => exact RcNeAt.bool_int c i t
    | str i t => exact RcNeAt.bool_str c i t
    | tup p l => exact RcNeAt.bool_tuple c p (by omega)
    | lst p l => exact RcNeAt.bool_list c p (by omega)
  | int j t' =>
    cases q with
    | non => exact RcNeAt.int_none j t'
    | bl b => exact RcNeAt.int_bool j t' b
    | int i t => exact RcNeAt.int_int j t' i t
    | str i t => exact RcNeAt.int_str j t' i t
    | tup p l => exact RcNeAt.int_tuple j t' p (by omega)
    | lst p l => exact RcNeAt.int_list j t' p (by omega)
  | str j t' =>
    cases q with
    | non => exact RcNeAt.str_none j t'
    | bl b => exact RcNeAt.str_bool j t' b
    | int i t => exact RcNeAt.str_int j t' i t
    | str i t => exact RcNeAt.str_str j t' i t
    | tup p l => exact RcNeAt.str_tuple j t' p (by omega)
    | lst p l => exact RcNeAt.str_list j t' p (by omega)
  | @tup a xs us p l =>
    cases q with
    | non => exact RcNeAt.tuple_none p (by omega)
    | bl b => exact RcNeAt.tuple_bool b p (by omega)
    | int i t => exact RcNeAt.tuple_int i t p (by omega)
    | str i t => exact RcNeAt.tuple_str i t p (by omega)
    | lst p' l' => exact RcNeAt.tuple_list p p' (by omega)
    | @tup b ys vs p' l' => exact rcn_tups p p' l.length l'.length (by omega) fun j h1 h2 => ShL.eqAt l l' (by rw [D.depth, D.depth] at hu; show A.units + 1 + min (depthL xs) (depthL ys) < cLine; omega) j h1 h2
  | @lst a xs us p l =>
    cases q with
    | non => exact RcNeAt.list_none p (by omega)
    | bl b => exact RcNeAt.list_bool b p (by omega)
    | int i t => exact RcNeAt.list_int i t p (by omega)
    | str i t => exact RcNeAt.list_str i t p (by omega)
    | tup p' l' => exact RcNeAt.list_tuple p p' (by omega)
    | @lst b ys vs p' l' => exact rcn_lists p p' l.length l'.length (by omega) fun j h1 h2 => ShL.eqAt l l' (by rw [D.depth, D.depth] at hu; show A.units + 1 + min (depthL xs) (depthL ys) < cLine; omega) j h1 h2
end MP
end S_MPe
section S_MPf
/-! MPf: operators and comparisons by values. -/
namespace MP
open PySem L2 PySem.SeqAt

section
variable {g : Gm} {X : Cx} {pins : List (Addr × Obj)} {σ : St} {z : Zn} {s : Shared}
mutual
theorem RelD.sh (I : L2.Inv X pins σ z.H s) : ∀ {x : D} {v : V} {u : Value}, RelD X.K g z x v → RelV v u → x.pure = true → Sh s.heap x u
  | _, _, _, .non, r, _ => by cases r; exact .non
  | _, _, _, .bl b, r, _ => by cases r; exact .bl b
  | _, _, _, .int i, r, _ => by obtain ⟨t, rfl⟩ := r; exact .int i t
  | _, _, _, .str x, r, _ => by obtain ⟨t, rfl⟩ := r; exact .str x t
  | _, _, _, .tup f x l t, r, p => by
    cases r
    obtain ⟨its, h1, h2, _⟩ := I.tuple (.of x)
    exact .tup h2 (RelL.sh I l h1 (by simpa [D.pure] using p))
  | _, _, _, .tupF f x d l t, r, p => by
    cases r
    obtain ⟨its, h1, h2, _⟩ := I.tuple (.inl (.inr ⟨_, x⟩))
    exact .tup h2 (RelL.sh I l h1 (by simpa [D.pure] using p))
  | _, _, _, .tupK k, r, p => by
    cases r
    obtain ⟨its, h1, h2, _⟩ := I.tuple (.inr k)
    cases h1
    exact .tup h2 .nil
  | _, _, _, .lst f x l, r, p => by
    cases r
    obtain ⟨its, h1, h2, _⟩ := I.list (.of x)
    exact .lst h2.isList (RelL.sh I l h1 (by simpa [D.pure] using p))
  | _, _, _, .dk .., _, p => by simp [D.pure] at p
  | _, _, _, .dt .., _, p => by simp [D.pure] at p
  | _, _, _, .obj .., _, p => by simp [D.pure] at p
  | _, _, _, .fn .., _, p => by simp [D.pure] at p
  | _, _, _, .cls .., _, p => by simp [D.pure] at p
  | _, _, _, .scr .., _, p => by simp [D.pure] at p
  | _, _, _, .scrK .., _, p => by simp [D.pure] at p
theorem RelL.sh (I : L2.Inv X pins σ z.H s) : ∀ {x : List D} {v : List V} {u : List Value}, RelL X.K g z x v → Vals v u → pureL x = true → ShL s.heap x u
  | _, _, _, .nil, r, _ => by cases r; exact .nil
  | _, _, _, .cons a b, r, p => by
    cases r with
    | cons r1 r2 =>
      rw [pureL, Bool.and_eq_true] at p
      exact .cons (RelD.sh I a r1 p.1) (RelL.sh I b r2 p.2)
end

/-- pure data that an abstract value is (a mutable list read as it is) -/
def asP (a : A) (h : Hh) : Option D := match a with
  | .d x => if x.pure = true then some x else none
  | .ref i => match h[i]? with
    | some (.lst xs) => match allD xs with
      | some ds => if pureL ds = true then some (.lst ds) else none
      | none => none
    | _ => none
theorem asP_sh {h : Hh} {a : A} {x : D} {v : V} {u : Value} (I : L2.Inv X pins σ z.H s) (c : Cn X.K g z h) (e : asP a h = some x) (r : RelA X.K g z a v) (rv : RelV v u) : Sh s.heap x u := by
  unfold asP at e
  split at e
  · split at e
    · cases e; exact RelD.sh I r rv (by assumption)
    · cases e
  · rename_i i
    split at e
    · rename_i xs hi
      split at e
      · rename_i ds hd
        split at e
        · rename_i hp
          cases e
          obtain ⟨p, hp', rfl⟩ := r
          obtain ⟨_, vs, h1, h2⟩ := c.ob i _ p hi hp'
          rw [allD_eq hd] at h2
          cases rv
          obtain ⟨its, r1, r2, _⟩ := I.list (.of h1)
          exact .lst r2.isList (RelL.sh I (RelL.ofAs h2) r1 hp)
        · cases e
      · cases e
    · cases e
def eqA (a b : A) (h : Hh) : Option A := match asP a h, asP b h with
  | some x, some y => if min x.depth y.depth ≤ 64 then some (.d (.bl (x.eqb y))) else none
  | _, _ => none
def neA (a b : A) (h : Hh) : Option A := match asP a h, asP b h with
  | some x, some y => if min x.depth y.depth ≤ 64 then some (.d (.bl (!x.eqb y))) else none
  | _, _ => none
theorem opA_eq (hu : X.A.units + 64 < cLine) : OpR X (compareOp .Eq) (liftR X.K g eqA) := by
  intro pins s σ H x y v u Q I rx ry hw
  obtain ⟨a, b, h, z, r, hz, c, ra, rb, e, q⟩ := hw
  subst hz
  unfold eqA at e
  split at e
  · rename_i dx dy ex ey
    split at e
    · cases e
      exact Sh.rcAt (asP_sh I c ex ra rx) (asP_sh I c ey rb ry) (by omega) _ _ _ _ ⟨.bl _, z.H, I, rfl, q.same c (.bl _)⟩
    · cases e
  · cases e
theorem opA_ne (hu : X.A.units + 64 < cLine) : OpR X (compareOp .NotEq) (liftR X.K g neA) := by
  intro pins s σ H x y v u Q I rx ry hw
  obtain ⟨a, b, h, z, r, hz, c, ra, rb, e, q⟩ := hw
  subst hz
  unfold neA at e
  split at e
  · rename_i dx dy ex ey
    split at e
    · cases e
      exact Sh.rcNeAt (asP_sh I c ex ra rx) (asP_sh I c ey rb ry) (by omega) _ _ _ _ ⟨.bl _, z.H, I, rfl, q.same c (.bl _)⟩
    · cases e
  · cases e
/-! ### in -/
open Classical in
noncomputable def isEq (h : Heap) (x : D) (u : Value) : Bool := decide (∃ d, Sh h d u ∧ d.eqb x = true)
open Classical in
theorem isEq_of {h : Heap} {x d : D} {u : Value} (p : Sh h d u) : isEq h x u = d.eqb x := by
  unfold isEq
  cases e : d.eqb x with
  | true => exact decide_eq_true ⟨d, p, e⟩
  | false =>
    refine decide_eq_false fun ⟨d', q, e'⟩ => ?_
    rw [Sh.inj q p, e] at e'; cases e'
theorem any_isEq {h : Heap} {x : D} : ∀ {ds : List D} {us : List Value}, ShL h ds us → us.any (isEq h x) = ds.any fun d => d.eqb x
  | _, _, .nil => rfl
  | _, _, .cons a b => by rw [List.any_cons, List.any_cons, isEq_of a, any_isEq b]
theorem ShL.mem {h : Heap} : ∀ {ds : List D} {us : List Value} {u : Value}, ShL h ds us → u ∈ us → ∃ d ∈ ds, Sh h d u
  | _, _, _, .cons a b, m => by
    rcases List.mem_cons.mp m with rfl | m
    · exact ⟨_, List.mem_cons_self, a⟩
    · obtain ⟨d, h1, h2⟩ := ShL.mem b m
      exact ⟨d, List.mem_cons_of_mem _ h1, h2⟩
def asDk (a : A) (h : Hh) : Option (List (Key × A)) := match a with
  | .d (.dk kvs) => some (kvs.map fun kv => (kv.1, A.d kv.2))
  | .ref i => match h[i]? with
    | some (.dk kvs) => some kvs
    | _ => none
  | _ => none
def asDt (a : A) (h : Hh) : Option (List (List Key × A)) := match a with
  | .d (.dt kvs) => some (kvs.map fun kv => (kv.1, A.d kv.2))
  | .ref i => match h[i]? with
    | some (.dt kvs) => some kvs
    | _ => none
  | _ => none
/-- what stands in a table under a key: none if it is no table, or the key no key of such a one -/
def lookA (b a : A) (h : Hh) : Option (Option A) := match asDk b h with
  | some kvs => match a with
    | .d x => match keyD x with
      | some k => some (look kvs k)
      | none => none
    | _ => none
  | none => match asDt b h with
    | some kvs => match a with
      | .d (.tup (x :: xs)) => match keysD (x :: xs) with
        | some k => some (look kvs k)
        | none => none
      | _ => none
    | none => none
def inA (a b : A) (h : Hh) : Option Bool := match lookA b a h with
  | some r => some r.isSome
  | none => match b with
    | .d (.str y) => match a with
      | .d (.str x) => match x.cps.toList with
        | [c] => some (decide (c ∈ y.cps.toList))
        | _ => none
      | _ => none
    | b => match asP a h, asP b h with
      | some x, some (.lst ys) => if x.depth ≤ 64 then some (ys.any fun d => d.eqb x) else none
      | some x, some (.tup ys) => if x.depth ≤ 64 then some (ys.any fun d => d.eqb x) else none
      | _, _ => none
def inA1 (a b : A) (h : Hh) : Option A := (inA a b h).map fun r => .d (.bl r)
def inA0 (a b : A) (h : Hh) : Option A := (inA a b h).map fun r => .d (.bl (!r))
theorem str_one {x : Str} {c : Nat} (h : x.cps.toList = [c]) : x = ⟨#[c]⟩ := by
  cases x with
  | mk cps => 
    congr
    have : cps.toList.toArray = [c].toArray := by rw [h]
    simpa using this

theorem zip_map {κ α β : Type} (f : α → β) : ∀ (ks : List κ) (xs : List α), (ks.zip xs).map (fun kv => (kv.1, f kv.2)) = ks.zip (xs.map f)
  | [], _ => by simp
  | _ :: _, [] => by simp
  | k :: ks, x :: xs => by simp [zip_map f ks xs]
theorem zip_fst_snd {κ α : Type} : ∀ (kvs : List (κ × α)), (kvs.map (·.1)).zip (kvs.map (·.2)) = kvs
  | [] => rfl
  | (k, v) :: r => by simp [zip_fst_snd r]
theorem asDk_inv {K : PySem.W.Frag} {h : Hh} {a : A} {kvs : List (Key × A)} {v : V} (c : Cn K g z h) (e : asDk a h = some kvs) (r : RelA K g z a v) : ∃ p vs, v = .ref p ∧ Rd z.H p (.dK ((kvs.map (·.1)).zip vs)) ∧ RelAs K g z (kvs.map (·.2)) vs := by
  unfold asDk at e
  split at e
  · cases e
    cases r with
    | @dk p ks xs vs f x l l1 =>
      refine ⟨p, vs, rfl, ?_, ?_⟩
      · rw [List.map_map]
        have hl := l1.length
        have e1 : List.map ((fun x => x.1) ∘ fun kv : Key × D => (kv.1, A.d kv.2)) (ks.zip xs) = ks := by
          have : ((fun x : Key × A => x.1) ∘ fun kv : Key × D => (kv.1, A.d kv.2)) = Prod.fst := rfl
          rw [this, List.map_fst_zip (by omega)]
        rw [e1]; exact x.rd
      · rw [List.map_map]
        have hl := l1.length
        have e1 : List.map ((fun x => x.2) ∘ fun kv : Key × D => (kv.1, A.d kv.2)) (ks.zip xs) = xs.map .d := by
          have : ((fun x : Key × A => x.2) ∘ fun kv : Key × D => (kv.1, A.d kv.2)) = A.d ∘ Prod.snd := rfl
          rw [this, ← List.map_map, List.map_snd_zip (by omega)]
        rw [e1]; exact RelAs.ofL l1
  · rename_i i
    split at e
    · rename_i ys hi
      cases e
      obtain ⟨p, hp, rfl⟩ := r
      obtain ⟨_, vs, h1, h2⟩ := c.ob i _ p hi hp
      exact ⟨p, vs, rfl, .inl h1, h2⟩
    · cases e
  · cases e
theorem asDt_inv {K : PySem.W.Frag} {h : Hh} {a : A} {kvs : List (List Key × A)} {v : V} (c : Cn K g z h) (e : asDt a h = some kvs) (r : RelA K g z a v) : ∃ p vs, v = .ref p ∧ Rd z.H p (.dT ((kvs.map (·.1)).zip vs)) ∧ RelAs K g z (kvs.map (·.2)) vs := by
  unfold asDt at e
  split at e
  · cases e
    cases r with
    | @dt p ks xs vs f x l l1 =>
      refine ⟨p, vs, rfl, ?_, ?_⟩
      · rw [List.map_map]
        have hl := l1.length
        have e1 : List.map ((fun x => x.1) ∘ fun kv : List Key × D => (kv.1, A.d kv.2)) (ks.zip xs) = ks := by
          have : ((fun x : List Key × A => x.1) ∘ fun kv : List Key × D => (kv.1, A.d kv.2)) = Prod.fst := rfl
          rw [this, List.map_fst_zip (by omega)]
        rw [e1]; exact x.rd
      · rw [List.map_map]
        have hl := l1.length
        have e1 : List.map ((fun x => x.2) ∘ fun kv : List Key × D => (kv.1, A.d kv.2)) (ks.zip xs) = xs.map .d := by
          have : ((fun x : List Key × A => x.2) ∘ fun kv : List Key × D => (kv.1, A.d kv.2)) = A.d ∘ Prod.snd := rfl
          rw [this, ← List.map_map, List.map_snd_zip (by omega)]
        rw [e1]; exact RelAs.ofL l1
  · rename_i i
    split at e
    · rename_i ys hi
      cases e
      obtain ⟨p, hp, rfl⟩ := r
      obtain ⟨_, vs, h1, h2⟩ := c.ob i _ p hi hp
      exact ⟨p, vs, rfl, .inl h1, h2⟩
    · cases e
  · cases e
theorem keyD_eq {x : D} {k : Key} (h : keyD x = some k) : x = kD k := by
  unfold keyD at h
  split at h <;> cases h <;> rfl
theorem keyD_v {K : PySem.W.Frag} {x : D} {k : Key} {v : V} (h : keyD x = some k) (r : RelD K g z x v) : v = kV k := by
  rw [keyD_eq h] at r
  cases k <;> cases r <;> rfl
theorem keysD_v {K : PySem.W.Frag} : ∀ {xs : List D} {ks : List Key} {vs : List V}, keysD xs = some ks → RelL K g z xs vs → vs = ks.map kV
  | [], _, _, h, r => by cases h; cases r; rfl
  | x :: xs, ks, vs, h, r => by
    unfold keysD at h
    split at h
    · rename_i k ks' h1 h2
      cases h
      cases r with
      | cons a b => rw [keyD_v h1 a, keysD_v h2 b]; rfl
    · cases h
theorem keysD_turns : ∀ {xs : List D} {k : List Key}, keysD xs = some k → turnsD xs = false
  | [], _, _ => rfl
  | x :: xs, k, h => by
    unfold turnsD
    split
    · rename_i e
      rw [e] at h
      simp [keysD, keyD] at h
    · rfl
theorem RelD.tup1_inv {K : PySem.W.Frag} {x : D} {xs : List D} {v : V} {k : List Key} (r : RelD K g z (.tup (x :: xs)) v) (hk : keysD (x :: xs) = some k) : ∃ p vs, v = .ref p ∧ z.H p = some (.tup vs) ∧ RelL K g z (x :: xs) vs := by
  cases r with
  | tup f x l t => exact ⟨_, _, rfl, x, l⟩
  | tupF f x d l t => rw [keysD_turns hk] at t; cases t
theorem look_nil {κ α : Type} [DecidableEq κ] (k : κ) : look ([] : List (κ × α)) k = none := rfl
theorem look_cons {κ α : Type} [DecidableEq κ] (k j : κ) (a : α) (r : List (κ × α)) : look ((j, a) :: r) k = if j = k then some a else look r k := by
  unfold look
  by_cases e : j = k
  · simp [e]
  · simp [e]
theorem look_val {K : PySem.W.Frag} {κ : Type} [DecidableEq κ] (k : κ) : ∀ {kvs : List (κ × A)} {vs : List V}, RelAs K g z (kvs.map (·.2)) vs →
    (look kvs k = none → valV ((kvs.map (·.1)).zip vs) k = none) ∧ ∀ a, look kvs k = some a → ∃ v, valV ((kvs.map (·.1)).zip vs) k = some v ∧ RelA K g z a v
  | [], _, r => ⟨(fun _ => by cases r; rfl), fun a h => by simp [look] at h⟩
  | (j, a) :: kvs, _, .cons (v := v) (vs := vs) x r => by
    have ih := look_val k (kvs := kvs) r
    rw [look_cons]
    show _ ∧ ∀ b, _ → ∃ w, valV ((j, v) :: (kvs.map (·.1)).zip vs) k = some w ∧ _
    by_cases e : j = k
    · rw [if_pos e]
      refine ⟨fun h => (nomatch h), fun b h => ?_⟩
      cases h
      exact ⟨v, valV_pos e, x⟩
    · rw [if_neg e]
      refine ⟨fun h => ?_, fun b h => ?_⟩
      · show valV ((j, v) :: (kvs.map (·.1)).zip vs) k = none
        rw [valV_neg e]; exact ih.1 h
      · rw [valV_neg e]; exact ih.2 b h
/-- the hand layer's look-up of ours -/
theorem lookA_get {K : PySem.W.Frag} {h : Hh} {a b : A} {r : Option A} {va vb : V} (c : Cn K g z h) (e : lookA b a h = some r) (ra : RelA K g z a va) (rb : RelA K g z b vb) : ∃ p o, vb = .ref p ∧ DGet z.H p va o ∧ (r = none → o = none) ∧ ∀ x, r = some x → ∃ v, o = some v ∧ RelA K g z x v := by
  unfold lookA at e
  split at e
  · rename_i kvs hk
    obtain ⟨p, vs, rfl, h1, h2⟩ := asDk_inv c hk rb
    split at e
    · rename_i x
      split at e
      · rename_i k hx
        cases e
        refine ⟨p, _, rfl, .inl ⟨_, k, h1, keyD_v hx ra, rfl⟩, fun e => (look_val k h2).1 e, fun x e => (look_val k h2).2 x e⟩
      · cases e
    · cases e
  · split at e
    · rename_i kvs hk
      obtain ⟨p, vs, rfl, h1, h2⟩ := asDt_inv c hk rb
      split at e
      · rename_i x xs
        split at e
        · rename_i k hx
          cases e
          obtain ⟨q, ws, rfl, t, l⟩ := RelD.tup1_inv ra hx
          have hq := t
          rw [keysD_v hx l] at hq
          exact ⟨p, _, rfl, .inr ⟨_, k, q, h1, rfl, hq, rfl⟩, fun e => (look_val k h2).1 e, fun x e => (look_val k h2).2 x e⟩
        · cases e
      · cases e
    · cases e

theorem opA_in (hu : X.A.units + 65 < cLine) : OpR X (compareOp .In) (liftR X.K g inA1) := by
  intro pins s σ H x y v u Q I rx ry hw
  obtain ⟨a, b, h, z, r, hz, c, ra, rb, e, q⟩ := hw
  subst hz
  unfold inA1 at e
  cases ei : inA a b h with
  | none => rw [ei] at e; cases e
  | some t =>
    rw [ei] at e
    cases e
    unfold inA at ei
    split at ei
    · rename_i o hl
      cases ei
      obtain ⟨p, o', rfl, dg, n1, n2⟩ := lookA_get c hl ra rb
      have ho : o.isSome = o'.isSome := by
        cases o with
        | none => rw [n1 rfl]; rfl
        | some x => obtain ⟨w, e, _⟩ := n2 x rfl; rw [e]; rfl
      cases ry
      rw [ho] at q
      exact d_in (by omega) I dg rx fun s' I' => ⟨.bl _, z.H, I', rfl, q.same c (.bl _)⟩
    · split at ei
      · split at ei
        · split at ei
          · rename_i c' hc
            cases ei
            cases ra; cases rb
            rw [str_one hc] at rx
            exact op_in_sign pins s σ z.H _ _ v u Q I rx ry ⟨_, _, rfl, rfl, q.same c (.bl _)⟩
          · cases ei
        · cases ei
      · split at ei
        · rename_i dx ys ex ey
          split at ei
          · cases ei
            have s1 := asP_sh I c ex ra rx
            have s2 := asP_sh I c ey rb ry
            cases s2 with
            | @lst p _ its hp l =>
              refine in_listAt (isEq s.heap dx) hp (fun y hy => ?_) ?_
              · obtain ⟨d, hd, sd⟩ := l.mem (by simpa using hy)
                rw [isEq_of sd]
                exact Sh.eqAt sd s1 (by show X.A.units + 1 + min d.depth dx.depth < cLine; omega)
              · have e0 : its.toArray.any (isEq s.heap dx) = ys.any fun d => d.eqb dx := by rw [List.any_toArray]; exact any_isEq l
                rw [e0]
                exact ⟨.bl _, z.H, I, rfl, q.same c (.bl _)⟩
          · cases ei
        · rename_i dx ys ex ey
          split at ei
          · cases ei
            have s1 := asP_sh I c ex ra rx
            have s2 := asP_sh I c ey rb ry
            cases s2 with
            | @tup p _ its hp l =>
              refine in_tupleAt (isEq s.heap dx) hp (fun y hy => ?_) ?_
              · obtain ⟨d, hd, sd⟩ := l.mem (by simpa using hy)
                rw [isEq_of sd]
                exact Sh.eqAt sd s1 (by show X.A.units + 1 + min d.depth dx.depth < cLine; omega)
              · have e0 : its.toArray.any (isEq s.heap dx) = ys.any fun d => d.eqb dx := by rw [List.any_toArray]; exact any_isEq l
                rw [e0]
                exact ⟨.bl _, z.H, I, rfl, q.same c (.bl _)⟩
          · cases ei
        · cases ei
theorem opA_notin (hu : X.A.units + 65 < cLine) : OpR X (compareOp .NotIn) (liftR X.K g inA0) := by
  intro pins s σ H x y v u Q I rx ry hw
  obtain ⟨a, b, h, z, r, hz, c, ra, rb, e, q⟩ := hw
  subst hz
  unfold inA0 at e
  cases ei : inA a b h with
  | none => rw [ei] at e; cases e
  | some t =>
    rw [ei] at e
    cases e
    unfold inA at ei
    split at ei
    · rename_i o hl
      cases ei
      obtain ⟨p, o', rfl, dg, n1, n2⟩ := lookA_get c hl ra rb
      have ho : o.isSome = o'.isSome := by
        cases o with
        | none => rw [n1 rfl]; rfl
        | some x => obtain ⟨w, e, _⟩ := n2 x rfl; rw [e]; rfl
      cases ry
      rw [ho] at q
      exact d_notIn (by omega) I dg rx fun s' I' => ⟨.bl _, z.H, I', rfl, q.same c (.bl _)⟩
    · split at ei
      · split at ei
        · split at ei
          · rename_i c' hc
            cases ei
            cases ra; cases rb
            rw [str_one hc] at rx
            exact op_notIn_sign pins s σ z.H _ _ v u Q I rx ry ⟨_, _, rfl, rfl, q.same c (.bl _)⟩
          · cases ei
        · cases ei
      · split at ei
        · rename_i dx ys ex ey
          split at ei
          · cases ei
            have s1 := asP_sh I c ex ra rx
            have s2 := asP_sh I c ey rb ry
            cases s2 with
            | @lst p _ its hp l =>
              refine notIn_listAt (isEq s.heap dx) hp (fun y hy => ?_) ?_
              · obtain ⟨d, hd, sd⟩ := l.mem (by simpa using hy)
                rw [isEq_of sd]
                exact Sh.eqAt sd s1 (by show X.A.units + 1 + min d.depth dx.depth < cLine; omega)
              · have e0 : its.toArray.any (isEq s.heap dx) = ys.any fun d => d.eqb dx := by rw [List.any_toArray]; exact any_isEq l
                rw [e0]
                exact ⟨.bl _, z.H, I, rfl, q.same c (.bl _)⟩
          · cases ei
        · rename_i dx ys ex ey
          split at ei
          · cases ei
            have s1 := asP_sh I c ex ra rx
            have s2 := asP_sh I c ey rb ry
            cases s2 with
            | @tup p _ its hp l =>
              refine notIn_tupleAt (isEq s.heap dx) hp (fun y hy => ?_) ?_
              · obtain ⟨d, hd, sd⟩ := l.mem (by simpa using hy)
                rw [isEq_of sd]
                exact Sh.eqAt sd s1 (by show X.A.units + 1 + min d.depth dx.depth < cLine; omega)
              · have e0 : its.toArray.any (isEq s.heap dx) = ys.any fun d => d.eqb dx := by rw [List.any_toArray]; exact any_isEq l
                rw [e0]
                exact ⟨.bl _, z.H, I, rfl, q.same c (.bl _)⟩
          · cases ei
        · cases ei
end
end MP
end S_MPf
section S_MPg
/-! MPg: comparisons, tests, displays, places. -/
namespace MP
open PySem L2

section
variable {g : Gm} {X : Cx} {pos : Pos}
/-! ### order of ints; is None -/
def ordA (f : Int → Int → Bool) (a b : A) (_ : Hh) : Option A := match a, b with
  | .d (.int i), .d (.int j) => some (.d (.bl (f i j)))
  | _, _ => none
theorem opA_ord {op : CmpOp} {f : Int → Int → Bool} (h : OpR X (compareOp op) (rI0 fun i j => .bl (f i j))) : OpR X (compareOp op) (liftR X.K g (ordA f)) := by
  intro pins s σ H x y v u Q I rx ry hw
  obtain ⟨a, b, h', z, r, hz, c, ra, rb, e, q⟩ := hw
  subst hz
  unfold ordA at e
  split at e
  · cases e; cases ra; cases rb
    exact h pins s σ z.H _ _ v u Q I rx ry ⟨_, _, rfl, rfl, q.same c (.bl _)⟩
  · cases e
def isNon : A → Bool
  | .d .non => true
  | _ => false
theorem isNon_v {K : PySem.W.Frag} {z : Zn} {a : A} {v : V} (r : RelA K g z a v) : isNon a = decide (v = .non) := by
  cases a with
  | ref i => obtain ⟨p, _, rfl⟩ := r; rfl
  | d x => cases r <;> rfl
def isA (a b : A) (_ : Hh) : Option A := if isNon b = true then some (.d (.bl (isNon a))) else none
def isnotA (a b : A) (_ : Hh) : Option A := if isNon b = true then some (.d (.bl (!isNon a))) else none
theorem isNon_eq {b : A} (h : isNon b = true) : b = .d .non := by
  unfold isNon at h
  split at h
  · rfl
  · cases h
theorem opA_is : OpR X (compareOp .Is) (liftR X.K g isA) := by
  intro pins s σ H x y v u Q I rx ry hw
  obtain ⟨a, b, h', z, r, hz, c, ra, rb, e, q⟩ := hw
  subst hz
  unfold isA at e
  split at e
  · rename_i hb
    cases e
    obtain rfl := isNon_eq hb
    cases rb
    exact op_isN pins s σ z.H _ _ v u Q I rx ry ⟨rfl, by rw [← isNon_v ra]; exact q.same c (.bl _)⟩
  · cases e
theorem opA_isnot : OpR X (compareOp .IsNot) (liftR X.K g isnotA) := by
  intro pins s σ H x y v u Q I rx ry hw
  obtain ⟨a, b, h', z, r, hz, c, ra, rb, e, q⟩ := hw
  subst hz
  unfold isnotA at e
  split at e
  · rename_i hb
    cases e
    obtain rfl := isNon_eq hb
    cases rb
    exact op_notN pins s σ z.H _ _ v u Q I rx ry ⟨rfl, by rw [← isNon_v ra]; exact q.same c (.bl _)⟩
  · cases e
def cmpA (o : COp) (a b : A) (h : Hh) : Option A := match o with
  | .eq => eqA a b h
  | .ne => neA a b h
  | .lt => ordA (fun i j => decide (i < j)) a b h
  | .le => ordA (fun i j => decide (i ≤ j)) a b h
  | .gt => ordA (fun i j => decide (j < i)) a b h
  | .ge => ordA (fun i j => decide (j ≤ i)) a b h
  | .isin => inA1 a b h
  | .notin => inA0 a b h
  | .is_ => isA a b h
  | .isnot => isnotA a b h
def COp.op : COp → CmpOp
  | .eq => .Eq | .ne => .NotEq | .lt => .Lt | .le => .LtE | .gt => .Gt | .ge => .GtE | .isin => .In | .notin => .NotIn | .is_ => .Is | .isnot => .IsNot
theorem opA_cmp (hu : X.A.units + 65 < cLine) (o : COp) : OpR X (compareOp o.op) (liftR X.K g (cmpA o)) := by
  cases o with
  | eq => exact opA_eq (by omega)
  | ne => exact opA_ne (by omega)
  | lt => exact opA_ord op_lt
  | le => exact opA_ord op_le
  | gt => exact opA_ord op_gt
  | ge => exact opA_ord op_ge
  | isin => exact opA_in hu
  | notin => exact opA_notin hu
  | is_ => exact opA_is
  | isnot => exact opA_isnot
def BOp.op : BOp → Operator
  | .add => .Add | .sub => .Sub | .mul => .Mult | .fdiv => .FloorDiv | .mod => .Mod | .pow => .Pow
theorem opA_bin (o : BOp) : OpR X (binaryOp o.op) (liftR X.K g (binA o)) := by
  cases o with
  | add => exact opA_add
  | sub => exact opA_sub
  | mul => exact opA_mul
  | fdiv => exact opA_fdiv
  | mod => exact opA_mod
  | pow => exact opA_pow

/-! ### one value -/
theorem one_E {fa : Sl → Hh → Out A} {W : WX} {F : A → Hh → Out A} {R : V → Hp → VK → Prop} {σ : St} {H : Hp} {Q : VK}
    (hw : liftE X.K g W (fun s h => (fa s h).bind fun x h1 => F x h1) σ H Q)
    (hR : ∀ s x h z v, Cn X.K g z h → RelSl X.K g z s σ → RelA X.K g z x v → (F x h).wp (okK X.K g z Q) (exK X.K g z σ W) → R v z.H Q) :
    liftE X.K g W fa σ H fun v H1 => R v H1 Q := by
  obtain ⟨s, h, z, hz, c, rs, w⟩ := hw
  refine ⟨s, h, z, hz, c, rs, Out.wp_mono (Out.wp_bind w) (fun x h1 w1 v z1 e1 c1 r1 => ?_) fun _ _ q => q⟩
  exact hR s x h1 z1 v c1 (rs.mono e1) r1 (Out.wp_mono w1 (fun _ _ q => q.ext e1) fun _ _ q => q.ext e1)
def negA : A → Option A
  | .d (.int i) => some (.d (.int (-i)))
  | _ => none
theorem ae_neg {a : Expr} {fa : Sl → Hh → Out A} (ha : AE g X a fa) : AE g X (.UnaryOp .USub a pos) (fun s h => (fa s h).bind fun x h1 => opt (negA x) h1) := by
  intro W tk
  refine (pe_un un_neg (ha W tk)).impM fun σ H Q hw => ?_
  refine one_E (F := fun x h => opt (negA x) h) hw fun s x h z v c rs r w => ?_
  obtain ⟨y, e, q⟩ := opt_wp w
  unfold negA at e
  split at e
  · cases e; cases r
    exact ⟨_, rfl, q.same c (.int _)⟩
  · cases e

/-! ### tests -/
theorem Takes0 : Takes X (fun _ _ _ _ => False) := takes0
/-- from a value to a test by its truth -/
def truth (a : A) (h : Hh) : Option Bool := truthA a h
theorem truth_v {K : PySem.W.Frag} {z : Zn} {h : Hh} {a : A} {v : V} {k : Bool} (c : Cn K g z h) (hs : ∀ x, a = .d (.str x) → x.length ≤ sizeLine) (e : truthA a h = some k) (r : RelA K g z a v) : TruV K v z.H k := by
  cases a with
  | d x =>
    simp only [truthA, truthD] at e
    split at e
    · cases e; cases r; rfl
    · cases e; cases r; rfl
    · cases e; cases r; rfl
    · cases e; cases r; exact ⟨hs _ rfl, rfl⟩
    · cases e
      obtain ⟨p, vs, rfl, t, l⟩ := RelD.tup_inv r
      refine .inr (.inl ⟨vs, t, ?_⟩)
      cases l <;> rfl
    · cases e
      obtain ⟨p, vs, rfl, t, l⟩ := RelD.lst_inv r
      refine .inl ⟨vs, .of t, ?_⟩
      cases l <;> rfl
    · cases e
  | ref i =>
    simp only [truthA] at e
    cases ea : asLst (.ref i) h with
    | none => rw [ea] at e; cases e
    | some xs =>
      rw [ea] at e
      cases e
      obtain ⟨p, vs, rfl, t, l⟩ := asLst_inv c ea r
      refine .inl ⟨vs, .of t, ?_⟩
      cases l <;> rfl
def truthO (a : A) (h : Hh) : Option Bool := match a with
  | .d (.str x) => if x.length ≤ sizeLine then truthA a h else none
  | _ => truthA a h
theorem truthO_v {K : PySem.W.Frag} {z : Zn} {h : Hh} {a : A} {v : V} {k : Bool} (c : Cn K g z h) (e : truthO a h = some k) (r : RelA K g z a v) : TruV K v z.H k := by
  unfold truthO at e
  split at e
  · split at e
    · rename_i hl
      exact truth_v c (fun x h => by cases h; exact hl) e r
    · cases e
  · rename_i hn
    exact truth_v c (fun x h => absurd h (hn x)) e r
/-- an expression whose test is its value's truth -/
theorem at_val {e : Expr} {f : Sl → Hh → Out A} (he : AE g X e f) (ht : ∀ whole, isTrue e X.env whole = (do let v ← whole; standAt e.pos; holding [v] (truthy v))) : AT g X e (fun s h => (f s h).bind fun a h1 => opt (truthO a h1) h1) := by
  intro W tk
  refine (pt_truth (he W tk) ht).impM fun σ H Q ⟨s, h, z, hz, c, rs, w⟩ => ?_
  refine ⟨s, h, z, hz, c, rs, Out.wp_mono (Out.wp_bind w) (fun a h1 w1 v z1 e1 c1 r1 => ?_) fun _ _ q => q⟩
  obtain ⟨k, e, q⟩ := opt_wp w1
  exact ⟨k, truthO_v c1 e r1, q z1 e1 c1⟩
theorem at_not {e : Expr} {f : Sl → Hh → Out Bool} (he : AT g X e f) : AT g X (.UnaryOp .Not e pos) (fun s h => (f s h).bind fun b h1 => .ok (!b) h1) := by
  intro W tk
  refine (pt_not (he W tk)).impM fun σ H Q ⟨s, h, z, hz, c, rs, w⟩ => ?_
  exact ⟨s, h, z, hz, c, rs, Out.wp_mono (Out.wp_bind w) (fun b h1 w1 z1 e1 c1 => w1 z1 e1 c1) fun _ _ q => q⟩
/-- a comparison as a test -/
theorem at_cmpo {op : CmpOp} {a b : Expr} {fa fb : Sl → Hh → Out A} {f : A → A → Hh → Option A} (ho : OpR X (compareOp op) (liftR X.K g f)) (hb' : ∀ x y h r, f x y h = some r → ∃ k, r = .d (.bl k)) (ha : AE g X a fa) (hb : AE g X b fb) (hm : behindInMarks op b = false) :
    AT g X (.Compare a [op] [b] pos) (fun s h => (fa s h).bind fun x h1 => (fb s h1).bind fun y h2 => (opt (f x y h2) h2).bind fun r h3 => opt (truthO r h3) h3) := by
  intro W tk
  refine (pt_cmpR ho (ha W tk) (hb W tk) hm).impM fun σ H Q ⟨s, h, z, hz, c, rs, w⟩ => ?_
  refine ⟨s, h, z, hz, c, rs, Out.wp_mono (Out.wp_bind w) (fun x h1 w1 v z1 e1 c1 r1 => ?_) fun _ _ q => q⟩
  refine ⟨s, h1, z1, rfl, c1, rs.mono e1, Out.wp_mono (Out.wp_bind w1) (fun y h2 w2 u z2 e2 c2 r2 => ?_) fun _ _ q => q.ext e1⟩
  obtain ⟨r, er, w3⟩ := opt_wp (Out.wp_bind w2)
  obtain ⟨k, rfl⟩ := hb' _ _ _ _ er
  obtain ⟨k', ek, q⟩ := opt_wp w3
  simp only [truthO, truthA, truthD] at ek
  cases ek
  refine ⟨x, y, h2, z2, _, rfl, c2, r1.mono e2, r2, er, fun v' z3 e3 c3 r3 => ?_⟩
  cases r3
  exact ⟨k, rfl, q z3 ((e1.trans e2).trans e3) c3⟩
theorem cmpA_bl (o : COp) : ∀ x y h r, cmpA o x y h = some r → ∃ k, r = .d (.bl k) := by
  intro x y h r e
  cases o with
  | eq => simp only [cmpA, eqA] at e; split at e <;> (try split at e) <;> cases e <;> exact ⟨_, rfl⟩
  | ne => simp only [cmpA, neA] at e; split at e <;> (try split at e) <;> cases e <;> exact ⟨_, rfl⟩
  | lt => simp only [cmpA, ordA] at e; split at e <;> cases e <;> exact ⟨_, rfl⟩
  | le => simp only [cmpA, ordA] at e; split at e <;> cases e <;> exact ⟨_, rfl⟩
  | gt => simp only [cmpA, ordA] at e; split at e <;> cases e <;> exact ⟨_, rfl⟩
  | ge => simp only [cmpA, ordA] at e; split at e <;> cases e <;> exact ⟨_, rfl⟩
  | isin =>
    simp only [cmpA, inA1] at e
    cases ei : inA x y h with
    | none => rw [ei] at e; cases e
    | some t => rw [ei] at e; cases e; exact ⟨_, rfl⟩
  | notin =>
    simp only [cmpA, inA0] at e
    cases ei : inA x y h with
    | none => rw [ei] at e; cases e
    | some t => rw [ei] at e; cases e; exact ⟨_, rfl⟩
  | is_ => simp only [cmpA, isA] at e; split at e <;> cases e <;> exact ⟨_, rfl⟩
  | isnot => simp only [cmpA, isnotA] at e; split at e <;> cases e <;> exact ⟨_, rfl⟩
end
end MP
end S_MPg
section S_MPh
/-! MPh: and, or, chains, conditional expressions, displays, places, slices. -/
namespace MP
open PySem L2

section
variable {g : Gm} {X : Cx} {pos : Pos}
/-- and, or as tests: whatever the whole is -/
def AW (g : Gm) (X : Cx) (e : Expr) (f : Sl → Hh → Out Bool) : Prop := ∀ W, Takes X W → PW X e (liftT X.K g W f)
theorem AW.at {e : Expr} {f : Sl → Hh → Out Bool} (h : AW g X e f) : AT g X e f := fun W tk => (h W tk).pt
theorem PW.impM {e : Expr} {t t' : TT} (h : PW X e t) (w : ∀ σ H Q, t' σ H Q → t σ H Q) : PW X e t' := ⟨fun wh pins s σ H Q I q => h.run wh pins s σ H Q I (w σ H Q q)⟩
theorem aw_and1 {a : Expr} {fa : Sl → Hh → Out Bool} (ha : AT g X a fa) : AW g X (.BoolOp .And [a] pos) fa := fun W tk => pw_and1 (ha W tk)
theorem aw_or1 {a : Expr} {fa : Sl → Hh → Out Bool} (ha : AT g X a fa) : AW g X (.BoolOp .Or [a] pos) fa := fun W tk => pw_or1 (ha W tk)
theorem aw_and {a b : Expr} {r : List Expr} {fa fb : Sl → Hh → Out Bool} (ha : AT g X a fa) (hb : AW g X (.BoolOp .And (b :: r) pos) fb) : AW g X (.BoolOp .And (a :: b :: r) pos) (fun s h => (fa s h).bind fun k h1 => if k = true then fb s h1 else .ok false h1) := by
  intro W tk
  refine PW.impM (pw_and (ha W tk) (hb W tk)) fun σ H Q ⟨s, h, z, hz, c, rs, w⟩ => ?_
  refine ⟨s, h, z, hz, c, rs, Out.wp_mono (Out.wp_bind w) (fun k h1 w1 z1 e1 c1 => ?_) fun _ _ q => q⟩
  cases k with
  | true =>
    rw [if_pos rfl] at w1
    rw [if_pos rfl]
    exact ⟨s, h1, z1, rfl, c1, rs.mono e1, Out.wp_mono w1 (fun _ _ q => q.ext e1) fun _ _ q => q.ext e1⟩
  | false =>
    rw [if_neg (by decide)] at w1
    rw [if_neg (by decide)]
    exact w1 z1 e1 c1
theorem aw_or {a b : Expr} {r : List Expr} {fa fb : Sl → Hh → Out Bool} (ha : AT g X a fa) (hb : AW g X (.BoolOp .Or (b :: r) pos) fb) : AW g X (.BoolOp .Or (a :: b :: r) pos) (fun s h => (fa s h).bind fun k h1 => if k = true then .ok true h1 else fb s h1) := by
  intro W tk
  refine PW.impM (pw_or (ha W tk) (hb W tk)) fun σ H Q ⟨s, h, z, hz, c, rs, w⟩ => ?_
  refine ⟨s, h, z, hz, c, rs, Out.wp_mono (Out.wp_bind w) (fun k h1 w1 z1 e1 c1 => ?_) fun _ _ q => q⟩
  cases k with
  | true =>
    rw [if_pos rfl] at w1
    rw [if_pos rfl]
    exact w1 z1 e1 c1
  | false =>
    rw [if_neg (by decide)] at w1
    rw [if_neg (by decide)]
    exact ⟨s, h1, z1, rfl, c1, rs.mono e1, Out.wp_mono w1 (fun _ _ q => q.ext e1) fun _ _ q => q.ext e1⟩
/-- .. as values: bools -/
def blA : A → Option Bool
  | .d (.bl b) => some b
  | _ => none
theorem blA_eq {a : A} {b : Bool} (h : blA a = some b) : a = .d (.bl b) := by
  unfold blA at h
  split at h
  · cases h; rfl
  · cases h
theorem ae_one {op : BoolOp} {a : Expr} {f : Sl → Hh → Out A} (h : AE g X a f) : AE g X (.BoolOp op [a] pos) f := fun W tk => pe_one (h W tk)
theorem ae_and {a b : Expr} {r : List Expr} {fa fb : Sl → Hh → Out A} (ha : AE g X a fa) (hb : AE g X (.BoolOp .And (b :: r) pos) fb) : AE g X (.BoolOp .And (a :: b :: r) pos) (fun s h => (fa s h).bind fun x h1 => (opt (blA x) h1).bind fun k h1 => if k = true then fb s h1 else .ok (.d (.bl false)) h1) := by
  intro W tk
  refine (pe_and (ha W tk) (hb W tk)).impM fun σ H Q ⟨s, h, z, hz, c, rs, w⟩ => ?_
  refine ⟨s, h, z, hz, c, rs, Out.wp_mono (Out.wp_bind w) (fun x h1 w1 v z1 e1 c1 r1 => ?_) fun _ _ q => q⟩
  obtain ⟨k, ek, w2⟩ := opt_wp (Out.wp_bind w1)
  obtain rfl := blA_eq ek
  cases r1
  refine ⟨k, rfl, ?_⟩
  cases k with
  | true =>
    rw [if_pos rfl] at w2
    rw [if_pos rfl]
    exact ⟨s, h1, z1, rfl, c1, rs.mono e1, Out.wp_mono w2 (fun _ _ q => q.ext e1) fun _ _ q => q.ext e1⟩
  | false =>
    rw [if_neg (by decide)] at w2
    rw [if_neg (by decide)]
    exact w2 _ z1 e1 c1 (.bl _)
theorem ae_or {a b : Expr} {r : List Expr} {fa fb : Sl → Hh → Out A} (ha : AE g X a fa) (hb : AE g X (.BoolOp .Or (b :: r) pos) fb) : AE g X (.BoolOp .Or (a :: b :: r) pos) (fun s h => (fa s h).bind fun x h1 => (opt (blA x) h1).bind fun k h1 => if k = true then .ok (.d (.bl true)) h1 else fb s h1) := by
  intro W tk
  refine (pe_or (ha W tk) (hb W tk)).impM fun σ H Q ⟨s, h, z, hz, c, rs, w⟩ => ?_
  refine ⟨s, h, z, hz, c, rs, Out.wp_mono (Out.wp_bind w) (fun x h1 w1 v z1 e1 c1 r1 => ?_) fun _ _ q => q⟩
  obtain ⟨k, ek, w2⟩ := opt_wp (Out.wp_bind w1)
  obtain rfl := blA_eq ek
  cases r1
  refine ⟨k, rfl, ?_⟩
  cases k with
  | true =>
    rw [if_pos rfl] at w2
    rw [if_pos rfl]
    exact w2 _ z1 e1 c1 (.bl _)
  | false =>
    rw [if_neg (by decide)] at w2
    rw [if_neg (by decide)]
    exact ⟨s, h1, z1, rfl, c1, rs.mono e1, Out.wp_mono w2 (fun _ _ q => q.ext e1) fun _ _ q => q.ext e1⟩
/-- not x as a value: by its test (a name, a call ..: bools) -/
theorem ae_not {a : Expr} {fa : Sl → Hh → Out A} (ha : AE g X a fa) : AE g X (.UnaryOp .Not a pos) (fun s h => (fa s h).bind fun x h1 => (opt (blA x) h1).bind fun k h1 => .ok (.d (.bl (!k))) h1) := by
  intro W tk
  refine (pe_not (ha W tk)).impM fun σ H Q ⟨s, h, z, hz, c, rs, w⟩ => ?_
  refine ⟨s, h, z, hz, c, rs, Out.wp_mono (Out.wp_bind w) (fun x h1 w1 v z1 e1 c1 r1 => ?_) fun _ _ q => q⟩
  obtain ⟨k, ek, w2⟩ := opt_wp (Out.wp_bind w1)
  obtain rfl := blA_eq ek
  cases r1
  exact ⟨k, rfl, w2 _ z1 e1 c1 (.bl _)⟩
theorem ae_ite {t a b : Expr} {ft : Sl → Hh → Out Bool} {fa fb : Sl → Hh → Out A} (ht : AT g X t ft) (ha : AE g X a fa) (hb : AE g X b fb) : AE g X (.IfExp t a b pos) (fun s h => (ft s h).bind fun k h1 => if k = true then fa s h1 else fb s h1) := by
  intro W tk
  refine (pe_ifExp (ht W tk) (ha W tk) (hb W tk)).impM fun σ H Q ⟨s, h, z, hz, c, rs, w⟩ => ?_
  refine ⟨s, h, z, hz, c, rs, Out.wp_mono (Out.wp_bind w) (fun k h1 w1 z1 e1 c1 => ?_) fun _ _ q => q⟩
  cases k with
  | true =>
    rw [if_pos rfl] at w1
    rw [if_pos rfl]
    exact ⟨s, h1, z1, rfl, c1, rs.mono e1, Out.wp_mono w1 (fun _ _ q => q.ext e1) fun _ _ q => q.ext e1⟩
  | false =>
    rw [if_neg (by decide)] at w1
    rw [if_neg (by decide)]
    exact ⟨s, h1, z1, rfl, c1, rs.mono e1, Out.wp_mono w1 (fun _ _ q => q.ext e1) fun _ _ q => q.ext e1⟩
/-- a op b op c -/
theorem ae_chain {o o' : CmpOp} {a b d : Expr} {fa fb fd : Sl → Hh → Out A} {f f' : A → A → Hh → Option A} (ho : OpR X (compareOp o) (liftR X.K g f)) (ho' : OpR X (compareOp o') (liftR X.K g f')) (hf : ∀ x y h r, f x y h = some r → ∃ k, r = .d (.bl k))
    (ha : AE g X a fa) (hb : AE g X b fb) (hd : AE g X d fd) (hm : lastMarks [o, o'] [b, d] = false) :
    AE g X (.Compare a [o, o'] [b, d] pos) (fun s h => (fa s h).bind fun x h1 => (fb s h1).bind fun y h2 => (opt (f x y h2) h2).bind fun r h3 => (opt (blA r) h3).bind fun k h3 => if k = true then (fd s h3).bind fun w h4 => opt (f' y w h4) h4 else .ok (.d (.bl false)) h3) := by
  intro W tk
  refine (pe_chain ho ho' (ha W tk) (hb W tk) (hd W tk) hm).impM fun σ H Q ⟨s, h, z, hz, c, rs, w⟩ => ?_
  refine ⟨s, h, z, hz, c, rs, Out.wp_mono (Out.wp_bind w) (fun x h1 w1 v z1 e1 c1 r1 => ?_) fun _ _ q => q⟩
  refine ⟨s, h1, z1, rfl, c1, rs.mono e1, Out.wp_mono (Out.wp_bind w1) (fun y h2 w2 u z2 e2 c2 r2 => ?_) fun _ _ q => q.ext e1⟩
  obtain ⟨r, er, w3⟩ := opt_wp (Out.wp_bind w2)
  obtain ⟨k, ek, w4⟩ := opt_wp (Out.wp_bind w3)
  obtain rfl := blA_eq ek
  refine ⟨x, y, h2, z2, _, rfl, c2, r1.mono e2, r2, er, fun v' z3 e3 c3 r3 => ?_⟩
  cases r3
  refine ⟨k, rfl, ?_⟩
  cases k with
  | true =>
    rw [if_pos rfl] at w4
    rw [if_pos rfl]
    refine ⟨s, h2, z3, rfl, c3, ((rs.mono e1).mono e2).mono e3, Out.wp_mono (Out.wp_bind w4) (fun t h4 w5 vt z4 e4 c4 r4 => ?_) fun _ _ q => q.ext ((e1.trans e2).trans e3)⟩
    obtain ⟨r', er', q⟩ := opt_wp w5
    exact ⟨y, t, h4, z4, r', rfl, c4, (r2.mono e3).mono e4, r4, er', q.ext (((e1.trans e2).trans e3).trans e4)⟩
  | false =>
    rw [if_neg (by decide)] at w4
    rw [if_neg (by decide)]
    exact w4 _ z3 ((e1.trans e2).trans e3) c3 (.bl _)
theorem at_chain {o o' : CmpOp} {a b d : Expr} {fa fb fd : Sl → Hh → Out A} {f f' : A → A → Hh → Option A} (ho : OpR X (compareOp o) (liftR X.K g f)) (ho' : OpR X (compareOp o') (liftR X.K g f')) (hf : ∀ x y h r, f x y h = some r → ∃ k, r = .d (.bl k)) (hf' : ∀ x y h r, f' x y h = some r → ∃ k, r = .d (.bl k))
    (ha : AE g X a fa) (hb : AE g X b fb) (hd : AE g X d fd) (hm : lastMarks [o, o'] [b, d] = false) :
    AT g X (.Compare a [o, o'] [b, d] pos) (fun s h => ((fa s h).bind fun x h1 => (fb s h1).bind fun y h2 => (opt (f x y h2) h2).bind fun r h3 => (opt (blA r) h3).bind fun k h3 => if k = true then (fd s h3).bind fun w h4 => opt (f' y w h4) h4 else .ok (.d (.bl false)) h3).bind fun r h5 => opt (truthO r h5) h5) := by
  intro W tk
  refine (pt_chain ho ho' (ha W tk) (hb W tk) (hd W tk) hm).impM fun σ H Q ⟨s, h, z, hz, c, rs, w⟩ => ?_
  refine ⟨s, h, z, hz, c, rs, Out.wp_mono (Out.wp_bind (Out.wp_bind w)) (fun x h1 w1 v z1 e1 c1 r1 => ?_) fun _ _ q => q⟩
  refine ⟨s, h1, z1, rfl, c1, rs.mono e1, Out.wp_mono (Out.wp_bind w1) (fun y h2 w2 u z2 e2 c2 r2 => ?_) fun _ _ q => q.ext e1⟩
  obtain ⟨r, er, w3⟩ := opt_wp (Out.wp_bind w2)
  obtain ⟨k, ek, w4⟩ := opt_wp (Out.wp_bind w3)
  obtain rfl := blA_eq ek
  refine ⟨x, y, h2, z2, _, rfl, c2, r1.mono e2, r2, er, fun v' z3 e3 c3 r3 => ?_⟩
  cases r3
  refine ⟨k, rfl, ?_⟩
  cases k with
  | true =>
    rw [if_pos rfl] at w4
    rw [if_pos rfl]
    refine ⟨s, h2, z3, rfl, c3, ((rs.mono e1).mono e2).mono e3, Out.wp_mono (Out.wp_bind w4) (fun t h4 w5 vt z4 e4 c4 r4 => ?_) fun _ _ q => q.ext ((e1.trans e2).trans e3)⟩
    obtain ⟨r', er', w6⟩ := opt_wp w5
    obtain ⟨k', rfl⟩ := hf' _ _ _ _ er'
    obtain ⟨k2, ek2, q⟩ := opt_wp w6
    simp only [truthO, truthA, truthD] at ek2
    cases ek2
    refine ⟨y, t, h4, z4, _, rfl, c4, (r2.mono e3).mono e4, r4, er', fun v5 z5 e5 c5 r5 => ?_⟩
    cases r5
    exact ⟨k', rfl, q z5 ((((e1.trans e2).trans e3).trans e4).trans e5) c5⟩
  | false =>
    rw [if_neg (by decide)] at w4
    rw [if_neg (by decide)]
    have w4' : (opt (truthO (.d (.bl false)) h2) h2).wp (okB X.K g z Q) (exK X.K g z σ W) := w4
    obtain ⟨k2, ek2, q⟩ := opt_wp w4'
    simp only [truthO, truthA, truthD] at ek2
    cases ek2
    exact ⟨false, rfl, q z3 ((e1.trans e2).trans e3) c3⟩

/-! ### argument lists -/
theorem aa_nil : AA g X [] (fun _ h => .ok [] h) := by
  intro W tk
  refine pa_nil.impM fun σ H Q ⟨s, h, z, hz, c, rs, w⟩ => ?_
  subst hz
  exact w [] z (Ext.refl z) c .nil
theorem aa_cons {e : Expr} {es : List Expr} {f : Sl → Hh → Out A} {fs : Sl → Hh → Out (List A)} (he : AE g X e f) (hr : AA g X es fs) (hs : starEach (e :: es) X.env = (false, eval e X.env) :: starEach es X.env) :
    AA g X (e :: es) (fun s h => (f s h).bind fun a h1 => (fs s h1).bind fun as h2 => .ok (a :: as) h2) := by
  intro W tk
  refine (pa_cons (he W tk) (hr W tk) hs).impM fun σ H Q ⟨s, h, z, hz, c, rs, w⟩ => ?_
  refine ⟨s, h, z, hz, c, rs, Out.wp_mono (Out.wp_bind w) (fun x h1 w1 v z1 e1 c1 r1 => ?_) fun _ _ q => q⟩
  refine ⟨s, h1, z1, rfl, c1, rs.mono e1, Out.wp_mono (Out.wp_bind w1) (fun ys h2 w2 us z2 e2 c2 r2 => ?_) fun _ _ q => q.ext e1⟩
  exact w2 _ z2 (e1.trans e2) c2 (.cons (r1.mono e2) r2)
theorem aa_star {e : Expr} {es : List Expr} {p : Pos} {f : Sl → Hh → Out A} {fs : Sl → Hh → Out (List A)} (he : AE g X e f) (hr : AA g X es fs) :
    AA g X (.Starred e p :: es) (fun s h => (f s h).bind fun a h1 => (opt (asSeq a h1) h1).bind fun xs h1 => (fs s h1).bind fun as h2 => .ok (xs ++ as) h2) := by
  intro W tk
  refine (StX.pa_star (he W tk) (hr W tk) rfl).impM fun σ H Q ⟨s, h, z, hz, c, rs, w⟩ => ?_
  refine ⟨s, h, z, hz, c, rs, Out.wp_mono (Out.wp_bind w) (fun x h1 w1 v z1 e1 c1 r1 => ?_) fun _ _ q => q⟩
  obtain ⟨xs, ex, w2⟩ := opt_wp (Out.wp_bind w1)
  obtain ⟨p, vs, rfl, t, l⟩ := asSeq_inv c1 ex r1
  refine ⟨p, vs, rfl, t, ?_⟩
  refine ⟨s, h1, z1, rfl, c1, rs.mono e1, Out.wp_mono (Out.wp_bind w2) (fun ys h2 w2 us z2 e2 c2 r2 => ?_) fun _ _ q => q.ext e1⟩
  exact w2 _ z2 (e1.trans e2) c2 ((l.mono e2).append r2)

/-! ### displays -/
def tupA (xs : List A) : Option A := match allD xs with
  | some ds => if ds.length ≤ sizeLine ∧ turnsD ds = false then some (.d (.tup ds)) else none
  | none => none
def lstA (xs : List A) : Option A := match allD xs with
  | some ds => if ds.length ≤ sizeLine then some (.d (.lst ds)) else none
  | none => none
theorem ae_tup {es : List Expr} {k : Nat} {fs : Sl → Hh → Out (List A)} (hs : AA g X es fs) : AE g X (.Tuple es k pos) (fun s h => (fs s h).bind fun xs h1 => opt (tupA xs) h1) := by
  intro W tk
  refine (pe_tup (hs W tk)).impM fun σ H Q ⟨s, h, z, hz, c, rs, w⟩ => ?_
  refine ⟨s, h, z, hz, c, rs, Out.wp_mono (Out.wp_bind w) (fun xs h1 w1 vs z1 e1 c1 r1 => ?_) fun _ _ q => q⟩
  obtain ⟨a, ea, q⟩ := opt_wp w1
  unfold tupA at ea
  split at ea
  · rename_i ds hd
    split at ea
    · rename_i hl
      cases ea
      rw [allD_eq hd] at r1
      have l := RelL.ofAs r1
      refine ⟨by rw [← l.length]; exact hl.1, fun p hp => ?_⟩
      exact (q.ext e1).frozen c1 hp fun z' ez f e => .tup f e (l.mono ez) hl.2
    · cases ea
  · cases ea
theorem ae_lst {es : List Expr} {fs : Sl → Hh → Out (List A)} (hs : AA g X es fs) : AE g X (.List es pos) (fun s h => (fs s h).bind fun xs h1 => opt (lstA xs) h1) := by
  intro W tk
  refine (pe_lst (hs W tk)).impM fun σ H Q ⟨s, h, z, hz, c, rs, w⟩ => ?_
  refine ⟨s, h, z, hz, c, rs, Out.wp_mono (Out.wp_bind w) (fun xs h1 w1 vs z1 e1 c1 r1 => ?_) fun _ _ q => q⟩
  obtain ⟨a, ea, q⟩ := opt_wp w1
  unfold lstA at ea
  split at ea
  · rename_i ds hd
    split at ea
    · rename_i hl
      cases ea
      rw [allD_eq hd] at r1
      have l := RelL.ofAs r1
      refine ⟨by rw [← l.length]; exact hl, fun p hp => ?_⟩
      exact (q.ext e1).frozen c1 hp fun z' ez f e => .lst f e (l.mono ez)
    · cases ea
  · cases ea
/-- a new mutable thing -/
theorem okK.made {K : PySem.W.Frag} {z : Zn} {h : Hh} {Q : VK} {ob : O} {p : Addr} {o : HO} (q : okK K g z Q (.ref h.length) (h ++ [ob])) (c : Cn K g z h) (hp : z.H p = none) (r : RelO K g (z.new p o) ob p) : Q (.ref p) (upd z.H p o) :=
  q (.ref p) (z.new p o) (Ext.alloc hp) (c.alloc hp r) ⟨p, by show (z.rho ++ [p])[h.length]? = some p; rw [List.getElem?_append_right (by rw [c.len]; exact Nat.le_refl _), c.len]; simp, rfl⟩
theorem Cn.nF {K : PySem.W.Frag} {z : Zn} {h : Hh} {p : Addr} (c : Cn K g z h) (hp : z.H p = none) : ¬ z.F p := fun f => by
  obtain ⟨o, e⟩ := c.ft p f
  rw [hp] at e; cases e
def mkL (xs : List A) (h : Hh) : Out A := if xs.length ≤ sizeLine then .ok (.ref h.length) (h ++ [.lst xs]) else .no
theorem ae_lstM {es : List Expr} {fs : Sl → Hh → Out (List A)} (hs : AA g X es fs) : AE g X (.List es pos) (fun s h => (fs s h).bind fun xs h1 => mkL xs h1) := by
  intro W tk
  refine (pe_lst (hs W tk)).impM fun σ H Q ⟨s, h, z, hz, c, rs, w⟩ => ?_
  refine ⟨s, h, z, hz, c, rs, Out.wp_mono (Out.wp_bind w) (fun xs h1 w1 vs z1 e1 c1 r1 => ?_) fun _ _ q => q⟩
  unfold mkL at w1
  split at w1
  · rename_i hl
    refine ⟨by rw [← r1.length]; exact hl, fun p hp => ?_⟩
    exact (okK.ext e1 w1).made c1 hp ⟨c1.nF hp, vs, upd_same, r1.mono (Ext.alloc hp)⟩
  · exact w1.elim

/-! ### places -/
def subA2 (a b : A) (h : Hh) : Option A := match b with
  | .d (.int i) => match a with
    | .d (.str x) => if x.length ≤ sizeLine then (strAt x i).map .d else none
    | .d (.scr ns) => (L2.atI ns i).map fun n => .d (.int n)
    | a => match asSeq a h with
      | some xs => L2.atI xs i
      | none => none
  | _ => none
theorem atI_rel {K : PySem.W.Frag} {z : Zn} {xs : List A} {vs : List V} {i : Int} {a : A} (r : RelAs K g z xs vs) (e : L2.atI xs i = some a) : ∃ v, L2.atI vs i = some v ∧ RelA K g z a v := by
  unfold L2.atI at e ⊢
  rw [← r.length]
  cases ei : ixN xs.length i with
  | none => rw [ei] at e; cases e
  | some j => rw [ei] at e; exact r.get e
theorem scr_inv {K : PySem.W.Frag} {z : Zn} {ns : List Int} {v : V} (r : RelD K g z (.scr ns) v) : ∃ p, v = .ref p ∧ SqL K z.H p (ns.map V.int) := by
  cases r with
  | scr f e => exact ⟨_, rfl, .inl (.inr ⟨_, e⟩)⟩
  | scrK k => exact ⟨_, rfl, .inr k⟩
theorem atI_map {α β : Type} (f : α → β) (xs : List α) (i : Int) : L2.atI (xs.map f) i = (L2.atI xs i).map f := by
  unfold L2.atI
  rw [List.length_map]
  cases ixN xs.length i with
  | none => rfl
  | some j => simp
theorem ixA_seq : IxR X (liftR X.K g subA2) := by
  intro value slice pins s σ H x y v u Q I rx ry hw hs
  obtain ⟨a, b, h', z, r, hz, c, ra, rb, e, q⟩ := hw
  subst hz
  unfold subA2 at e
  split at e
  · rename_i i
    cases rb
    split at e
    · split at e
      · rename_i hl
        cases ra
        unfold strAt at e
        rename_i x
        cases ei : L2.atI x.cps.toList i with
        | none => rw [ei] at e; cases e
        | some cc =>
          rw [ei] at e
          cases e
          exact ix_str value slice pins s σ z.H _ _ v u Q I rx ry ⟨_, _, cc, rfl, rfl, hl, ei, q.same c (.str _)⟩ hs
      · cases e
    · rename_i ns
      cases ei : L2.atI ns i with
      | none => rw [ei] at e; cases e
      | some n =>
        rw [ei] at e
        cases e
        obtain ⟨p, rfl, t⟩ := scr_inv ra
        exact ix_list value slice pins s σ z.H _ _ v u Q I rx ry ⟨p, _, _, _, rfl, rfl, t, by rw [atI_map, ei]; rfl, q.same c (.int _)⟩ hs
    · split at e
      · rename_i xs ha
        obtain ⟨p, vs, rfl, t, l⟩ := asSeq_inv c ha ra
        obtain ⟨w, ew, rw'⟩ := atI_rel l e
        rcases t with t | t
        · exact ix_tup value slice pins s σ z.H _ _ v u Q I rx ry ⟨p, vs, i, w, rfl, rfl, t, ew, q.same c rw'⟩ hs
        · exact ix_list value slice pins s σ z.H _ _ v u Q I rx ry ⟨p, vs, i, w, rfl, rfl, t, ew, q.same c rw'⟩ hs
      · cases e
  · cases e
theorem PE.orM {e : Expr} {t t' : TE} (h : PE X e t) (h' : PE X e t') : PE X e (fun σ H Q => t σ H Q ∨ t' σ H Q) :=
  ⟨fun pins s σ H Q I q => q.elim (h.run pins s σ H Q I) (h'.run pins s σ H Q I)⟩
/-- a[b]: a sequence's item, or a table's -/
def subF (x y : A) (h : Hh) : Option A := match lookA x y h with
  | some r => r
  | none => subA2 x y h
theorem ae_sub {a b : Expr} {fa fb : Sl → Hh → Out A} (hu : X.A.units + 1 < cLine) (ha : AE g X a fa) (hb : AE g X b fb) (hs : PlainIx b) : AE g X (.Subscript a b pos) (fun s h => (fa s h).bind fun x h1 => (fb s h1).bind fun y h2 => opt (subF x y h2) h2) := by
  intro W tk
  refine (PE.orM (pe_ix (ixA_seq (g := g)) (ha W tk) (hb W tk) hs) (pe_dget hu (ha W tk) (hb W tk) hs)).impM fun σ H Q hw => ?_
  have hw0 := hw
  obtain ⟨s, h, z, hz, c, rs, w⟩ := hw
  -- which of the two it is
  have key : (∃ x h1 y h2, fa s h = .ok x h1 ∧ fb s h1 = .ok y h2 ∧ (lookA x y h2).isSome = true) ∨ ¬ ∃ x h1 y h2, fa s h = .ok x h1 ∧ fb s h1 = .ok y h2 ∧ (lookA x y h2).isSome = true := Classical.em _
  rcases key with ⟨x, h1, y, h2, ea, eb, el⟩ | hn
  · refine .inr ?_
    refine ⟨s, h, z, hz, c, rs, ?_⟩
    simp only [ea, Out.bind_ok, eb] at w
    rw [ea]
    intro v z1 e1 c1 r1
    refine ⟨s, h1, z1, rfl, c1, rs.mono e1, ?_⟩
    rw [eb]
    intro u z2 e2 c2 r2
    obtain ⟨r, er, q⟩ := opt_wp w
    unfold subF at er
    cases hl : lookA x y h2 with
    | none => rw [hl] at el; cases el
    | some r' =>
      rw [hl] at er
      obtain ⟨p, o, rfl, dg, n1, n2⟩ := lookA_get c2 hl r2 (r1.mono e2)
      obtain ⟨v', rfl, rv⟩ := n2 r er
      exact ⟨p, v', rfl, dg, q v' z2 (e1.trans e2) c2 rv⟩
  · refine .inl ?_
    refine ⟨s, h, z, hz, c, rs, ?_⟩
    cases ea : fa s h with
    | no => simp only [ea] at w; exact w
    | ex e h' => simp only [ea] at w; exact w
    | ok x h1 =>
      simp only [ea, Out.bind_ok] at w
      intro v z1 e1 c1 r1
      refine ⟨s, h1, z1, rfl, c1, rs.mono e1, ?_⟩
      cases eb : fb s h1 with
      | no => simp only [eb] at w; exact w
      | ex e h' => simp only [eb] at w; exact exK.ext e1 w
      | ok y h2 =>
        simp only [eb, Out.bind_ok] at w
        intro u z2 e2 c2 r2
        obtain ⟨r, er, q⟩ := opt_wp w
        unfold subF at er
        cases hl : lookA x y h2 with
        | some r' => exact absurd ⟨x, h1, y, h2, ea, eb, by rw [hl]; rfl⟩ hn
        | none =>
          rw [hl] at er
          exact ⟨x, y, h2, z2, r, rfl, c2, r1.mono e2, r2, er, q.ext (e1.trans e2)⟩

/-! ### slices -/
/-- a slice's part: an int, None, or left out -/
def AO (g : Gm) (X : Cx) (e : Option Expr) (f : Sl → Hh → Out (Option Int)) : Prop := ∀ W, Takes X W → PO X e (fun σ H Q => ∃ s h z, z.H = H ∧ Cn X.K g z h ∧ RelSl X.K g z s σ ∧ (f s h).wp (fun o h' => ∀ z', Ext z z' → Cn X.K g z' h' → Q o z'.H) (exK X.K g z σ W))
theorem PO.impM {e : Option Expr} {t t' : TO} (h : PO X e t) (w : ∀ σ H Q, t' σ H Q → t σ H Q) : PO X e t' := ⟨fun pins s σ H Q I q => h.run pins s σ H Q I (w σ H Q q)⟩
theorem ao_none : AO g X none (fun _ h => .ok none h) := by
  intro W tk
  refine PO.impM po_none fun σ H Q ⟨s, h, z, hz, c, rs, w⟩ => ?_
  subst hz
  exact w z (Ext.refl z) c
def intA : A → Option Int
  | .d (.int i) => some i
  | _ => none
theorem ao_some {e : Expr} {f : Sl → Hh → Out A} (he : AE g X e f) : AO g X (some e) (fun s h => (f s h).bind fun a h1 => (opt (intA a) h1).bind fun i h1 => .ok (some i) h1) := by
  intro W tk
  refine PO.impM (po_some (he W tk)) fun σ H Q ⟨s, h, z, hz, c, rs, w⟩ => ?_
  refine ⟨s, h, z, hz, c, rs, Out.wp_mono (Out.wp_bind w) (fun a h1 w1 v z1 e1 c1 r1 => ?_) fun _ _ q => q⟩
  obtain ⟨i, ei, q⟩ := opt_wp (Out.wp_bind w1)
  unfold intA at ei
  split at ei
  · cases ei
    cases r1
    exact ⟨i, rfl, q z1 e1 c1⟩
  · cases ei
def sliceA (a : A) (lo hi : Option Int) (h : Hh) : Option A := match a with
  | .d (.tup xs) => if turnsD (cutL xs lo hi) = false then some (.d (.tup (cutL xs lo hi))) else none
  | .d (.scr ns) => some (.d (.lst ((cutL ns lo hi).map .int)))
  | .d (.str x) => if x.length ≤ sizeLine then some (.d (.str (cutS x lo hi))) else none
  | a => match asLst a h with
    | some xs => match allD xs with
      | some ds => some (.d (.lst (cutL ds lo hi)))
      | none => none
    | none => none
theorem cutL_v {K : PySem.W.Frag} {z : Zn} {xs : List D} {vs : List V} (l : RelL K g z xs vs) (lo hi : Option Int) : RelL K g z (cutL xs lo hi) (cutV vs lo hi) := by
  unfold cutL cutV
  rw [← l.length]
  exact (l.drop _).take _
theorem cutL_all {xs : List D} {lo hi : Option Int} (h : HT.sIx xs.length 0 lo = 0 ∧ HT.sIx xs.length xs.length hi = xs.length) : cutL xs lo hi = xs := by
  unfold cutL
  rw [h.1, h.2]; simp
theorem cutL_map {α β : Type} (f : α → β) (xs : List α) (lo hi : Option Int) : cutL (xs.map f) lo hi = (cutL xs lo hi).map f := by
  unfold cutL
  rw [List.length_map, List.map_take, List.map_drop]
def liftSl (K : PySem.W.Frag) (g : Gm) (f : A → Option Int → Option Int → Hh → Option A) : V → Option Int → Option Int → Hp → VK → Prop := fun x lo hi H Q => ∃ a h z r, z.H = H ∧ Cn K g z h ∧ RelA K g z a x ∧ f a lo hi h = some r ∧ okK K g z Q r h
theorem slA : SlR X (liftSl X.K g sliceA) := by
  intro pins s σ H x v vl vu lo hi sl Q I rx hsl pl pu hw
  obtain ⟨a, h, z, r, hz, c, ra, e, q⟩ := hw
  subst hz
  unfold sliceA at e
  split at e
  · split at e
    · rename_i htu
      cases e
      obtain ⟨p, vs, rfl, t, l⟩ := RelD.tup_inv ra
      refine sl_tupA pins s σ z.H _ v vl vu lo hi sl Q I rx hsl pl pu ⟨p, vs, rfl, t, fun hw => ?_, fun _ q' hq => ?_⟩
      · rw [← l.length] at hw
        rw [cutL_all hw] at q
        exact q.same c ra
      · exact q.frozen c hq fun z' ez f e => .tup f e ((cutL_v l lo hi).mono ez) htu
    · cases e
  · rename_i ns
    cases e
    obtain ⟨p, rfl, t⟩ := scr_inv ra
    refine sl_list pins s σ z.H _ v vl vu lo hi sl Q I rx hsl pl pu ⟨p, _, rfl, t, fun q' hq => ?_⟩
    refine q.frozen c hq fun z' ez f e => .lst f e ?_
    have : ∀ l : List Int, RelL X.K g z' (l.map .int) (l.map V.int) := fun l => by
      induction l with
      | nil => exact .nil
      | cons a r ih => exact .cons (.int a) ih
    have e2 : cutV (ns.map V.int) lo hi = (cutL ns lo hi).map V.int := cutL_map V.int ns lo hi
    rw [e2]
    exact this _
  · split at e
    · rename_i hl
      cases e
      cases ra
      exact sl_str pins s σ z.H _ v vl vu lo hi sl Q I rx hsl pl pu ⟨_, rfl, hl, q.same c (.str _)⟩
    · cases e
  · split at e
    · rename_i xs ha
      split at e
      · rename_i ds hd
        cases e
        obtain ⟨p, vs, rfl, t, l⟩ := asLst_inv c ha ra
        rw [allD_eq hd] at l
        refine sl_list pins s σ z.H _ v vl vu lo hi sl Q I rx hsl pl pu ⟨p, vs, rfl, .of t, fun q' hq => ?_⟩
        exact q.frozen c hq fun z' ez f e => .lst f e ((cutL_v (RelL.ofAs l) lo hi).mono ez)
      · cases e
    · cases e
theorem ae_slice {e : Expr} {lo hi : Option Expr} {p2 : Pos} {fe : Sl → Hh → Out A} {fl fh : Sl → Hh → Out (Option Int)} (he : AE g X e fe) (hl : AO g X lo fl) (hh : AO g X hi fh) :
    AE g X (.Subscript e (.Slice lo hi none p2) pos) (fun s h => (fe s h).bind fun a h1 => (fl s h1).bind fun l h2 => (fh s h2).bind fun u h3 => opt (sliceA a l u h3) h3) := by
  intro W tk
  refine (pe_slice (slA (g := g)) (he W tk) (hl W tk) (hh W tk)).impM fun σ H Q ⟨s, h, z, hz, c, rs, w⟩ => ?_
  refine ⟨s, h, z, hz, c, rs, Out.wp_mono (Out.wp_bind w) (fun x h1 w1 v z1 e1 c1 r1 => ?_) fun _ _ q => q⟩
  refine ⟨s, h1, z1, rfl, c1, rs.mono e1, Out.wp_mono (Out.wp_bind w1) (fun l h2 w2 z2 e2 c2 => ?_) fun _ _ q => q.ext e1⟩
  refine ⟨s, h2, z2, rfl, c2, (rs.mono e1).mono e2, Out.wp_mono (Out.wp_bind w2) (fun u h3 w3 z3 e3 c3 => ?_) fun _ _ q => q.ext (e1.trans e2)⟩
  obtain ⟨r, er, q⟩ := opt_wp w3
  exact ⟨x, h3, z3, r, rfl, c3, (r1.mono e2).mono e3, er, q.ext ((e1.trans e2).trans e3)⟩
end
end MP
end S_MPh
section S_MPi
/-! MPi: statements. -/
namespace MP
open PySem L2

theorem OS.wp_mono {r : OS} {nx bk ct nx' bk' ct' : Sl → Hh → Prop} {rt rt' : A → Hh → Prop} {W W' : D → Sl → Hh → Prop} (h : r.wp nx bk ct rt W) (h1 : ∀ s h, nx s h → nx' s h) (h2 : ∀ s h, bk s h → bk' s h) (h3 : ∀ s h, ct s h → ct' s h) (h4 : ∀ a h, rt a h → rt' a h) (h5 : ∀ e s h, W e s h → W' e s h) : r.wp nx' bk' ct' rt' W' := by
  cases r with
  | nx s hh => exact h1 _ _ h
  | rt a hh => exact h4 _ _ h
  | bk s hh => exact h2 _ _ h
  | ct s hh => exact h3 _ _ h
  | ex e s hh => exact h5 _ _ _ h
  | no => exact h
theorem OS.wp_seq {r : OS} {f : Sl → Hh → OS} {nx bk ct : Sl → Hh → Prop} {rt : A → Hh → Prop} {W : D → Sl → Hh → Prop} (h : (r.seq f).wp nx bk ct rt W) : r.wp (fun s h => (f s h).wp nx bk ct rt W) bk ct rt W := by
  cases r <;> exact h
theorem Out.wp_st {α : Type} {r : Out α} {s : Sl} {f : α → Hh → OS} {nx bk ct : Sl → Hh → Prop} {rt : A → Hh → Prop} {W : D → Sl → Hh → Prop} (h : (r.st s f).wp nx bk ct rt W) : r.wp (fun a h => (f a h).wp nx bk ct rt W) (fun e h => W e s h) := by
  cases r <;> exact h

section
variable {g : Gm} {X : Cx} {pos : Pos}
variable {K : PySem.W.Frag} {z z' : Zn}
/-- what a statement's end asks, further on -/
theorem OS.wp_ext {r : OS} {Dn : Ends} {W : WX} (e : Ext z z') (h : r.wp (slK K g z Dn.nx) (slK K g z Dn.bk) (slK K g z Dn.ct) (okK K g z Dn.rt) (exS K g z W)) : r.wp (slK K g z' Dn.nx) (slK K g z' Dn.bk) (slK K g z' Dn.ct) (okK K g z' Dn.rt) (exS K g z' W) :=
  OS.wp_mono h (fun _ _ q => q.ext e) (fun _ _ q => q.ext e) (fun _ _ q => q.ext e) (fun _ _ q => q.ext e) fun _ _ _ q => q.ext e
theorem exS.at {e : D} {s : Sl} {h : Hh} {σ : St} {W : WX} (rs : RelSl K g z s σ) (q : exS K g z W e s h) : exK K g z σ W e h := fun cl d z' ez c r => q cl d σ z' ez c r (rs.mono ez)

theorem ass_nil : ASs g X [] (fun s h => .nx s h) := by
  intro W tk
  refine pss_nil.impM fun D σ H ⟨s, h, z, hz, c, rs, w⟩ => ?_
  subst hz
  exact w σ z (Ext.refl z) c rs
theorem ass_cons {st : Stmt} {r : List Stmt} {f fr : Sl → Hh → OS} (h1 : AS g X st f) (h2 : ASs g X r fr) : ASs g X (st :: r) (fun s h => (f s h).seq fr) := by
  intro W tk
  refine (pss_cons (h1 W tk) (h2 W tk)).impM fun D σ H ⟨s, h, z, hz, c, rs, w⟩ => ?_
  refine ⟨s, h, z, hz, c, rs, OS.wp_mono (OS.wp_seq w) (fun s' h' w' σ' z' e' c' rs' => ?_) (fun _ _ q => q) (fun _ _ q => q) (fun _ _ q => q) fun _ _ _ q => q⟩
  exact ⟨s', h', z', rfl, c', rs', OS.wp_ext e' w'⟩
theorem as_pass : AS g X (.Pass pos) (fun s h => .nx s h) := by
  intro W tk
  refine ps_pass.impM fun D σ H ⟨s, h, z, hz, c, rs, w⟩ => ?_
  subst hz
  exact w σ z (Ext.refl z) c rs
theorem as_break : AS g X (.Break pos) (fun s h => .bk s h) := by
  intro W tk
  refine ps_break.impM fun D σ H ⟨s, h, z, hz, c, rs, w⟩ => ?_
  subst hz
  exact w σ z (Ext.refl z) c rs
theorem as_continue : AS g X (.Continue pos) (fun s h => .ct s h) := by
  intro W tk
  refine ps_continue.impM fun D σ H ⟨s, h, z, hz, c, rs, w⟩ => ?_
  subst hz
  exact w σ z (Ext.refl z) c rs
theorem as_expr {e : Expr} {f : Sl → Hh → Out A} (he : AE g X e f) (hs : swapsWith e none pos.line X.env = pure false) : AS g X (.Expr e pos) (fun s h => (f s h).st s fun _ h1 => .nx s h1) := by
  intro W tk
  refine (ps_expr (he W tk) hs).impM fun D σ H ⟨s, h, z, hz, c, rs, w⟩ => ?_
  exact ⟨s, h, z, hz, c, rs, Out.wp_mono (Out.wp_st w) (fun a h1 w1 v z1 e1 c1 _ => w1 σ z1 e1 c1 (rs.mono e1)) fun _ _ q => q.at rs⟩
theorem as_ret {e : Expr} {f : Sl → Hh → Out A} (he : AE g X e f) : AS g X (.Return (some e) pos) (fun s h => (f s h).st s fun a h1 => .rt a h1) := by
  intro W tk
  refine (ps_ret (he W tk)).impM fun D σ H ⟨s, h, z, hz, c, rs, w⟩ => ?_
  exact ⟨s, h, z, hz, c, rs, Out.wp_mono (Out.wp_st w) (fun a h1 w1 => w1) fun _ _ q => q.at rs⟩
theorem as_retN : AS g X (.Return none pos) (fun s h => .rt (.d .non) h) := by
  intro W tk
  refine ps_retN.impM fun D σ H ⟨s, h, z, hz, c, rs, w⟩ => ?_
  subst hz
  exact w .non z (Ext.refl z) c .non
theorem as_if {t : Expr} {a b : List Stmt} {ft : Sl → Hh → Out Bool} {fa fb : Sl → Hh → OS} (ht : AT g X t ft) (ha : ASs g X a fa) (hb : ASs g X b fb) : AS g X (.If t a b pos) (fun s h => (ft s h).st s fun k h1 => if k = true then fa s h1 else fb s h1) := by
  intro W tk
  refine (ps_if (ht W tk) (ha W tk) (hb W tk)).impM fun D σ H ⟨s, h, z, hz, c, rs, w⟩ => ?_
  refine ⟨s, h, z, hz, c, rs, Out.wp_mono (Out.wp_st w) (fun k h1 w1 z1 e1 c1 => ?_) fun _ _ q => q.at rs⟩
  cases k with
  | true =>
    rw [if_pos rfl] at w1
    rw [if_pos rfl]
    exact ⟨s, h1, z1, rfl, c1, rs.mono e1, OS.wp_ext e1 w1⟩
  | false =>
    rw [if_neg (by decide)] at w1
    rw [if_neg (by decide)]
    exact ⟨s, h1, z1, rfl, c1, rs.mono e1, OS.wp_ext e1 w1⟩

/-! ### targets -/
/-- nothing but the places of is has changed -/
def Tch (is : List Nat) (σ σ' : St) : Prop := σ'.length = σ.length ∧ ∀ j : Nat, j ∉ is → σ'[j]? = σ[j]?
theorem Tch.trans {is js : List Nat} {σ σ' σ'' : St} (a : Tch is σ σ') (b : Tch js σ' σ'') : Tch (is ++ js) σ σ'' :=
  ⟨b.1.trans a.1, fun k hk => (b.2 k fun h => hk (List.mem_append_right _ h)).trans (a.2 k fun h => hk (List.mem_append_left _ h))⟩
/-- a target: names and tuples of targets; is: the slots it stores -/
def liftG (K : PySem.W.Frag) (g : Gm) (is : List Nat) (f : A → Sl → Option Sl) : TG := fun v σ H Q => ∃ a s s' z, z.H = H ∧ RelA K g z a v ∧ RelSl K g z s σ ∧ f a s = some s' ∧ ∀ σ', RelSl K g z s' σ' → Tch is σ σ' → Q σ' H
def liftGs (K : PySem.W.Frag) (g : Gm) (is : List Nat) (f : List A → Sl → Option Sl) : TGs := fun vs σ H Q => ∃ as s s' z, z.H = H ∧ RelAs K g z as vs ∧ RelSl K g z s σ ∧ f as s = some s' ∧ ∀ σ', RelSl K g z s' σ' → Tch is σ σ' → Q σ' H
def AG (g : Gm) (X : Cx) (t : Expr) (is : List Nat) (f : A → Sl → Option Sl) : Prop := PG X t (liftG X.K g is f)
def AGs (g : Gm) (X : Cx) (ts : List Expr) (is : List Nat) (f : List A → Sl → Option Sl) : Prop := PGs X ts (liftGs X.K g is f)
theorem PG.impM {t : Expr} {r r' : TG} (h : PG X t r) (w : ∀ v σ H Q, r' v σ H Q → r v σ H Q) : PG X t r' := ⟨fun pins s σ H v u Q I rv q => h.run pins s σ H v u Q I rv (w v σ H Q q)⟩
theorem PGs.impM {t : List Expr} {r r' : TGs} (h : PGs X t r) (w : ∀ v σ H Q, r' v σ H Q → r v σ H Q) : PGs X t r' := ⟨fun pins s σ H v u Q I rv q => h.run pins s σ H v u Q I rv (w v σ H Q q)⟩
theorem ag_name {i : Nat} {x : Str} (hN : X.N.Nodup) (hi : X.N[i]? = some x) (hx : Loc X.env.scope x) (hf : X.fn x = true ∨ X.env.scope.names.lookup x = some .local) : AG g X (.Name x pos) [i] (fun a s => some (s.set i (some a))) := by
  refine PG.impM (pg_name hN hi hx hf) fun v σ H Q ⟨a, s, s', z, hz, ra, rs, e, q⟩ => ?_
  cases e
  exact q _ (rs.set ra) ⟨by simp, fun j hj => List.getElem?_set_ne fun e => hj (by simp [e])⟩
theorem ags_nil : AGs g X [] [] (fun as s => match as with | [] => some s | _ => none) := by
  refine PGs.impM pgs_nil fun v σ H Q ⟨a, s, s', z, hz, ra, rs, e, q⟩ => ?_
  cases ra with
  | nil => cases e; exact ⟨rfl, q _ rs ⟨rfl, fun _ _ => rfl⟩⟩
  | cons => cases e
theorem ags_cons {t : Expr} {ts : List Expr} {is js : List Nat} {f : A → Sl → Option Sl} {fs : List A → Sl → Option Sl} (h1 : AG g X t is f) (h2 : AGs g X ts js fs) (hs : (assignEach (t :: ts) X.env).map (·.2) = assign t X.env :: (assignEach ts X.env).map (·.2)) :
    AGs g X (t :: ts) (is ++ js) (fun as s => match as with | a :: r => (f a s).bind fun s' => fs r s' | [] => none) := by
  refine PGs.impM (pgs_cons h1 h2 hs) fun v σ H Q ⟨as, s, s', z, hz, ra, rs, e, q⟩ => ?_
  cases ra with
  | nil => cases e
  | @cons a v' as' vs' r1 r2 =>
    refine ⟨v', vs', rfl, ?_⟩
    have e' : (f a s).bind (fun s' => fs as' s') = some s' := e
    cases ef : f a s with
    | none => rw [ef] at e'; cases e'
    | some s1 =>
      rw [ef] at e'
      exact ⟨a, s, s1, z, hz, r1, rs, ef, fun σ1 rs1 t1 => ⟨as', s1, s', z, hz, r2, rs1, e', fun σ2 rs2 t2 => q σ2 rs2 (t1.trans t2)⟩⟩
theorem ag_tup {ts : List Expr} {k : Nat} {is : List Nat} {fs : List A → Sl → Option Sl} (hc : X.calm = true) (h : AGs g X ts is fs) (n : Nat) (hn : (assignEach ts X.env).length = n) (hst : (assignEach ts X.env).findIdx? (·.1) = none) :
    AG g X (.Tuple ts k pos) is (fun a s => match a with | .d (.tup xs) => if xs.length = n then fs (xs.map .d) s else none | _ => none) := by
  refine PG.impM (pg_tup hc h hn hst) fun v σ H Q ⟨a, s, s', z, hz, ra, rs, e, q⟩ => ?_
  subst hz
  dsimp only at e
  split at e
  · split at e
    · rename_i xs hl
      obtain ⟨p, vs, rfl, t, l⟩ := RelD.tup_inv ra
      exact ⟨p, vs, rfl, t, by rw [← l.length]; exact hl, _, s, s', z, rfl, RelAs.ofL l, rs, e, q⟩
    · cases e
  · cases e
/-- target = value -/
theorem as_asg {t e : Expr} {f : Sl → Hh → Out A} {is : List Nat} {ft : A → Sl → Option Sl} (he : AE g X e f) (ht : AG g X t is ft) (hs : swapsWithSole [t] e pos.line X.env = pure false) (hw : swappedStores [t] e X.env = pure none) (h1 : (assignEach [t] X.env).map (·.2) = [assign t X.env]) :
    AS g X (.Assign [t] e pos) (fun s h => (f s h).st s fun a h1 => match ft a s with | some s' => .nx s' h1 | none => .no) := by
  intro W tk
  refine (ps_asg (he W tk) ht hs hw h1).impM fun D σ H ⟨s, h, z, hz, c, rs, w⟩ => ?_
  refine ⟨s, h, z, hz, c, rs, Out.wp_mono (Out.wp_st w) (fun a h1 w1 v z1 e1 c1 r1 => ?_) fun _ _ q => q.at rs⟩
  cases ef : ft a s with
  | none => rw [ef] at w1; exact w1.elim
  | some s' =>
    rw [ef] at w1
    exact ⟨a, s, s', z1, rfl, r1, rs.mono e1, ef, fun σ' rs' _ => w1 σ' z1 e1 c1 rs'⟩
/-- a, b = x, y -/
theorem as_par {i j : Nat} {x y : Str} {a b : Expr} {fs : Sl → Hh → Out (List A)} {px py pt : Pos} {kt k2 pt2} (hc : X.calm = true) (hN : X.N.Nodup) (hi : X.N[i]? = some x) (hj : X.N[j]? = some y) (hij : i ≠ j) (hx : X.env.scope.names.lookup x = some .local) (hy : X.env.scope.names.lookup y = some .local)
    (ha : AA g X [a, b] fs) (hw : swappedStores [.Tuple [.Name x px, .Name y py] kt pt] (.Tuple [a, b] k2 pt2) X.env = pure (some [x, y])) (hs : swapsWithSole [.Tuple [.Name x px, .Name y py] kt pt] (.Tuple [a, b] k2 pt2) pos.line X.env = pure false) :
    AS g X (.Assign [.Tuple [.Name x px, .Name y py] kt pt] (.Tuple [a, b] k2 pt2) pos) (fun s h => (fs s h).st s fun as h1 => match as with | [u, v] => .nx ((s.set i (some u)).set j (some v)) h1 | _ => .no) := by
  intro W tk
  refine (ps_par hc hN hi hj hij hx hy (ha W tk) hw hs).impM fun D σ H ⟨s, h, z, hz, c, rs, w⟩ => ?_
  refine ⟨s, h, z, hz, c, rs, Out.wp_mono (Out.wp_st w) (fun as h1 w1 vs z1 e1 c1 r1 => ?_) fun _ _ q => q.at rs⟩
  split at w1
  · rename_i u v
    cases r1 with
    | cons a1 r => cases r with
      | cons a2 r => cases r; exact ⟨_, _, rfl, w1 _ z1 e1 c1 (((rs.mono e1).set a1).set a2)⟩
  · exact w1.elim
/-- a, b, .. = x, y, .. through a tuple that is made and unpacked -/
theorem as_parT {ts es : List Expr} {fs : Sl → Hh → Out (List A)} {is : List Nat} {ft : List A → Sl → Option Sl} {kt k2 : Nat} {pt pt2 : Pos} (hc : X.calm = true) (hs : AA g X es fs) (ht : AGs g X ts is ft) (n : Nat) (hn : (assignEach ts X.env).length = n) (hst : (assignEach ts X.env).findIdx? (·.1) = none)
    (hsw : swapsWithSole [.Tuple ts kt pt] (.Tuple es k2 pt2) pos.line X.env = pure false) (hw : swappedStores [.Tuple ts kt pt] (.Tuple es k2 pt2) X.env = pure none) :
    AS g X (.Assign [.Tuple ts kt pt] (.Tuple es k2 pt2) pos) (fun s h => (fs s h).st s fun as h1 => if as.length = n ∧ n ≤ sizeLine then (match ft as s with | some s' => .nx s' h1 | none => .no) else .no) := by
  intro W tk
  refine (ps_asg (pe_tup (hs W tk)) (pg_tup hc ht hn hst) hsw hw rfl).impM fun D σ H ⟨s, h, z, hz, c, rs, w⟩ => ?_
  refine ⟨s, h, z, hz, c, rs, Out.wp_mono (Out.wp_st w) (fun as h1 w1 vs z1 e1 c1 r1 => ?_) fun _ _ q => q.at rs⟩
  split at w1
  · rename_i hl
    refine ⟨by rw [← r1.length, hl.1]; exact hl.2, fun p hp => ?_⟩
    refine ⟨p, vs, rfl, SqT.of upd_same, by rw [← r1.length]; exact hl.1, ?_⟩
    split at w1
    · rename_i s' hs'
      refine ⟨as, s, s', z1.upd p (.tup vs), rfl, r1.mono (Ext.junk hp), rs.mono (e1.trans (Ext.junk hp)), hs', fun σ' rs' _ => ?_⟩
      exact w1 σ' _ (e1.trans (Ext.junk hp)) (c1.junk hp) rs'
    · exact w1.elim
  · exact w1.elim
end
end MP
end S_MPi
section S_MPj
/-! MPj: loops. -/
namespace MP
open PySem L2

/-- the object that is walked stands as it stood -/
def keepO (m : Option Nat) (h0 h : Hh) : Prop := match m with
  | none => True
  | some i => h[i]? = h0[i]?
open Classical in
noncomputable def loopF (ft : A → Sl → Option Sl) (fb : Sl → Hh → OS) (m : Option Nat) (h0 : Hh) : List A → Sl → Hh → OS
  | [], s, h => .nx s h
  | x :: r, s, h => match ft x s with
    | none => .no
    | some s1 => match fb s1 h with
      | .nx s2 h2 => if keepO m h0 h2 then loopF ft fb m h0 r s2 h2 else .no
      | .ct s2 h2 => if keepO m h0 h2 then loopF ft fb m h0 r s2 h2 else .no
      | .bk s2 h2 => .nx s2 h2
      | o => o

/-- J walks the abstract values xs -/
def IterJ (K : PySem.W.Frag) (g : Gm) (J : L2.It) (xs : List A) (m : Option Nat) (h1 : Hh) (z1 : Zn) : Prop :=
  ∃ (G : Hp → Prop) (Y : Nat → Hp → V → Hp → Prop), Walk J xs.length G Y ∧ (∀ z2 h2, Ext z1 z2 → Cn K g z2 h2 → keepO m h1 h2 → G z2.H) ∧
    ∀ i z2 h2 x H', i < xs.length → Ext z1 z2 → Cn K g z2 h2 → keepO m h1 h2 → Y i z2.H x H' → ∃ z3 a, z3.H = H' ∧ Ext z2 z3 ∧ Cn K g z3 h2 ∧ xs[i]? = some a ∧ RelA K g z3 a x
def liftI (K : PySem.W.Frag) (g : Gm) (W : WX) (f : Sl → Hh → Out (List A × Option Nat)) : TI := fun σ H R => ∃ s h z, z.H = H ∧ Cn K g z h ∧ RelSl K g z s σ ∧
  (f s h).wp (fun p h' => ∀ J z', Ext z z' → Cn K g z' h' → IterJ K g J p.1 p.2 h' z' → R J z'.H) (exK K g z σ W)
def AI (g : Gm) (X : Cx) (tg iter : Expr) (f : Sl → Hh → Out (List A × Option Nat)) : Prop := ∀ W, Takes X W → PI X tg iter (liftI X.K g W f)

section
variable {g : Gm} {X : Cx} {pos : Pos} {tg : Expr}
theorem PI.impM {iter : Expr} {t t' : TI} (h : PI X tg iter t) (w : ∀ σ H R, t' σ H R → t σ H R) : PI X tg iter t' := ⟨fun pins s σ H R I q => h.run pins s σ H R I (w σ H R q)⟩
theorem PI.orM {iter : Expr} {t t' : TI} (h : PI X tg iter t) (h' : PI X tg iter t') : PI X tg iter (fun σ H R => t σ H R ∨ t' σ H R) := ⟨fun pins s σ H R I q => q.elim (h.run pins s σ H R I) (h'.run pins s σ H R I)⟩

theorem as_for {iter : Expr} {body : List Stmt} {fi : Sl → Hh → Out (List A × Option Nat)} {is : List Nat} {ft : A → Sl → Option Sl} {fb : Sl → Hh → OS} (hp : PassesOwn (model X.prog X.w) X.A X.env X.xe) (hc : X.calm = true) (hi : AI g X tg iter fi) (hg : AG g X tg is ft) (hb : ASs g X body fb)
    (hs : ∀ x, foldedSetIterable iter X.env x = pure x) : AS g X (.For tg iter body [] pos) (fun s h => (fi s h).st s fun p h1 => loopF ft fb p.2 h1 p.1 s h1) := by
  intro W tk
  refine (ps_for hp hc (hi W tk) hg (hb W tk) hs).impM fun Dn σ H ⟨s, h, z, hz, c, rs, w⟩ => ?_
  refine ⟨s, h, z, hz, c, rs, Out.wp_mono (Out.wp_st w) (fun p h1 w1 J z1 e1 c1 ij => ?_) fun _ _ q => q.at rs⟩
  obtain ⟨xs, m⟩ := p
  obtain ⟨G, Y, wk, hG, hY⟩ := ij
  have w1' := OS.wp_ext e1 w1
  refine for_it (g := liftG X.K g is ft) (tb := liftS X.K g W fb) (D := Dn) wk (fun i σ' H' => ∃ s' h' z', z'.H = H' ∧ Ext z1 z' ∧ Cn X.K g z' h' ∧ RelSl X.K g z' s' σ' ∧ keepO m h1 h' ∧
    (loopF ft fb m h1 (xs.drop i) s' h').wp (slK X.K g z' Dn.nx) (slK X.K g z' Dn.bk) (slK X.K g z' Dn.ct) (okK X.K g z' Dn.rt) (exS X.K g z' W)) ?_ ?_ ?_ ?_
  · exact ⟨s, h1, z1, rfl, Ext.refl z1, c1, rs.mono e1, by cases m <;> simp [keepO], w1'⟩
  · rintro i σ' H' hi ⟨s', h', z', rfl, e', c', rs', k', _⟩
    exact hG z' h' e' c' k'
  · rintro i x σ' H' H2 hlt ⟨s', h', z', rfl, e', c', rs', k', w'⟩ y
    obtain ⟨z3, a, rfl, e3, c3, ea, ra⟩ := hY i z' h' x H2 hlt e' c' k' y
    have hd : xs.drop i = a :: xs.drop (i + 1) := by
      rw [List.drop_eq_getElem_cons hlt]
      congr 1
      rw [List.getElem?_eq_getElem hlt] at ea
      exact Option.some.inj ea
    rw [hd, loopF] at w'
    cases ef : ft a s' with
    | none => rw [ef] at w'; exact w'.elim
    | some s1 =>
      rw [ef] at w'
      dsimp only at w'
      refine ⟨a, s', s1, z3, rfl, ra, rs'.mono e3, ef, fun σ1 rs1 _ => ?_⟩
      refine ⟨s1, h', z3, rfl, c3, rs1, ?_⟩
      cases eb : fb s1 h' with
      | no => rw [eb] at w'; exact w'
      | rt a2 h2 => rw [eb] at w'; exact okK.ext e3 w'
      | ex e2 s2 h2 => rw [eb] at w'; exact exS.ext e3 w'
      | bk s2 h2 => rw [eb] at w'; exact slK.ext e3 w'
      | nx s2 h2 =>
        rw [eb] at w'
        dsimp only at w'
        intro σ2 z4 e4 c4 rs4
        split at w'
        · rename_i hk
          exact ⟨s2, h2, z4, rfl, (e'.trans e3).trans e4, c4, rs4, hk, OS.wp_ext (e3.trans e4) w'⟩
        · exact w'.elim
      | ct s2 h2 =>
        rw [eb] at w'
        dsimp only at w'
        intro σ2 z4 e4 c4 rs4
        split at w'
        · rename_i hk
          exact ⟨s2, h2, z4, rfl, (e'.trans e3).trans e4, c4, rs4, hk, OS.wp_ext (e3.trans e4) w'⟩
        · exact w'.elim
  · rintro σ' H' ⟨s', h', z', rfl, e', c', rs', k', w'⟩
    rw [List.drop_length] at w'
    exact w' σ' z' (Ext.refl z') c' rs'

/-! ### what is walked -/
theorem keepO_refl (m : Option Nat) (h : Hh) : keepO m h h := by cases m <;> simp [keepO]
/-- a frozen sequence at p -/
theorem iterJ_lst {K : PySem.W.Frag} {z : Zn} {h : Hh} {p : Addr} {xs : List D} {vs : List V} (f : z.F p) (e : z.H p = some (.lst vs)) (l : RelL K g z xs vs) : IterJ K g (Itl K p) (xs.map .d) none h z := by
  refine ⟨fun H => SqL K H p vs, YAt vs, ?_, fun z2 h2 ez _ _ => .of (ez.keep f e rfl), fun i z2 h2 x H' hi ez c2 _ y => ?_⟩
  · rw [List.length_map, l.length]
    exact walk_list
  · obtain ⟨rfl, hx⟩ := y
    rw [List.length_map] at hi
    have hx' : xs[i]? = some xs[i] := List.getElem?_eq_getElem hi
    obtain ⟨y, hy, ry⟩ := l.get hx'
    rw [hx] at hy; cases hy
    exact ⟨z2, .d xs[i], rfl, Ext.refl z2, c2, by rw [List.getElem?_map, hx']; rfl, RelD.mono ez ry⟩
theorem iterJ_tup {K : PySem.W.Frag} {z : Zn} {h : Hh} {p : Addr} {xs : List D} {vs : List V} (st : ∀ z2, Ext z z2 → SqT K z2.H p vs) (l : RelL K g z xs vs) : IterJ K g (Itt K p) (xs.map .d) none h z := by
  refine ⟨fun H => SqT K H p vs, YAt vs, ?_, fun z2 h2 ez _ _ => st z2 ez, fun i z2 h2 x H' hi ez c2 _ y => ?_⟩
  · rw [List.length_map, l.length]
    exact walk_tup
  · obtain ⟨rfl, hx⟩ := y
    rw [List.length_map] at hi
    have hx' : xs[i]? = some xs[i] := List.getElem?_eq_getElem hi
    obtain ⟨y, hy, ry⟩ := l.get hx'
    rw [hx] at hy; cases hy
    exact ⟨z2, .d xs[i], rfl, Ext.refl z2, c2, by rw [List.getElem?_map, hx']; rfl, RelD.mono ez ry⟩
/-- a mutable list that stands still -/
theorem iterJ_ref {K : PySem.W.Frag} {z : Zn} {h : Hh} {i : Nat} {p : Addr} {xs : List A} (hi : h[i]? = some (.lst xs)) (hp : z.rho[i]? = some p) (c : Cn K g z h) : IterJ K g (Itl K p) xs (some i) h z := by
  have at2 : ∀ z2 h2, Ext z z2 → Cn K g z2 h2 → keepO (some i) h h2 → ∃ vs, z2.H p = some (.lst vs) ∧ RelAs K g z2 xs vs := fun z2 h2 ez c2 k => by
    have hi2 : h2[i]? = some (.lst xs) := (show h2[i]? = h[i]? from k).trans hi
    obtain ⟨q, hq, r⟩ := c2.at hi2
    have : q = p := by
      obtain ⟨t, et, _⟩ := ez.pre
      rw [et, List.getElem?_append_left (List.getElem?_eq_some_iff.mp hp).1, hp] at hq
      exact (Option.some.inj hq).symm
    subst this
    obtain ⟨_, vs, h1, h2⟩ := r
    exact ⟨vs, h1, h2⟩
  refine ⟨fun H => ∃ vs, SqL K H p vs ∧ vs.length = xs.length, fun j H x H' => H' = H ∧ ∀ vs, SqL K H p vs → vs[j]? = some x, ⟨fun j H hj ⟨vs, sq, hl⟩ => ?_, fun H ⟨vs, sq, hl⟩ => ?_, fun j H x H' hj _ y => ⟨y.1, y.2⟩⟩, fun z2 h2 ez c2 k => ?_, fun j z2 h2 x H' hj ez c2 k y => ?_⟩
  · exact ⟨vs, vs[j], sq, List.getElem?_eq_getElem (by omega)⟩
  · exact ⟨vs, sq, by omega⟩
  · obtain ⟨vs, h1, h2⟩ := at2 z2 h2 ez c2 k
    exact ⟨vs, .of h1, h2.length.symm⟩
  · obtain ⟨rfl, hx⟩ := y
    obtain ⟨vs, h1, h2⟩ := at2 z2 h2 ez c2 k
    have hx' : xs[j]? = some xs[j] := List.getElem?_eq_getElem hj
    obtain ⟨y, hy, ry⟩ := h2.get hx'
    have := hx vs (.of h1)
    rw [this] at hy; cases hy
    exact ⟨z2, xs[j], rfl, Ext.refl z2, c2, hx', ry⟩
theorem iterJ_str {K : PySem.W.Frag} {z : Zn} {h : Hh} {x : Str} : IterJ K g (Its x) (x.cps.toList.map fun c => .d (.str ⟨#[c]⟩)) none h z := by
  refine ⟨fun _ => True, fun i H v H' => H' = H ∧ ∃ c, x.cps[i]? = some c ∧ v = .str ⟨#[c]⟩, ?_, fun _ _ _ _ _ => trivial, fun i z2 h2 v H' hi ez c2 _ y => ?_⟩
  · rw [List.length_map, Array.length_toList]
    exact walk_str
  · obtain ⟨rfl, c, hc, rfl⟩ := y
    exact ⟨z2, .d (.str ⟨#[c]⟩), rfl, Ext.refl z2, c2, by rw [List.getElem?_map, Array.getElem?_toList, hc]; rfl, RelD.str _⟩
def rngL (lo : Int) (n : Nat) : List A := (List.range n).map fun i => .d (.int (lo + (i : Nat)))
theorem iterJ_rng {K : PySem.W.Frag} {z : Zn} {h : Hh} {lo : Int} {n : Nat} : IterJ K g (Itr lo n) (rngL lo n) none h z := by
  refine ⟨fun _ => True, YFn fun i => .int (lo + i), ?_, fun _ _ _ _ _ => trivial, fun i z2 h2 v H' hi ez c2 _ y => ?_⟩
  · unfold rngL
    rw [List.length_map, List.length_range]
    exact walk_range
  · obtain ⟨rfl, rfl⟩ := y
    unfold rngL at hi ⊢
    rw [List.length_map, List.length_range] at hi
    exact ⟨z2, .d (.int (lo + (i : Nat))), rfl, Ext.refl z2, c2, by rw [List.getElem?_map, List.getElem?_range hi]; rfl, RelD.int _⟩

/-- for x in e: a frozen list or tuple, a mutable list, a text -/
def iterV (a : A) (h : Hh) : Option (List A × Option Nat) := match a with
  | .d (.lst xs) => some (xs.map .d, none)
  | .d (.tup xs) => some (xs.map .d, none)
  | .d (.str x) => some (x.cps.toList.map fun c => .d (.str ⟨#[c]⟩), none)
  | .ref i => match h[i]? with
    | some (.lst xs) => some (xs, some i)
    | _ => none
  | _ => none
theorem RelD.tup_st {K : PySem.W.Frag} {z : Zn} {xs : List D} {v : V} (r : RelD K g z (.tup xs) v) : ∃ p vs, v = .ref p ∧ (∀ z2, Ext z z2 → SqT K z2.H p vs) ∧ RelL K g z xs vs := by
  cases r with
  | tup f x l t => exact ⟨_, _, rfl, fun z2 ez => .of (ez.keep f x rfl), l⟩
  | tupF f x d l t => exact ⟨_, _, rfl, fun z2 ez => .inl (.inr ⟨_, ez.keep f x rfl⟩), l⟩
  | tupK k => exact ⟨_, _, rfl, fun z2 ez => .inr k, .nil⟩
theorem ai_val {e : Expr} {f : Sl → Hh → Out A} (he : AE g X e f) : AI g X tg e (fun s h => (f s h).bind fun a h1 => opt (iterV a h1) h1) := by
  intro W tk
  refine PI.impM (PI.orM (pi_list (he W tk)) (PI.orM (pi_tup (he W tk)) (pi_str (he W tk)))) fun σ H R ⟨s, h, z, hz, c, rs, w⟩ => ?_
  dsimp only at w
  cases ef : f s h with
  | no => rw [ef] at w; exact w.elim
  | ex e h' =>
    rw [ef] at w
    refine .inl ⟨s, h, z, hz, c, rs, ?_⟩
    rw [ef]; exact w
  | ok a h1 =>
    rw [ef] at w
    obtain ⟨p, ep, q⟩ := opt_wp (show (opt (iterV a h1) h1).wp _ _ from w)
    unfold iterV at ep
    split at ep
    · cases ep
      refine .inl ⟨s, h, z, hz, c, rs, ?_⟩
      rw [ef]
      intro v z1 e1 c1 r1
      cases r1 with
      | @lst pp xs vs f e l => exact ⟨pp, rfl, ⟨vs, .of e⟩, q _ z1 e1 c1 (iterJ_lst f e l)⟩
    · cases ep
      refine .inr (.inl ⟨s, h, z, hz, c, rs, ?_⟩)
      rw [ef]
      intro v z1 e1 c1 r1
      obtain ⟨pp, vs, rfl, st, l⟩ := RelD.tup_st r1
      exact ⟨pp, rfl, ⟨vs, st z1 (Ext.refl z1)⟩, q _ z1 e1 c1 (iterJ_tup st l)⟩
    · cases ep
      refine .inr (.inr ⟨s, h, z, hz, c, rs, ?_⟩)
      rw [ef]
      intro v z1 e1 c1 r1
      cases r1
      exact ⟨_, rfl, q _ z1 e1 c1 iterJ_str⟩
    · rename_i i
      split at ep
      · rename_i xs hi
        cases ep
        refine .inl ⟨s, h, z, hz, c, rs, ?_⟩
        rw [ef]
        intro v z1 e1 c1 r1
        obtain ⟨pp, hp, rfl⟩ := r1
        obtain ⟨_, vs, h1, h2⟩ := c1.ob i _ pp hi hp
        exact ⟨pp, rfl, ⟨vs, .of h1⟩, q _ z1 e1 c1 (iterJ_ref hi hp c1)⟩
      · cases ep
    · cases ep
def rngA (as : List A) : Option (List A × Option Nat) := match as with
  | [.d (.int n)] => if -(2 ^ 62) ≤ n ∧ n < 2 ^ 62 then some (rngL 0 n.toNat, none) else none
  | [.d (.int m), .d (.int n)] => if -(2 ^ 62) ≤ m ∧ m < 2 ^ 62 ∧ -(2 ^ 62) ≤ n ∧ n < 2 ^ 62 then some (rngL m (n - m).toNat, none) else none
  | _ => none
theorem ai_rng1 {e : Expr} {p : Pos} {fs : Sl → Hh → Out (List A)} (hg : Gl X "range") (hm : X.mg "range" = none) (ha : AA g X [e] fs) (h1 : ∀ s h as h', fs s h = .ok as h' → as.length = 1) (hs : starEach [e] X.env = [(false, eval e X.env)]) : AI g X tg (.Call (.Name "range" p) [e] [] pos) (fun s h => (fs s h).bind fun as h1 => opt (rngA as) h1) := by
  intro W tk
  refine PI.impM (pi_range1 hg hm (ha W tk) hs) fun σ H R ⟨s, h, z, hz, c, rs, w⟩ => ?_
  dsimp only at w
  refine ⟨s, h, z, hz, c, rs, ?_⟩
  cases ef : fs s h with
  | no => rw [ef] at w; exact w.elim
  | ex e h' => rw [ef] at w; exact w
  | ok as h2 =>
    rw [ef] at w
    have hl := h1 s h as h2 ef
    obtain ⟨p, ep, q⟩ := opt_wp (show (opt (rngA as) h2).wp _ _ from w)
    intro vs z1 e1 c1 r1
    unfold rngA at ep
    split at ep
    · split at ep
      · rename_i n hn
        cases ep
        cases r1 with
        | cons a r => cases r; cases a; exact ⟨n, rfl, hn.1, hn.2, q _ z1 e1 c1 iterJ_rng⟩
      · cases ep
    · simp at hl
    · cases ep
end
end MP
end S_MPj
section S_MPk
/-! MPk: list comprehensions. -/
namespace MP
open PySem L2

open Classical in
noncomputable def loopC (fe : A → Hh → Out (Option A)) (m : Option Nat) (h0 : Hh) : List A → Hh → Out (List A)
  | [], h => .ok [] h
  | x :: r, h => match fe x h with
    | .ok o h' => if keepO m h0 h' then (loopC fe m h0 r h').bind fun ys h2 => .ok (o.toList ++ ys) h2 else .no
    | _ => .no
/-- a turn -/
def turnC (ft : A → Sl → Option Sl) (fi : Sl → Hh → Out Bool) (fe : Sl → Hh → Out A) (s : Sl) (x : A) (h : Hh) : Out (Option A) := match ft x s with
  | none => .no
  | some s2 => (fi s2 h).bind fun k h1 => if k = true then (fe s2 h1).bind fun y h2 => .ok (some y) h2 else .ok none h1

section
variable {g : Gm} {X : Cx} {pos : Pos}
theorem wipe_eq {σ σ' : St} {vs is : List Nat} (h : Tch is σ σ') (hs : ∀ i ∈ is, i ∈ vs) : wipe σ' vs = wipe σ vs := by
  have key : ∀ (vs : List Nat) (τ : St) (j : Nat), (wipe τ vs)[j]? = if j ∈ vs then (if j < τ.length then some none else none) else τ[j]? := by
    intro vs
    induction vs with
    | nil => intro τ j; simp [wipe]
    | cons v vs ih =>
      intro τ j
      rw [wipe]
      by_cases e : v = j
      · subst e
        by_cases hl : v < τ.length
        · rw [List.getElem?_set_self (by rw [wipe_length]; exact hl)]; simp [hl]
        · rw [List.getElem?_eq_none (by rw [List.length_set, wipe_length]; omega)]; simp [hl]
      · rw [List.getElem?_set_ne e, ih]
        have : (j ∈ v :: vs) ↔ j ∈ vs := by simp [Ne.symm e]
        simp [this]
  refine List.ext_getElem? fun j => ?_
  rw [key, key]
  by_cases hj : j ∈ vs
  · simp [hj, h.1]
  · simp [hj]
    exact h.2 j fun hi => hj (hs j hi)
theorem RelSl.wipe {K : PySem.W.Frag} {z : Zn} {s : Sl} {σ : St} (r : RelSl K g z s σ) : ∀ vs : List Nat, RelSl K g z (wipeS s vs) (L2.wipe σ vs)
  | [] => r
  | v :: vs => (RelSl.wipe r vs).unset v
theorem ats_nil {ifs : List Expr} (h : ifs = []) (W : WX) (tk : Takes X W) : PTs X ifs (liftT X.K g W fun _ h => .ok true h) := by
  subst h
  refine ⟨fun pins s σ H Q I q => pts_nil.run pins s σ H Q I ?_⟩
  obtain ⟨s, h, z, hz, c, rs, w⟩ := q
  subst hz
  exact w z (Ext.refl z) c
theorem ats_one {e : Expr} {f : Sl → Hh → Out Bool} (h : AT g X e f) (W : WX) (tk : Takes X W) : PTs X [e] (liftT X.K g W f) := pts_one (h W tk)
theorem wipe_eq_of {σ σ' : St} {vs is : List Nat} (h : Tch is (L2.wipe σ vs) σ') (hs : ∀ i ∈ is, i ∈ vs) : wipe σ' vs = wipe σ vs := by
  rw [wipe_eq h hs]
  exact wipe_eq ⟨wipe_length σ vs, fun j hj => wipe_out hj⟩ fun i hi => hi
theorem loopC_ex {fe : A → Hh → Out (Option A)} {m : Option Nat} {h0 : Hh} : ∀ {xs : List A} {h : Hh} {e : D} {h' : Hh}, loopC fe m h0 xs h = .ex e h' → False
  | [], _, _, _, q => by rw [loopC] at q; cases q
  | x :: r, h, e, h', q => by
    rw [loopC] at q
    split at q
    · split at q
      · rename_i o h2 _ _
        cases el : loopC fe m h0 r h2 with
        | no => rw [el] at q; cases q
        | ex e h6 => exact loopC_ex el
        | ok ys h6 => rw [el] at q; cases q
      · cases q
    · cases q
theorem bind_nil {r : Out (List A)} {F : List A → Hh → Out A} {acc : List A} {Q : A → Hh → Prop} {W : D → Hh → Prop} (w : ((r.bind fun ys h2 => .ok (Option.toList (none : Option A) ++ ys) h2).bind fun ys h2 => F (acc ++ ys) h2).wp Q W) : (r.bind fun ys h2 => F (acc ++ ys) h2).wp Q W := by
  cases r with
  | ok a h => simpa [Out.bind] using w
  | ex e h => exact w
  | no => exact w
theorem bind_one {r : Out (List A)} {F : List A → Hh → Out A} {acc : List A} {y : A} {Q : A → Hh → Prop} {W : D → Hh → Prop} (w : ((r.bind fun ys h2 => .ok (Option.toList (some y) ++ ys) h2).bind fun ys h2 => F (acc ++ ys) h2).wp Q W) : (r.bind fun ys h2 => F (acc ++ [y] ++ ys) h2).wp Q W := by
  cases r with
  | ok a h => simpa [Out.bind] using w
  | ex e h => exact w
  | no => exact w
/-- less than Ext: only what is frozen stands -/
structure ExtW (z z' : Zn) : Prop where
  pre : ∃ t, z'.rho = z.rho ++ t
  fz : ∀ p, z.F p → z'.F p
  rx : ∀ p u, z.F p → Rx z.H p u → Rx z'.H p u
theorem ExtW.keep {z z' : Zn} (e : ExtW z z') {p : Addr} {u : HO} (f : z.F p) (h : z.H p = some u) (l : lockable u = false) : z'.H p = some u := by
  rcases e.rx p u f (.of h) with x | ⟨y, _⟩
  · exact x
  · rw [l] at y; cases y
section
variable {K : PySem.W.Frag} {z z' : Zn} {h : Hh}
mutual
theorem RelD.monoW (e : ExtW z z') : ∀ {x : D} {v : V}, RelD K g z x v → RelD K g z' x v
  | _, _, .non => .non
  | _, _, .bl b => .bl b
  | _, _, .int i => .int i
  | _, _, .str x => .str x
  | _, _, .tup f r l t => .tup (e.fz _ f) (e.keep f r rfl) (RelL.monoW e l) t
  | _, _, .tupF f r d l t => .tupF (e.fz _ f) (e.keep f r rfl) d (RelL.monoW e l) t
  | _, _, .tupK k => .tupK k
  | _, _, .lst f r l => .lst (e.fz _ f) (e.keep f r rfl) (RelL.monoW e l)
  | _, _, .dk f r n l => .dk (e.fz _ f) (e.rx _ _ f r) n (RelL.monoW e l)
  | _, _, .dt f r n l => .dt (e.fz _ f) (e.rx _ _ f r) n (RelL.monoW e l)
  | _, _, .obj f r a n l => .obj (e.fz _ f) (e.keep f r rfl) a n (RelL.monoW e l)
  | _, _, .fn f => .fn f
  | _, _, .cls c => .cls c
  | _, _, .scr f r => .scr (e.fz _ f) (e.keep f r rfl)
  | _, _, .scrK k => .scrK k
theorem RelL.monoW (e : ExtW z z') : ∀ {x : List D} {v : List V}, RelL K g z x v → RelL K g z' x v
  | _, _, .nil => .nil
  | _, _, .cons a b => .cons (RelD.monoW e a) (RelL.monoW e b)
end
theorem RelA.monoW (e : ExtW z z') {a : A} {v : V} (r : RelA K g z a v) : RelA K g z' a v := by
  cases a with
  | d x => exact RelD.monoW e r
  | ref i =>
    obtain ⟨p, hp, rfl⟩ := r
    obtain ⟨t, et⟩ := e.pre
    refine ⟨p, ?_, rfl⟩
    rw [et, List.getElem?_append_left (List.getElem?_eq_some_iff.mp hp).1]
    exact hp
theorem RelAs.monoW (e : ExtW z z') : ∀ {a : List A} {v : List V}, RelAs K g z a v → RelAs K g z' a v
  | _, _, .nil => .nil
  | _, _, .cons a b => .cons (a.monoW e) (RelAs.monoW e b)
theorem RelO.monoW {o : O} {p : Addr} (e : ExtW z z') (hF : ¬ z'.F p) (hH : z'.H p = z.H p) (r : RelO K g z o p) : RelO K g z' o p := by
  cases o with
  | lst xs => obtain ⟨_, vs, h1, h2⟩ := r; exact ⟨hF, vs, hH.trans h1, h2.monoW e⟩
  | dk xs => obtain ⟨_, vs, h1, h2⟩ := r; exact ⟨hF, vs, hH.trans h1, h2.monoW e⟩
  | dt xs => obtain ⟨_, vs, h1, h2⟩ := r; exact ⟨hF, vs, hH.trans h1, h2.monoW e⟩
  | ins c fs => obtain ⟨_, dx, vs, h1, h3, h2⟩ := r; exact ⟨hF, dx, vs, hH.trans h1, h3, h2.monoW e⟩
  | dead => trivial
theorem ExtW.junkW {p : Addr} {o : HO} (nf : ¬ z.F p) : ExtW z (z.upd p o) := ⟨⟨[], by simp⟩, fun _ h => h, fun q u f r => r.upd fun e => nf (e ▸ f)⟩
theorem Cn.junkW {p : Addr} {o : HO} (c : Cn K g z h) (nr : p ∉ z.rho) (nf : ¬ z.F p) : Cn K g (z.upd p o) h := by
  refine ⟨c.len, c.nd, fun q hq => ?_, fun q hq => ?_, fun i ob q h1 h2 => ?_⟩
  · obtain ⟨u, e⟩ := c.rt q hq
    exact ⟨u, (upd_ne (fun x : q = p => nr (x ▸ hq))).trans e⟩
  · obtain ⟨u, e⟩ := c.ft q hq
    exact ⟨u, (upd_ne (fun x : q = p => nf (x ▸ hq))).trans e⟩
  · by_cases hd : ob = .dead
    · subst hd; trivial
    · exact (c.ob i ob q h1 h2).monoW (ExtW.junkW nf) ((c.ob i ob q h1 h2).nf hd) (upd_ne fun x => nr (x ▸ List.mem_of_getElem? h2))
theorem Ext.over {p : Addr} {o : HO} (e : Ext z z') (hn : z.H p = none) : Ext z (z'.upd p o) :=
  ⟨e.pre, e.fz, fun q u k r => (e.rx q u k r).upd (fun x => by subst x; obtain ⟨_, y⟩ := r.some; rw [hn] at y; cases y), fun q h => e.st q (upd_none h), e.fn, fun q u h n f => (upd_ne (fun x => by subst x; rw [hn] at h; cases h)).trans (e.al q u h n f)⟩
/-- a thing that is none of ours stands -/
theorem Ext.alien {p : Addr} {u : HO} (ez : Ext z z') (hv : z.H p = some u) (nr : p ∉ z.rho) (nf : ¬ z.F p) : z'.H p = some u ∧ p ∉ z'.rho ∧ ¬ z'.F p := by
  refine ⟨?_, ?_, fun hf => ?_⟩
  · exact ez.al p u hv nr nf
  · obtain ⟨t, et, ft⟩ := ez.pre
    rw [et, List.mem_append]
    rintro (q | q)
    · exact nr q
    · rw [ft p q] at hv; cases hv
  · rcases ez.fn p hf with q | q | q
    · exact nf q
    · rw [q] at hv; cases hv
    · exact nr q
end
/-- [elt for tg in iter if ..] -/
theorem lc_lift {fi : Sl → Hh → Out (List A × Option Nat)} {is : List Nat} {ft : A → Sl → Option Sl} {ff : Sl → Hh → Out Bool} {fe : Sl → Hh → Out A} {own : List Nat} {W : WX} {σ : St} {H : Hp} {Q : VK} {F : List A → Hh → Out A} (hsub : ∀ i ∈ is, i ∈ own)
    (hF : ∀ ys h z0 z p vs, Ext z0 z → z0.H p = none → Cn X.K g z h → z.H p = some (.lst vs) → p ∉ z.rho → ¬ z.F p → RelAs X.K g z ys vs → (F ys h).wp (okK X.K g z0 Q) (exK X.K g z0 σ W) → Q (.ref p) z.H)
    (hl : ∀ ys h a h', F ys h = .ok a h' → ys.length ≤ sizeLine) (hx : ∀ ys h e h', F ys h ≠ .ex e h')
    (hw : liftE X.K g W (fun s h => (fi s h).bind fun p h1 => (loopC (turnC ft ff fe (wipeS s own)) p.2 h1 p.1 h1).bind fun ys h2 => F ys h2) σ H Q) :
    tLc (liftI X.K g W fi) (liftG X.K g is ft) (liftT X.K g (fun _ _ _ _ => False) ff) (liftE X.K g (fun _ _ _ _ => False) fe) own σ H Q := by
  obtain ⟨s, h, z, hz, c, rs, w⟩ := hw
  refine ⟨s, h, z, hz, c, rs, Out.wp_mono (Out.wp_bind w) (fun p h1 w1 J z1 e1 c1 ij => ?_) fun _ _ q => q⟩
  obtain ⟨xs, m⟩ := p
  obtain ⟨G, Y, wk, hG, hY⟩ := ij
  intro Dd hD
  have w1' := Out.wp_mono w1 (fun _ _ q => okK.ext e1 q) fun _ _ q => exK.ext e1 q
  dsimp only at w1'
  -- behind i turns: acc is in the new list, the rest is still to come
  let P : Nat → Hp → Prop := fun i H' => ∃ h' z' acc vs, z'.H = H' ∧ Ext z1 z' ∧ Cn X.K g z' h' ∧ keepO m h1 h' ∧ z'.H Dd = some (.lst vs) ∧ Dd ∉ z'.rho ∧ ¬ z'.F Dd ∧ RelAs X.K g z' acc vs ∧
    ((loopC (turnC ft ff fe (wipeS s own)) m h1 (xs.drop i) h').bind fun ys h2 => F (acc ++ ys) h2).wp (okK X.K g z1 Q) (exK X.K g z1 σ W)
  have nD : Dd ∉ z1.rho := fun hm => by obtain ⟨o, e⟩ := c1.rt Dd hm; rw [hD] at e; cases e
  refine lc_it (g := liftG X.K g is ft) (tt := liftT X.K g (fun _ _ _ _ => False) ff) (te := liftE X.K g (fun _ _ _ _ => False) fe) wk P ?_ ?_ ?_ ?_
  · refine ⟨h1, z1.upd Dd (.lst []), [], [], rfl, Ext.junk hD, c1.junk hD, keepO_refl m h1, upd_same, nD, c1.nF hD, .nil, ?_⟩
    rw [List.drop_zero]
    exact w1'
  · rintro i H' hi ⟨h', z', acc, vs, rfl, e', c', k', _⟩
    exact hG z' h' e' c' k'
  · rintro i x H' H2 hlt ⟨h', z', acc, vs, rfl, e', c', k', hv, nr, nf, ra, w'⟩ y
    obtain ⟨z3, a, rfl, e3, c3, ea, rx⟩ := hY i z' h' x H2 hlt e' c' k' y
    have hd : xs.drop i = a :: xs.drop (i + 1) := by
      rw [List.drop_eq_getElem_cons hlt]
      congr 1
      rw [List.getElem?_eq_getElem hlt] at ea
      exact Option.some.inj ea
    rw [hd, loopC] at w'
    generalize eT : loopC (turnC ft ff fe (wipeS s own)) m h1 (xs.drop (i + 1)) = T at w'
    have rw0 : RelSl X.K g z3 (wipeS s own) (L2.wipe σ own) := ((rs.mono e1).mono (e'.trans e3)).wipe own
    have keepD : ∀ {za zb : Zn}, Ext za zb → za.H Dd = some (.lst vs) → Dd ∉ za.rho → ¬ za.F Dd → zb.H Dd = some (.lst vs) ∧ Dd ∉ zb.rho ∧ ¬ zb.F Dd := fun ez hv nr nf => ez.alien hv nr nf
    unfold turnC at w'
    cases eft : ft a (wipeS s own) with
    | none => rw [eft] at w'; exact w'.elim
    | some s2 =>
    rw [eft] at w'
    dsimp only at w'
    refine ⟨a, _, s2, z3, rfl, rx, rw0, eft, fun σ1 rs1 tc => ?_⟩
    refine ⟨wipe_eq_of tc hsub, s2, h', z3, rfl, c3, rs1, ?_⟩
    have k3 := keepD e3 hv nr nf
    cases eff : ff s2 h' with
    | no => rw [eff] at w'; exact w'.elim
    | ex e h4 => rw [eff] at w'; exact w'.elim
    | ok k h4 =>
    rw [eff, Out.bind_ok] at w'
    intro z4 e4 c4
    have k4 := keepD e4 k3.1 k3.2.1 k3.2.2
    cases k with
    | false =>
      rw [if_neg (by decide)] at w' ⊢
      dsimp only at w'
      split at w'
      · rename_i hk
        refine ⟨h4, z4, acc, vs, rfl, (e'.trans e3).trans e4, c4, hk, k4.1, k4.2.1, k4.2.2, ra.mono (e3.trans e4), ?_⟩
        rw [eT]
        exact bind_nil w'
      · exact w'.elim
    | true =>
      rw [if_pos rfl] at w' ⊢
      refine ⟨s2, h4, z4, rfl, c4, rs1.mono e4, ?_⟩
      cases efe : fe s2 h4 with
      | no => rw [efe] at w'; exact w'.elim
      | ex e h5 => rw [efe] at w'; exact w'.elim
      | ok y h5 =>
      rw [efe, Out.bind_ok] at w'
      intro v z5 e5 c5 r5
      have k5 := keepD e5 k4.1 k4.2.1 k4.2.2
      dsimp only at w'
      split at w'
      · rename_i hk
        have w2 := bind_one w'
        have ex5 : ExtW z5 (z5.upd Dd (.lst (vs ++ [v]))) := ExtW.junkW k5.2.2
        refine ⟨vs, k5.1, ?_, h5, z5.upd Dd (.lst (vs ++ [v])), acc ++ [y], vs ++ [v], rfl, (((e'.trans e3).trans e4).trans e5).over hD, c5.junkW k5.2.1 k5.2.2, hk, upd_same, k5.2.1, k5.2.2, ?_, ?_⟩
        · have : ∃ ys h a h', F (acc ++ [y] ++ ys) h = .ok a h' := by
            cases el : T h5 with
            | no => rw [el] at w2; exact w2.elim
            | ex e h6 => exact (loopC_ex ((congrFun eT h5).trans el)).elim
            | ok ys h6 =>
              rw [el, Out.bind_ok] at w2
              cases ef : F (acc ++ [y] ++ ys) h6 with
              | no => rw [ef] at w2; exact w2.elim
              | ex e h7 => exact (hx _ _ _ _ ef).elim
              | ok a h7 => exact ⟨_, _, _, _, ef⟩
          obtain ⟨ys, hh, a, h', e⟩ := this
          have := hl _ _ _ _ e
          have := ra.length
          simp at *
          omega
        · exact RelAs.append ((ra.mono ((e3.trans e4).trans e5)).monoW ex5) (.cons (r5.monoW ex5) .nil)
        · rw [eT]
          exact w2
      · exact w'.elim
  · rintro H' ⟨h', z', acc, vs, rfl, e', c', k', hv, nr, nf, ra, w'⟩
    rw [List.drop_length] at w'
    rw [loopC, Out.bind_ok, List.append_nil] at w'
    exact hF acc h' z1 z' Dd vs e' hD c' hv nr nf ra w'
end
end MP
end S_MPk
section S_MPl
/-! MPl: built-in functions. -/
namespace MP
open PySem L2

def optH (o : Option (A × Hh)) : Out A := match o with
  | some p => .ok p.1 p.2
  | none => .no
theorem optH_wp {o : Option (A × Hh)} {Q : A → Hh → Prop} {W : D → Hh → Prop} (w : (optH o).wp Q W) : ∃ r, o = some r ∧ Q r.1 r.2 := by
  cases o with
  | none => exact w.elim
  | some a => exact ⟨a, rfl, w⟩
abbrev BF := List A → Hh → Option (A × Hh)
def liftC (K : PySem.W.Frag) (g : Gm) (F : BF) : List V → Hp → VK → Prop := fun xs H Q => ∃ as h z r, z.H = H ∧ Cn K g z h ∧ RelAs K g z as xs ∧ F as h = some r ∧ okK K g z Q r.1 r.2

/-! ### data of one kind -/
def intsD : List D → Option (List Int)
  | [] => some []
  | .int i :: r => (intsD r).map (i :: ·)
  | _ => none
def blsD : List D → Option (List Bool)
  | [] => some []
  | .bl i :: r => (blsD r).map (i :: ·)
  | _ => none
def strsD : List D → Option (List Str)
  | [] => some []
  | .str i :: r => (strsD r).map (i :: ·)
  | _ => none
theorem intsD_eq : ∀ {xs : List D} {ns : List Int}, intsD xs = some ns → xs = ns.map .int
  | [], _, h => by cases h; rfl
  | x :: r, ns, h => by
    cases x <;> simp only [intsD] at h <;> try cases h
    cases e : intsD r with
    | none => rw [e] at h; cases h
    | some q => rw [e] at h; cases h; rw [intsD_eq e]; rfl
theorem blsD_eq : ∀ {xs : List D} {ns : List Bool}, blsD xs = some ns → xs = ns.map .bl
  | [], _, h => by cases h; rfl
  | x :: r, ns, h => by
    cases x <;> simp only [blsD] at h <;> try cases h
    cases e : blsD r with
    | none => rw [e] at h; cases h
    | some q => rw [e] at h; cases h; rw [blsD_eq e]; rfl
theorem strsD_eq : ∀ {xs : List D} {ns : List Str}, strsD xs = some ns → xs = ns.map .str
  | [], _, h => by cases h; rfl
  | x :: r, ns, h => by
    cases x <;> simp only [strsD] at h <;> try cases h
    cases e : strsD r with
    | none => rw [e] at h; cases h
    | some q => rw [e] at h; cases h; rw [strsD_eq e]; rfl
theorem intsD_map : ∀ ns : List Int, intsD (ns.map .int) = some ns
  | [] => rfl
  | n :: r => by simp [intsD, intsD_map r]
theorem blsD_map : ∀ ns : List Bool, blsD (ns.map .bl) = some ns
  | [] => rfl
  | n :: r => by simp [blsD, blsD_map r]
theorem strsD_map : ∀ ns : List Str, strsD (ns.map .str) = some ns
  | [] => rfl
  | n :: r => by simp [strsD, strsD_map r]

section
variable {g : Gm} {X : Cx} {pos : Pos} {K : PySem.W.Frag} {z : Zn}
theorem RelL.ints : ∀ {ns : List Int} {vs : List V}, RelL K g z (ns.map .int) vs → vs = ns.map V.int
  | [], _, .nil => rfl
  | _ :: _, _, .cons a b => by cases a; rw [RelL.ints b]; rfl
theorem RelL.bls : ∀ {ns : List Bool} {vs : List V}, RelL K g z (ns.map .bl) vs → vs = ns.map V.bl
  | [], _, .nil => rfl
  | _ :: _, _, .cons a b => by cases a; rw [RelL.bls b]; rfl
theorem RelL.strs : ∀ {ns : List Str} {vs : List V}, RelL K g z (ns.map .str) vs → vs = ns.map V.str
  | [], _, .nil => rfl
  | _ :: _, _, .cons a b => by cases a; rw [RelL.strs b]; rfl
theorem RelL.ofInts : ∀ ns : List Int, RelL K g z (ns.map .int) (ns.map V.int)
  | [] => .nil
  | n :: r => .cons (.int n) (RelL.ofInts r)
theorem RelL.ofStrs : ∀ ns : List Str, RelL K g z (ns.map .str) (ns.map V.str)
  | [] => .nil
  | n :: r => .cons (.str n) (RelL.ofStrs r)
theorem RelAs.one {a : A} {vs : List V} (r : RelAs K g z [a] vs) : ∃ v, vs = [v] ∧ RelA K g z a v := by
  cases r with
  | cons x y => cases y; exact ⟨_, rfl, x⟩
theorem RelAs.two {a b : A} {vs : List V} (r : RelAs K g z [a, b] vs) : ∃ v u, vs = [v, u] ∧ RelA K g z a v ∧ RelA K g z b u := by
  cases r with
  | cons x y => cases y with
    | cons x' y => cases y; exact ⟨_, _, rfl, x, x'⟩

/-! ### the call -/
theorem ae_callB {id : String} {x : Str} {p : Pos} {e : Expr} {es : List Expr} {F : BF} {fs : Sl → Hh → Out (List A)} (hc : CallR X (.builtin id) (liftC X.K g F)) (hg : Gl X x) (hm : X.mg x = none) (hv : bootBuiltins x = some (.builtin id)) (hn : x ≠ "__name__") (hdb : (x == ("__debug__" : Str)) = false)
    (ha : AA g X (e :: es) fs) (he : starEach (e :: es) X.env = (false, eval e X.env) :: starEach es X.env) (hpl : (backTo pos (starEach es X.env)).any (·.1) = false) :
    AE g X (.Call (.Name x p) (e :: es) [] pos) (fun s h => (fs s h).bind fun as h1 => optH (F as h1)) := by
  intro W tk
  refine (pe_callB hc hg hm hv (ha W tk) hn hdb he hpl).impM fun σ H Q ⟨s, h, z, hz, c, rs, w⟩ => ?_
  refine ⟨s, h, z, hz, c, rs, Out.wp_mono (Out.wp_bind w) (fun as h1 w1 vs z1 e1 c1 r1 => ?_) fun _ _ q => q⟩
  obtain ⟨r, er, q⟩ := optH_wp w1
  exact ⟨as, h1, z1, r, rfl, c1, r1, er, q.ext e1⟩
theorem ae_callTy {T : String} {x : Str} {p : Pos} {e : Expr} {es : List Expr} {F : BF} {fs : Sl → Hh → Out (List A)} (hc : CallR X (.type T) (liftC X.K g F)) (hg : Gl X x) (hm : X.mg x = none) (hv : bootBuiltins x = some (.type T)) (hn : x ≠ "__name__") (hdb : (x == ("__debug__" : Str)) = false)
    (ha : AA g X (e :: es) fs) (he : starEach (e :: es) X.env = (false, eval e X.env) :: starEach es X.env) (hpl : (backTo pos (starEach es X.env)).any (·.1) = false) :
    AE g X (.Call (.Name x p) (e :: es) [] pos) (fun s h => (fs s h).bind fun as h1 => optH (F as h1)) := by
  intro W tk
  refine (pe_callTy hc hg hm hv (ha W tk) hn hdb he hpl).impM fun σ H Q ⟨s, h, z, hz, c, rs, w⟩ => ?_
  refine ⟨s, h, z, hz, c, rs, Out.wp_mono (Out.wp_bind w) (fun as h1 w1 vs z1 e1 c1 r1 => ?_) fun _ _ q => q⟩
  obtain ⟨r, er, q⟩ := optH_wp w1
  exact ⟨as, h1, z1, r, rfl, c1, r1, er, q.ext e1⟩

/-! ### len -/
def lenA : BF := fun as h => match as with
  | [.d (.str x)] => if x.length ≤ sizeLine then some (.d (.int x.length), h) else none
  | [.d (.scr ns)] => some (.d (.int ns.length), h)
  | [.ref i] => match h[i]? with
    | some (.lst xs) => some (.d (.int xs.length), h)
    | some (.dk kvs) => some (.d (.int kvs.length), h)
    | _ => none
  | [a] => match asSeq a h with
    | some xs => some (.d (.int xs.length), h)
    | none => none
  | _ => none
theorem lenD_rx {X : Cx} : CallR X (.builtin "len") (fun xs H Q => ∃ a kvs, xs = [V.ref a] ∧ H a = some (.dK kvs) ∧ Q (.int kvs.length) H) := call_lenD
theorem RelD.scr_inv {ns : List Int} {v : V} (r : RelD K g z (.scr ns) v) : ∃ p, v = .ref p ∧ SqL K z.H p (ns.map V.int) := by
  cases r with
  | scr f e => exact ⟨_, rfl, .inl (.inr ⟨_, e⟩)⟩
  | scrK k => exact ⟨_, rfl, .inr k⟩
theorem cr_len : CallR X (.builtin "len") (liftC X.K g lenA) := by
  intro pins s σ H xs us Q I rv ⟨as, h, z, r, hz, c, ra, e, q⟩
  subst hz
  unfold lenA at e
  split at e
  · split at e
    · rename_i hl
      cases e
      obtain ⟨v, rfl, r1⟩ := ra.one
      cases r1
      exact call_len pins s σ z.H _ us Q I rv ⟨_, _, rfl, ⟨hl, rfl⟩, q.same c (.int _)⟩
    · cases e
  · cases e
    obtain ⟨v, rfl, r1⟩ := ra.one
    obtain ⟨p, rfl, sq⟩ := RelD.scr_inv r1
    exact call_len pins s σ z.H _ us Q I rv ⟨_, _, rfl, .inl ⟨_, sq, rfl⟩, q.same c (by rw [List.length_map]; exact .int _)⟩
  · split at e
    · rename_i i _ xs hi
      cases e
      obtain ⟨v, rfl, r1⟩ := ra.one
      obtain ⟨p, hp, rfl⟩ := r1
      obtain ⟨_, vs, h1, h2⟩ := c.ob i _ p hi hp
      exact call_len pins s σ z.H _ us Q I rv ⟨_, _, rfl, .inl ⟨_, .of h1, rfl⟩, q.same c (by rw [h2.length]; exact .int _)⟩
    · rename_i i _ kvs hi
      cases e
      obtain ⟨v, rfl, r1⟩ := ra.one
      obtain ⟨p, hp, rfl⟩ := r1
      obtain ⟨_, vs, h1, h2⟩ := c.ob i _ p hi hp
      exact call_lenD pins s σ z.H _ us Q I rv ⟨_, _, rfl, h1, q.same c (by have := h2.length; simp at this; rw [List.length_zip, List.length_map, ← this, Nat.min_self]; exact .int _)⟩
    · cases e
  · split at e
    · rename_i xs hs
      cases e
      obtain ⟨v, rfl, r1⟩ := ra.one
      obtain ⟨p, vs, rfl, sq, l⟩ := asSeq_inv c hs r1
      exact call_len pins s σ z.H _ us Q I rv ⟨_, _, rfl, sq.elim (fun t => .inr ⟨_, t, rfl⟩) fun t => .inl ⟨_, t, rfl⟩, q.same c (by rw [l.length]; exact .int _)⟩
    · cases e
  · cases e

/-! ### numbers -/
def absA : BF := fun as h => match as with
  | [.d (.int i)] => some (.d (.int (if i < 0 then -i else i)), h)
  | _ => none
theorem cr_abs : CallR X (.builtin "abs") (liftC X.K g absA) := by
  intro pins s σ H xs us Q I rv ⟨as, h, z, r, hz, c, ra, e, q⟩
  subst hz
  unfold absA at e
  split at e
  · cases e
    obtain ⟨v, rfl, r1⟩ := ra.one
    cases r1
    exact call_abs pins s σ z.H _ us Q I rv ⟨_, rfl, q.same c (.int _)⟩
  · cases e
def min2A : BF := fun as h => match as with
  | [.d (.int i), .d (.int j)] => some (.d (.int (if j < i then j else i)), h)
  | _ => none
def max2A : BF := fun as h => match as with
  | [.d (.int i), .d (.int j)] => some (.d (.int (if j > i then j else i)), h)
  | _ => none
/-- the least, the first of these -/
def leastI : List Int → Option Int
  | [] => none
  | x :: r => match leastI r with
    | none => some x
    | some y => some (if y < x then y else x)
def greatestI : List Int → Option Int
  | [] => none
  | x :: r => match greatestI r with
    | none => some x
    | some y => some (if x < y then y else x)
theorem leastI_spec : ∀ {ns : List Int} {m : Int}, leastI ns = some m → m ∈ ns ∧ ∀ y ∈ ns, m ≤ y
  | [], _, h => by cases h
  | x :: r, m, h => by
    unfold leastI at h
    cases e : leastI r with
    | none =>
      rw [e] at h
      cases h
      cases r with
      | nil => simp
      | cons y r => unfold leastI at e; split at e <;> cases e
    | some y =>
      rw [e] at h
      have ⟨h1, h2⟩ := leastI_spec e
      cases h
      split
      · rename_i hlt
        refine ⟨List.mem_cons_of_mem _ h1, fun w hw => ?_⟩
        rcases List.mem_cons.mp hw with rfl | hw
        · omega
        · exact h2 w hw
      · rename_i hlt
        refine ⟨List.mem_cons_self .., fun w hw => ?_⟩
        rcases List.mem_cons.mp hw with rfl | hw
        · omega
        · have := h2 w hw; omega
theorem greatestI_spec : ∀ {ns : List Int} {m : Int}, greatestI ns = some m → m ∈ ns ∧ ∀ y ∈ ns, y ≤ m
  | [], _, h => by cases h
  | x :: r, m, h => by
    unfold greatestI at h
    cases e : greatestI r with
    | none =>
      rw [e] at h
      cases h
      cases r with
      | nil => simp
      | cons y r => unfold greatestI at e; split at e <;> cases e
    | some y =>
      rw [e] at h
      have ⟨h1, h2⟩ := greatestI_spec e
      cases h
      split
      · rename_i hlt
        refine ⟨List.mem_cons_of_mem _ h1, fun w hw => ?_⟩
        rcases List.mem_cons.mp hw with rfl | hw
        · omega
        · exact h2 w hw
      · rename_i hlt
        refine ⟨List.mem_cons_self .., fun w hw => ?_⟩
        rcases List.mem_cons.mp hw with rfl | hw
        · omega
        · have := h2 w hw; omega
def intsA (a : A) (h : Hh) : Option (List Int) := match asLst a h with
  | some xs => (allD xs).bind intsD
  | none => none
def blsA (a : A) (h : Hh) : Option (List Bool) := match asLst a h with
  | some xs => (allD xs).bind blsD
  | none => none
def strsA (a : A) (h : Hh) : Option (List Str) := match asSeq a h with
  | some xs => (allD xs).bind strsD
  | none => none
theorem intsA_inv {h : Hh} {a : A} {ns : List Int} {v : V} (c : Cn K g z h) (e : intsA a h = some ns) (r : RelA K g z a v) : ∃ p, v = .ref p ∧ SqL K z.H p (ns.map V.int) := by
  unfold intsA at e
  split at e
  · rename_i xs hx
    cases ed : allD xs with
    | none => rw [ed] at e; cases e
    | some ds =>
      rw [ed] at e
      obtain ⟨p, vs, rfl, h1, l⟩ := asLst_inv c hx r
      rw [allD_eq ed, intsD_eq e] at l
      have l2 := RelL.ofAs l
      rw [l2.ints] at h1
      exact ⟨p, rfl, .of h1⟩
  · cases e
theorem blsA_inv {h : Hh} {a : A} {ns : List Bool} {v : V} (c : Cn K g z h) (e : blsA a h = some ns) (r : RelA K g z a v) : ∃ p, v = .ref p ∧ SqL K z.H p (ns.map V.bl) := by
  unfold blsA at e
  split at e
  · rename_i xs hx
    cases ed : allD xs with
    | none => rw [ed] at e; cases e
    | some ds =>
      rw [ed] at e
      obtain ⟨p, vs, rfl, h1, l⟩ := asLst_inv c hx r
      rw [allD_eq ed, blsD_eq e] at l
      have l2 := RelL.ofAs l
      rw [l2.bls] at h1
      exact ⟨p, rfl, .of h1⟩
  · cases e
theorem strsA_inv {h : Hh} {a : A} {ns : List Str} {v : V} (c : Cn K g z h) (e : strsA a h = some ns) (r : RelA K g z a v) : ∃ p, v = .ref p ∧ (SqL K z.H p (ns.map V.str) ∨ SqT K z.H p (ns.map V.str)) := by
  unfold strsA at e
  split at e
  · rename_i xs hx
    cases ed : allD xs with
    | none => rw [ed] at e; cases e
    | some ds =>
      rw [ed] at e
      obtain ⟨p, vs, rfl, h1, l⟩ := asSeq_inv c hx r
      rw [allD_eq ed, strsD_eq e] at l
      have l2 := RelL.ofAs l
      rw [l2.strs] at h1
      exact ⟨p, rfl, h1.symm⟩
  · cases e
def minA : BF := fun as h => match as with
  | [a] => match intsA a h with
    | some ns => (leastI ns).map fun m => (.d (.int m), h)
    | none => none
  | as => min2A as h
def maxA : BF := fun as h => match as with
  | [a] => match intsA a h with
    | some ns => (greatestI ns).map fun m => (.d (.int m), h)
    | none => none
  | as => max2A as h
def sumA : BF := fun as h => match as with
  | [a] => match intsA a h with
    | some ns => some (.d (.int ns.sum), h)
    | none => none
  | _ => none
theorem cr_minA (hc : X.calm = true) : CallR X (.builtin "min") (liftC X.K g minA) := by
  intro pins s σ H xs us Q I rv ⟨as, h, z, r, hz, c, ra, e, q⟩
  subst hz
  unfold minA at e
  split at e
  · split at e
    · rename_i ns hn
      cases em : leastI ns with
      | none => rw [em] at e; cases e
      | some m =>
      rw [em] at e
      cases e
      obtain ⟨v, rfl, r1⟩ := ra.one
      obtain ⟨p, rfl, sq⟩ := intsA_inv c hn r1
      obtain ⟨m1, m2⟩ := leastI_spec em
      refine cr_min hc pins s σ z.H _ us Q I rv ⟨p, ns, rfl, sq, List.length_pos_of_mem m1, fun m' h1 h2 => ?_⟩
      have : m' = m := by have := h2 m m1; have := m2 m' h1; omega
      subst this
      exact q.same c (.int _)
    · cases e
  · unfold min2A at e
    split at e
    · cases e
      obtain ⟨v, u, rfl, r1, r2⟩ := ra.two
      cases r1; cases r2
      exact call_min2 hc pins s σ z.H _ us Q I rv ⟨_, _, rfl, q.same c (.int _)⟩
    · cases e
theorem cr_maxA (hc : X.calm = true) : CallR X (.builtin "max") (liftC X.K g maxA) := by
  intro pins s σ H xs us Q I rv ⟨as, h, z, r, hz, c, ra, e, q⟩
  subst hz
  unfold maxA at e
  split at e
  · split at e
    · rename_i ns hn
      cases em : greatestI ns with
      | none => rw [em] at e; cases e
      | some m =>
      rw [em] at e
      cases e
      obtain ⟨v, rfl, r1⟩ := ra.one
      obtain ⟨p, rfl, sq⟩ := intsA_inv c hn r1
      obtain ⟨m1, m2⟩ := greatestI_spec em
      refine cr_max hc pins s σ z.H _ us Q I rv ⟨p, ns, rfl, sq, List.length_pos_of_mem m1, fun m' h1 h2 => ?_⟩
      have : m' = m := by have := h2 m m1; have := m2 m' h1; omega
      subst this
      exact q.same c (.int _)
    · cases e
  · unfold max2A at e
    split at e
    · cases e
      obtain ⟨v, u, rfl, r1, r2⟩ := ra.two
      cases r1; cases r2
      exact call_max2 hc pins s σ z.H _ us Q I rv ⟨_, _, rfl, q.same c (.int _)⟩
    · cases e
theorem cr_sumA (hc : X.calm = true) : CallR X (.builtin "sum") (liftC X.K g sumA) := by
  intro pins s σ H xs us Q I rv ⟨as, h, z, r, hz, c, ra, e, q⟩
  subst hz
  unfold sumA at e
  split at e
  · split at e
    · rename_i ns hn
      cases e
      obtain ⟨v, rfl, r1⟩ := ra.one
      obtain ⟨p, rfl, sq⟩ := intsA_inv c hn r1
      exact cr_sum hc pins s σ z.H _ us Q I rv ⟨p, ns, rfl, sq, q.same c (.int _)⟩
    · cases e
  · cases e
def allA : BF := fun as h => match as with
  | [a] => match blsA a h with
    | some ns => some (.d (.bl (ns.all id)), h)
    | none => none
  | _ => none
def anyA : BF := fun as h => match as with
  | [a] => match blsA a h with
    | some ns => some (.d (.bl (ns.any id)), h)
    | none => none
  | _ => none
theorem cr_allA (hc : X.calm = true) : CallR X (.builtin "all") (liftC X.K g allA) := by
  intro pins s σ H xs us Q I rv ⟨as, h, z, r, hz, c, ra, e, q⟩
  subst hz
  unfold allA at e
  split at e
  · split at e
    · rename_i ns hn
      cases e
      obtain ⟨v, rfl, r1⟩ := ra.one
      obtain ⟨p, rfl, sq⟩ := blsA_inv c hn r1
      exact cr_all hc pins s σ z.H _ us Q I rv ⟨p, ns, rfl, sq, q.same c (.bl _)⟩
    · cases e
  · cases e
theorem cr_anyA (hc : X.calm = true) : CallR X (.builtin "any") (liftC X.K g anyA) := by
  intro pins s σ H xs us Q I rv ⟨as, h, z, r, hz, c, ra, e, q⟩
  subst hz
  unfold anyA at e
  split at e
  · split at e
    · rename_i ns hn
      cases e
      obtain ⟨v, rfl, r1⟩ := ra.one
      obtain ⟨p, rfl, sq⟩ := blsA_inv c hn r1
      exact cr_any hc pins s σ z.H _ us Q I rv ⟨p, ns, rfl, sq, q.same c (.bl _)⟩
    · cases e
  · cases e
def divmodA : BF := fun as h => match as with
  | [.d (.int i), .d (.int j)] => if 0 < j ∧ j < 1073741824 then some (.d (.tup [.int (i / j), .int (i % j)]), h) else none
  | _ => none
theorem cr_divmodA : CallR X (.builtin "divmod") (liftC X.K g divmodA) := by
  intro pins s σ H xs us Q I rv ⟨as, h, z, r, hz, c, ra, e, q⟩
  subst hz
  unfold divmodA at e
  split at e
  · split at e
    · rename_i hj
      cases e
      obtain ⟨v, u, rfl, r1, r2⟩ := ra.two
      cases r1; cases r2
      refine call_divmod pins s σ z.H _ us Q I rv ⟨_, _, rfl, hj, fun p hp => ?_⟩
      exact okK.frozen q c hp fun z' ez f e => .tup f e (.cons (.int _) (.cons (.int _) .nil)) rfl
    · cases e
  · cases e

/-! ### types -/
def intTA : BF := fun as h => match as with
  | [.d (.int i)] => some (.d (.int i), h)
  | [.d (.bl b)] => some (.d (.int (if b then 1 else 0)), h)
  | [.d (.str x)] => if x.length ≤ 640 then (PySem.intText? x).map fun n => (.d (.int n), h) else none
  | _ => none
theorem cr_intA : CallR X (.type "int") (liftC X.K g intTA) := by
  intro pins s σ H xs us Q I rv ⟨as, h, z, r, hz, c, ra, e, q⟩
  subst hz
  unfold intTA at e
  split at e
  · cases e
    obtain ⟨v, rfl, r1⟩ := ra.one
    cases r1
    exact call_int1 pins s σ z.H _ us Q I rv (.inl ⟨_, rfl, q.same c (.int _)⟩)
  · cases e
    obtain ⟨v, rfl, r1⟩ := ra.one
    cases r1
    exact call_int1 pins s σ z.H _ us Q I rv (.inr ⟨_, rfl, q.same c (.int _)⟩)
  · split at e
    · rename_i x hl
      cases ex : PySem.intText? x with
      | none => rw [ex] at e; cases e
      | some n =>
        rw [ex] at e
        cases e
        obtain ⟨v, rfl, r1⟩ := ra.one
        cases r1
        exact call_int_str pins s σ z.H _ us Q I rv ⟨_, _, rfl, ex, hl, q.same c (.int _)⟩
    · cases e
  · cases e
end
end MP
end S_MPl
section S_MPm
/-! MPm: list, tuple, sorted, str, bool, isinstance; methods of lists and texts. -/
namespace MP
open PySem L2
section
variable {g : Gm} {X : Cx} {pos : Pos} {K : PySem.W.Frag} {z : Zn}

/-- a new list: frozen or to be changed -/
def newL (mu : Bool) (xs : List A) (h : Hh) : Option (A × Hh) :=
  if xs.length ≤ sizeLine then (if mu then some (.ref h.length, h ++ [.lst xs]) else (allD xs).map fun ds => (.d (.lst ds), h)) else none
theorem newL_len {mu : Bool} {xs : List A} {h : Hh} {r : A × Hh} (e : newL mu xs h = some r) : xs.length ≤ sizeLine := by
  unfold newL at e
  split at e
  · assumption
  · cases e
theorem okK.list {mu : Bool} {xs : List A} {h : Hh} {r : A × Hh} {Q : VK} {vs : List V} {p : Addr} (e : newL mu xs h = some r) (q : okK K g z Q r.1 r.2) (c : Cn K g z h) (l : RelAs K g z xs vs) (hp : z.H p = none) : Q (.ref p) (upd z.H p (.lst vs)) := by
  unfold newL at e
  split at e
  · split at e
    · cases e
      exact okK.made q c hp ⟨c.nF hp, vs, upd_same, l.mono (Ext.alloc hp)⟩
    · cases ed : allD xs with
      | none => rw [ed] at e; cases e
      | some ds =>
        rw [ed] at e
        cases e
        rw [allD_eq ed] at l
        exact okK.frozen q c hp fun z' ez f e => .lst f e ((RelL.ofAs l).mono ez)
  · cases e
/-- the same for a list that is there and is none of ours -/
theorem okK.adopt {z0 : Zn} {mu : Bool} {xs : List A} {h : Hh} {r : A × Hh} {Q : VK} {vs : List V} {p : Addr} (e0 : Ext z0 z) (hn : z0.H p = none) (e : newL mu xs h = some r) (q : okK K g z0 Q r.1 r.2) (c : Cn K g z h) (l : RelAs K g z xs vs) (hp : z.H p = some (.lst vs)) (nr : p ∉ z.rho) (nf : ¬ z.F p) : Q (.ref p) z.H := by
  suffices hs : ∃ z' : Zn, z'.H = z.H ∧ Ext z0 z' ∧ Cn K g z' r.2 ∧ RelA K g z' r.1 (.ref p) by
    obtain ⟨z', h1, h2, h3, h4⟩ := hs
    rw [← h1]
    exact q _ z' h2 h3 h4
  unfold newL at e
  split at e
  · split at e
    · cases e
      refine ⟨{ z with rho := z.rho ++ [p] }, rfl, ⟨?_, e0.fz, e0.rx, e0.st, e0.fn, e0.al⟩, ⟨by simp [c.len], ?_, fun q hq => ?_, c.ft, fun i o' q h1 h2 => ?_⟩, p, ?_, rfl⟩
      · obtain ⟨t, et, ft⟩ := e0.pre
        refine ⟨t ++ [p], by show z.rho ++ [p] = _; rw [et, List.append_assoc], fun q hq => ?_⟩
        rcases List.mem_append.mp hq with hq | hq
        · exact ft q hq
        · rw [List.mem_singleton.mp hq]; exact hn
      · refine List.nodup_append.mpr ⟨c.nd, by simp, fun a ha b hb => ?_⟩
        rw [List.mem_singleton.mp hb]
        exact fun e => nr (e ▸ ha)
      · rcases List.mem_append.mp hq with hq | hq
        · exact c.rt q hq
        · rw [List.mem_singleton.mp hq]; exact ⟨_, hp⟩
      · have ew : ExtW z { z with rho := z.rho ++ [p] } := ⟨⟨[p], rfl⟩, fun _ h => h, fun _ _ _ h => h⟩
        by_cases hi : i < h.length
        · rw [List.getElem?_append_left hi] at h1
          have h2' : z.rho[i]? = some q := by rw [← h2]; exact (List.getElem?_append_left (by rw [c.len]; exact hi)).symm
          by_cases hd : o' = .dead
          · subst hd; trivial
          · exact (c.ob i o' q h1 h2').monoW ew ((c.ob i o' q h1 h2').nf hd) rfl
        · have hi' : i = h.length := by
            have := (List.getElem?_eq_some_iff.mp h1).1
            simp at this; omega
          subst hi'
          rw [List.getElem?_append_right (Nat.le_refl _)] at h1
          have h2 : (z.rho ++ [p])[h.length]? = some q := h2
          rw [List.getElem?_append_right (by rw [c.len]; exact Nat.le_refl _)] at h2
          simp at h1
          simp [c.len] at h2
          subst h1; subst h2
          exact ⟨nf, vs, hp, RelAs.monoW ew l⟩
      · show (z.rho ++ [p])[h.length]? = some p
        rw [List.getElem?_append_right (by rw [c.len]; exact Nat.le_refl _), c.len]; simp
    · cases ed : allD xs with
      | none => rw [ed] at e; cases e
      | some ds =>
        rw [ed] at e
        cases e
        rw [allD_eq ed] at l
        have ew : ExtW z { z with F := fun q => z.F q ∨ q = p } := ⟨⟨[], by simp⟩, fun _ h => .inl h, fun _ _ _ h => h⟩
        refine ⟨{ z with F := fun q => z.F q ∨ q = p }, rfl, ⟨e0.pre, fun q hq => .inl (e0.fz q hq), e0.rx, e0.st, fun q hq => hq.elim (e0.fn q) fun x => .inr (.inl (x ▸ hn)), e0.al⟩, ⟨c.len, c.nd, c.rt, fun q hq => ?_, fun i o' q h1 h2 => ?_⟩, RelD.lst (.inr rfl) hp ((RelL.ofAs l).monoW ew)⟩
        · rcases hq with hq | rfl
          · exact c.ft q hq
          · exact ⟨_, hp⟩
        · by_cases hd : o' = .dead
          · subst hd; trivial
          · refine (c.ob i o' q h1 h2).monoW ew ?_ rfl
            rintro (x | x)
            · exact (c.ob i o' q h1 h2).nf hd x
            · exact nr (x ▸ List.mem_of_getElem? h2)
  · cases e

/-! ### comprehensions -/
theorem takesF {X : Cx} : Takes X (fun _ _ _ _ => False) := fun u s' ⟨_, _, _, _, _, _, _, _, _, _, _, _, _, _, _, _, w⟩ => w.elim
noncomputable def compF (mu : Bool) (fi : Sl → Hh → Out (List A × Option Nat)) (ft : A → Sl → Option Sl) (ff : Sl → Hh → Out Bool) (fe : Sl → Hh → Out A) (own : List Nat) : Sl → Hh → Out A := fun s h =>
  (fi s h).bind fun p h1 => (loopC (turnC ft ff fe (wipeS s own)) p.2 h1 p.1 h1).bind fun ys h2 => optH (newL mu ys h2)
theorem comp_lift {mu : Bool} {fi : Sl → Hh → Out (List A × Option Nat)} {is : List Nat} {ft : A → Sl → Option Sl} {ff : Sl → Hh → Out Bool} {fe : Sl → Hh → Out A} {own : List Nat} {W : WX} {σ : St} {H : Hp} {Q : VK} (hsub : ∀ i ∈ is, i ∈ own) (hw : liftE X.K g W (compF mu fi ft ff fe own) σ H Q) :
    tLc (liftI X.K g W fi) (liftG X.K g is ft) (liftT X.K g (fun _ _ _ _ => False) ff) (liftE X.K g (fun _ _ _ _ => False) fe) own σ H Q := by
  refine lc_lift hsub (F := fun ys h2 => optH (newL mu ys h2)) (fun ys h z0 z p vs e0 hn c hv nr nf ra w => ?_) (fun ys h a h' e => ?_) (fun ys h e h' x => ?_) hw
  · obtain ⟨r, er, q⟩ := optH_wp w
    exact okK.adopt e0 hn er q c ra hv nr nf
  · cases en : newL mu ys h with
    | none => rw [en] at e; cases e
    | some r => exact newL_len en
  · cases en : newL mu ys h with
    | none => rw [en] at x; cases x
    | some r => rw [en] at x; cases x
section
variable {mu : Bool} {elt tg iter : Expr} {ifs : List Expr} {scope : Scope} {own : List (Str × Nat)} {fi : Sl → Hh → Out (List A × Option Nat)} {is : List Nat} {ft : A → Sl → Option Sl} {ff : Sl → Hh → Out Bool} {fe : Sl → Hh → Out A}
theorem ae_comp (hc : X.calm = true) (hN : X.N.Nodup) (hi : AI g X tg iter fi) (ok : BlkOk X.N X.env.scope scope own) (hsub : ∀ i ∈ is, i ∈ own.map (·.2))
    (hg : ∀ (s : Shared) (H : Hp) (C : Addr) (cl : List (Str × Addr)) (fp : List Addr), AG g (X.blk s H scope (compEnvC scope cl C X.env) fp) tg is ft)
    (ht : ∀ (s : Shared) (H : Hp) (C : Addr) (cl : List (Str × Addr)) (fp : List Addr), PTs (X.blk s H scope (compEnvC scope cl C X.env) fp) ifs (liftT X.K g (fun _ _ _ _ => False) ff))
    (he : ∀ (s : Shared) (H : Hp) (C : Addr) (cl : List (Str × Addr)) (fp : List Addr), AE g (X.blk s H scope (compEnvC scope cl C X.env) fp) elt fe) (hs : ∀ x, foldedSetIterable iter X.env x = pure x) :
    AE g X (.ListComp elt [⟨tg, iter, ifs, 0⟩] scope pos) (compF mu fi ft ff fe (own.map (·.2))) := by
  intro W tk
  exact (pe_lc (g := liftG X.K g is ft) (tt := liftT X.K g (fun _ _ _ _ => False) ff) (te := liftE X.K g (fun _ _ _ _ => False) fe) hc hN (hi W tk) ok hg ht (fun s H C cl fp => he s H C cl fp _ takesF) hs).impM fun σ H Q hw => comp_lift hsub hw
theorem as_setLc {i : Nat} {y : Str} {py spos : Pos} (hc : X.calm = true) (hN : X.N.Nodup) (hy : X.N[i]? = some y) (hyl : X.env.scope.names.lookup y = some .local)
    (hsw : swapsWith (.ListComp elt [⟨tg, iter, ifs, 0⟩] scope pos) (some (.Name y py)) spos.line X.env = pure true) (hi : AI g X tg iter fi) (ok : BlkOk X.N X.env.scope scope own) (hsub : ∀ i ∈ is, i ∈ own.map (·.2))
    (hg : ∀ (s : Shared) (H : Hp) (C : Addr) (cl : List (Str × Addr)) (fp : List Addr), AG g (X.blk s H scope (compEnvC scope cl C X.env) fp) tg is ft)
    (ht : ∀ (s : Shared) (H : Hp) (C : Addr) (cl : List (Str × Addr)) (fp : List Addr), PTs (X.blk s H scope (compEnvC scope cl C X.env) fp) ifs (liftT X.K g (fun _ _ _ _ => False) ff))
    (he : ∀ (s : Shared) (H : Hp) (C : Addr) (cl : List (Str × Addr)) (fp : List Addr), AE g (X.blk s H scope (compEnvC scope cl C X.env) fp) elt fe) (hs : ∀ x, foldedSetIterable iter X.env x = pure x) :
    AS g X (.Assign [.Name y py] (.ListComp elt [⟨tg, iter, ifs, 0⟩] scope pos) spos) (fun s h => (compF mu fi ft ff fe (own.map (·.2)) s h).st s fun a h1 => .nx (s.set i (some a)) h1) := by
  intro W tk
  refine (ps_setLc (g := liftG X.K g is ft) (tt := liftT X.K g (fun _ _ _ _ => False) ff) (te := liftE X.K g (fun _ _ _ _ => False) fe) hc hN hy hyl hsw (hi W tk) ok hg ht (fun s H C cl fp => he s H C cl fp _ takesF) hs).impM fun D σ H ⟨s, h, z, hz, c, rs, w⟩ => ?_
  refine comp_lift (mu := mu) hsub ⟨s, h, z, hz, c, rs, Out.wp_mono (Out.wp_st w) (fun a h1 w1 v z1 e1 c1 r1 => ?_) fun _ _ q => q.at rs⟩
  exact w1 _ z1 e1 c1 ((rs.mono e1).set r1)
end

/-! ### list, tuple, sorted -/
def listA (mu : Bool) : BF := fun as h => match as with
  | [a] => match asSeq a h with
    | some xs => newL mu xs h
    | none => none
  | _ => none
theorem cr_listA {mu : Bool} : CallR X (.type "list") (liftC X.K g (listA mu)) := by
  intro pins s σ H xs us Q I rv ⟨as, h, z, r, hz, c, ra, e, q⟩
  subst hz
  unfold listA at e
  split at e
  · split at e
    · rename_i xs hs
      obtain ⟨v, rfl, r1⟩ := ra.one
      obtain ⟨p, vs, rfl, sq, l⟩ := asSeq_inv c hs r1
      exact call_list_of pins s σ z.H _ us Q I rv ⟨p, vs, rfl, sq.symm, fun lp hp => okK.list e q c l hp⟩
    · cases e
  · cases e
/-- tuple(list), the object told -/
theorem call_tupleF : CallR X (.type "tuple") (fun xs H Q => ∃ p ys, xs = [.ref p] ∧ SqL X.K H p ys ∧ ∀ l (o : Obj), H l = none → o.dict = none → Q (.ref l) (upd H l (.frz o (.tup ys)))) := by
  intro pins s σ H xs us Q I r h
  obtain ⟨p, ys, rfl, hq, q⟩ := h
  obtain ⟨u, rfl, rx⟩ := vals1 r
  cases rx
  obtain ⟨its, r', pl, hz⟩ := I.list hq
  have hlen := r'.length
  refine call_tuple_list pl.isList (fun h' kp => ?_) (by simp only [List.size_toArray] <;> omega)
  have I1 : Inv X pins σ H { s with heap := h' } := I.kept (t' := s.toks) kp
  have I2 : Inv X pins σ (upd H h'.objs.size (.frz { cls := .type "tuple", data := .seq its.toArray } (.tup ys))) { s with heap := h'.push { cls := .type "tuple", data := .seq its.toArray } } :=
    I1.laid (t' := s.toks) (fun b o e => Heap.get?_push_of_some _ e) (Nat.le_refl _) (show ObjOk X.prog X.w _ _ _ (.frz _ (.tup ys)) from ⟨Heap.get?_push_size _ rfl, hz, its, r', ⟨_, Heap.get?_push_size _ rfl, rfl, _, rfl⟩⟩)
  exact ⟨.ref h'.objs.size, _, I2, rfl, q _ _ (I1.hok.fresh (Nat.le_refl _)) rfl⟩
def tupleA : BF := fun as h => match as with
  | [.d (.tup xs)] => some (.d (.tup xs), h)
  | [a] => match asLst a h with
    | some xs => (allD xs).map fun ds => (.d (.tup ds), h)
    | none => none
  | _ => none
theorem cr_tupleA : CallR X (.type "tuple") (liftC X.K g tupleA) := by
  intro pins s σ H xs us Q I rv ⟨as, h, z, r, hz, c, ra, e, q⟩
  subst hz
  unfold tupleA at e
  split at e
  · cases e
    obtain ⟨v, rfl, r1⟩ := ra.one
    obtain ⟨p, vs, rfl, sq, l⟩ := RelD.tup_inv r1
    exact call_tuple_of pins s σ z.H _ us Q I rv ⟨p, vs, rfl, .inr ⟨sq, q.same c r1⟩⟩
  · split at e
    · rename_i xs hs
      cases ed : allD xs with
      | none => rw [ed] at e; cases e
      | some ds =>
        rw [ed] at e
        cases e
        obtain ⟨v, rfl, r1⟩ := ra.one
        obtain ⟨p, vs, rfl, h1, l⟩ := asLst_inv c hs r1
        rw [allD_eq ed] at l
        cases ht : turnsD ds with
        | false => exact call_tuple_of pins s σ z.H _ us Q I rv ⟨p, vs, rfl, .inl ⟨.of h1, fun lp hp => okK.frozen q c hp fun z' ez f e => .tup f e ((RelL.ofAs l).mono ez) ht⟩⟩
        | true => exact call_tupleF pins s σ z.H _ us Q I rv ⟨p, vs, rfl, .of h1, fun lp o hp hd => okK.frozen q c hp fun z' ez f e => .tupF f e hd ((RelL.ofAs l).mono ez) ht⟩
    · cases e
  · cases e

/-! ### str, bool -/
def strA : BF := fun as h => match as with
  | [.d (.int i)] => if i.natAbs.log2 < 1920 then some (.d (.str (toString i)), h) else none
  | [.d (.str x)] => some (.d (.str x), h)
  | _ => none
theorem cr_strA : CallR X (.type "str") (liftC X.K g strA) := by
  intro pins s σ H xs us Q I rv ⟨as, h, z, r, hz, c, ra, e, q⟩
  subst hz
  unfold strA at e
  split at e
  · split at e
    · cases e
      obtain ⟨v, rfl, r1⟩ := ra.one
      cases r1
      exact call_str_int pins s σ z.H _ us Q I rv ⟨_, rfl, by assumption, q.same c (.str _)⟩
    · cases e
  · cases e
    obtain ⟨v, rfl, r1⟩ := ra.one
    cases r1
    exact SkE.call_str_str pins s σ z.H _ us Q I rv ⟨_, rfl, q.same c (.str _)⟩
  · cases e
def boolA : BF := fun as h => match as with
  | [.d (.int i)] => some (.d (.bl (i != 0)), h)
  | [.d (.bl i)] => some (.d (.bl i), h)
  | _ => none
theorem cr_boolA : CallR X (.type "bool") (liftC X.K g boolA) := by
  intro pins s σ H xs us Q I rv ⟨as, h, z, r, hz, c, ra, e, q⟩
  subst hz
  unfold boolA at e
  split at e
  · cases e
    obtain ⟨v, rfl, r1⟩ := ra.one
    cases r1
    exact call_bool1 pins s σ z.H _ us Q I rv (.inl ⟨_, rfl, q.same c (.bl _)⟩)
  · cases e
    obtain ⟨v, rfl, r1⟩ := ra.one
    cases r1
    exact call_bool1 pins s σ z.H _ us Q I rv (.inr ⟨_, rfl, q.same c (.bl _)⟩)
  · cases e
end
end MP
end S_MPm
section S_MPn
/-! MPn: sorted of tuples, methods of lists and texts. -/
namespace MP
open PySem L2 PySem.Spec PyProof.Rows
section
variable {g : Gm} {X : Cx} {pos : Pos} {K : PySem.W.Frag} {z : Zn}

theorem sortedTI : CallR X (.builtin "sorted") (fun vs H Q => ∃ (a : Addr) (ns : List Int), vs = [V.ref a] ∧ SqT X.K H a (ns.map V.int) ∧ ∀ (ns' : List Int) (p : Addr), ns'.Perm ns → ns'.Pairwise (· ≤ ·) → H p = none → Q (.ref p) (upd H p (.lst (ns'.map V.int)))) := by
  intro pins s σ H vs us Q I r h
  obtain ⟨a, ns, rfl, hs, q⟩ := h
  obtain ⟨its, rv, ⟨o, ho, hcls, n, hd⟩, hz⟩ := I.tuple hs
  rw [Vals.ref1 r]
  have hi := rv.ints
  have hz' : its.length ≤ sizeLine := by rw [← rv.length]; exact hz
  refine Calls.call_function_entry kind_sorted plain_sorted entry_sorted (args_sorted1 _) ?_
  unfold Builtin.«sorted»
  refine wpAny_bind (m := checkCount "sorted" 1 1 _) (wpAny_pure ?_)
  refine wpAny_bind (wpAny_collect_seq a (.inr rfl) ho hcls hd (fun h1 hk1 => ?_) (by rw [List.size_toArray]; exact hz'))
  have I1 : Inv X pins σ H { s with heap := h1 } := I.kept (t' := s.toks) hk1
  have e0 : its.toArray.toList = its := by simp
  rw [e0]
  refine wpAny_bind (wpAny_newList ?_ hz')
  have hoL : (h1.push { cls := .type "list", data := .seq its.toArray }).get? h1.objs.size = some { cls := .type "list", data := .seq its.toArray 0 } := Heap.get?_push_size _ rfl
  have I2 : Inv X pins σ (upd H h1.objs.size (.lst (ns.map V.int))) { s with heap := h1.push { cls := .type "list", data := .seq its.toArray } } :=
    I1.laid (t' := s.toks) (fun b u e => Heap.get?_push_of_some _ e) (Nat.le_refl _) ⟨hz, its, 0, rv, hoL⟩
  have hn : H h1.objs.size = none := I1.hok.fresh (Nat.le_refl _)
  refine wpAny_bind (wpAny_holding (wpAny_call_entry slot_list_sort ⟨_, hoL, rfl⟩ entry_list_sort (SrtO.list_sort_ord SrtO.swo_int hoL hz' (fun h2 => SrtO.ints_sortable hi h2) fun out h3 h4 => ⟨_, rfl, ?_⟩) (args_list_sort _)))
  obtain ⟨k1, k2, k3⟩ := SrtO.ints_out hi h3 h4
  obtain ⟨ep, he'⟩ := PyProof.Rows.sortedHeap_at (vs := its) (out := out.toArray) hoL
  have hlen : ((out.map SrtO.iv).map V.int).length ≤ sizeLine := by
    rw [List.length_map, k2.length_eq]
    rw [List.length_map] at hz
    exact hz
  refine wpAny_pure ⟨_, rfl, ?_⟩
  have hu : upd (upd H h1.objs.size (.lst (ns.map V.int))) h1.objs.size (.lst ((out.map SrtO.iv).map V.int)) = upd H h1.objs.size (.lst ((out.map SrtO.iv).map V.int)) := by
    funext b
    unfold upd
    split <;> rfl
  refine ⟨.ref h1.objs.size, upd H h1.objs.size (.lst ((out.map SrtO.iv).map V.int)), ?_, rfl, q _ _ k2 k3 hn⟩
  rw [← hu]
  refine I2.write (e := h1.objs.size) (t' := s.toks) (by rw [upd_same]; trivial) (.inl rfl) (fun b u hb hu => ?_) ⟨_, he'⟩ ⟨hlen, out, ep, vals_of_ints k1, he'⟩
  rw [PyProof.Rows.sortedHeap_old hb (Heap.lt_size hu)]; exact hu

/-- ascending -/
def insI (x : Int) : List Int → List Int
  | [] => [x]
  | y :: r => if x ≤ y then x :: y :: r else y :: insI x r
def sortI : List Int → List Int
  | [] => []
  | x :: r => insI x (sortI r)
theorem insI_perm (x : Int) : ∀ l : List Int, (insI x l).Perm (x :: l)
  | [] => List.Perm.refl _
  | y :: r => by
    unfold insI
    split
    · exact List.Perm.refl _
    · exact ((insI_perm x r).cons y).trans (List.Perm.swap x y r)
theorem sortI_perm : ∀ l : List Int, (sortI l).Perm l
  | [] => List.Perm.refl _
  | x :: r => (insI_perm x _).trans ((sortI_perm r).cons x)
theorem insI_sorted (x : Int) : ∀ l : List Int, l.Pairwise (· ≤ ·) → (insI x l).Pairwise (· ≤ ·)
  | [], _ => by simp [insI]
  | y :: r, h => by
    unfold insI
    split
    · rename_i hxy
      refine List.Pairwise.cons (fun w hw => ?_) h
      rcases List.mem_cons.mp hw with rfl | hw
      · exact hxy
      · have := List.rel_of_pairwise_cons h hw
        omega
    · rename_i hxy
      refine List.Pairwise.cons (fun w hw => ?_) (insI_sorted x r (List.Pairwise.of_cons h))
      rcases List.mem_cons.mp ((insI_perm x r).mem_iff.mp hw) with rfl | hw
      · omega
      · exact List.rel_of_pairwise_cons h hw
theorem sortI_sorted : ∀ l : List Int, (sortI l).Pairwise (· ≤ ·)
  | [] => List.Pairwise.nil
  | x :: r => insI_sorted x _ (sortI_sorted r)
theorem sorted_eq : ∀ {l m : List Int}, l.Perm m → l.Pairwise (· ≤ ·) → m.Pairwise (· ≤ ·) → l = m
  | [], m, p, _, _ => p.nil_eq
  | x :: l, [], p, _, _ => p.symm.nil_eq.symm
  | x :: l, y :: m, p, h1, h2 => by
    have e : x = y := by
      have a : x ∈ y :: m := p.mem_iff.mp (List.mem_cons_self ..)
      have b : y ∈ x :: l := p.mem_iff.mpr (List.mem_cons_self ..)
      rcases List.mem_cons.mp a with a | a
      · exact a
      · rcases List.mem_cons.mp b with b | b
        · exact b.symm
        · have := List.rel_of_pairwise_cons h1 b
          have := List.rel_of_pairwise_cons h2 a
          omega
    subst e
    rw [sorted_eq (List.Perm.cons_inv p) (List.Pairwise.of_cons h1) (List.Pairwise.of_cons h2)]
/-! ### texts, ascending -/
def leS (x y : Str) : Prop := ¬ y.cps.toList < x.cps.toList
instance (x y : Str) : Decidable (leS x y) := inferInstanceAs (Decidable (¬ _))
def insS (x : Str) : List Str → List Str
  | [] => [x]
  | y :: r => if leS x y then x :: y :: r else y :: insS x r
def sortS : List Str → List Str
  | [] => []
  | x :: r => insS x (sortS r)
theorem leS_trans {x y z : Str} (h1 : leS x y) (h2 : leS y z) : leS x z := by
  unfold leS at *
  rw [List.not_lt] at *
  exact List.le_trans h1 h2
theorem leS_total {x y : Str} (h : ¬ leS x y) : leS y x := by
  unfold leS at *
  rw [Classical.not_not] at h
  exact fun h2 => List.lt_irrefl _ (List.lt_trans h h2)
theorem leS_anti {x y : Str} (h1 : leS x y) (h2 : leS y x) : x = y := by
  unfold leS at *
  rw [List.not_lt] at *
  have := List.le_antisymm h1 h2
  exact TL.ext_tl this
theorem insS_perm (x : Str) : ∀ l : List Str, (insS x l).Perm (x :: l)
  | [] => List.Perm.refl _
  | y :: r => by
    rw [insS]
    split
    · exact List.Perm.refl _
    · exact ((insS_perm x r).cons y).trans (List.Perm.swap x y r)
theorem sortS_perm : ∀ l : List Str, (sortS l).Perm l
  | [] => List.Perm.refl _
  | x :: r => (insS_perm x (sortS r)).trans ((sortS_perm r).cons x)
theorem insS_sorted (x : Str) : ∀ l : List Str, l.Pairwise leS → (insS x l).Pairwise leS
  | [], _ => List.pairwise_singleton _ _
  | y :: r, h => by
    rw [List.pairwise_cons] at h
    rw [insS]
    split
    · rename_i hx
      refine List.pairwise_cons.mpr ⟨fun z hz => ?_, List.pairwise_cons.mpr h⟩
      rcases List.mem_cons.mp hz with rfl | hz
      · exact hx
      · exact leS_trans hx (h.1 z hz)
    · rename_i hx
      refine List.pairwise_cons.mpr ⟨fun z hz => ?_, insS_sorted x r h.2⟩
      rcases List.mem_cons.mp ((insS_perm x r).mem_iff.mp hz) with rfl | hz
      · exact leS_total hx
      · exact h.1 z hz
theorem sortS_sorted : ∀ l : List Str, (sortS l).Pairwise leS
  | [] => List.Pairwise.nil
  | x :: r => insS_sorted x _ (sortS_sorted r)
theorem sortedS_eq : ∀ {l m : List Str}, l.Perm m → l.Pairwise leS → m.Pairwise leS → l = m
  | [], m, p, _, _ => by rw [List.nil_perm] at p; exact p.symm
  | x :: l, [], p, _, _ => by have := p.length_eq; simp at this
  | x :: l, y :: m, p, h1, h2 => by
    have e : x = y := by
      rcases List.mem_cons.mp (p.mem_iff.mp (List.mem_cons_self ..)) with e | hx
      · exact e
      · rcases List.mem_cons.mp (p.mem_iff.mpr (List.mem_cons_self ..)) with e | hy
        · exact e.symm
        · exact leS_anti (List.rel_of_pairwise_cons h1 hy) (List.rel_of_pairwise_cons h2 hx)
    subst e
    rw [sortedS_eq (List.Perm.cons_inv p) (List.Pairwise.of_cons h1) (List.Pairwise.of_cons h2)]
theorem rising_pw : ∀ (p : Str) (l : List Str), PyProof.Rows.risingS p l = true → (p :: l).Pairwise leS
  | p, [], _ => List.pairwise_singleton _ _
  | p, x :: r, h => by
    rw [PyProof.Rows.risingS, Bool.and_eq_true, Bool.not_eq_true', PyProof.Rows.ltCps_eq, decide_eq_false_iff_not] at h
    have h1 : leS p x := h.1
    have ih := rising_pw x r h.2
    refine List.pairwise_cons.mpr ⟨fun z hz => ?_, ih⟩
    rcases List.mem_cons.mp hz with rfl | hz
    · exact h1
    · exact leS_trans h1 (List.rel_of_pairwise_cons ih hz)
theorem sortedS_pw {l : List Str} (h : PyProof.Rows.sortedS l = true) : l.Pairwise leS := by
  cases l with
  | nil => exact List.Pairwise.nil
  | cons x r => exact rising_pw x r h
def strsLA (a : A) (h : Hh) : Option (List Str) := match asLst a h with
  | some xs => (allD xs).bind strsD
  | none => none
theorem strsLA_inv {h : Hh} {a : A} {ns : List Str} {v : V} (c : Cn K g z h) (e : strsLA a h = some ns) (r : RelA K g z a v) : ∃ p, v = .ref p ∧ SqL K z.H p (ns.map V.str) := by
  unfold strsLA at e
  split at e
  · rename_i xs hx
    obtain ⟨ds, h1, h2⟩ := Option.bind_eq_some_iff.mp e
    obtain ⟨p, vs, rfl, t, l⟩ := asLst_inv c hx r
    rw [allD_eq h1] at l
    have l2 := RelL.ofAs l
    rw [strsD_eq h2] at l2
    rw [l2.strs] at t
    exact ⟨p, rfl, .of t⟩
  · cases e
def sortedA (mu : Bool) : BF := fun as h => match as with
  | [.d (.tup xs)] => match intsD xs with
    | some ns => newL mu ((sortI ns).map fun n => .d (.int n)) h
    | none => none
  | [a] => match intsA a h with
    | some ns => newL mu ((sortI ns).map fun n => .d (.int n)) h
    | none => match strsLA a h with
      | some xs => if xs.length < 64 then newL mu ((sortS xs).map fun x => .d (.str x)) h else none
      | none => none
  | _ => none
theorem RelAs.ofInts {ns : List Int} : RelAs K g z (ns.map fun n => A.d (.int n)) (ns.map V.int) := by
  have := RelAs.ofL (RelL.ofInts (K := K) (g := g) (z := z) ns)
  rwa [List.map_map] at this
theorem RelAs.ofStrs0 {ns : List Str} : RelAs K g z (ns.map fun n => A.d (.str n)) (ns.map V.str) := by
  induction ns with
  | nil => exact .nil
  | cons a r ih => exact .cons (RelD.str _) ih
theorem cr_sortedA {mu : Bool} : CallR X (.builtin "sorted") (liftC X.K g (sortedA mu)) := by
  intro pins s σ H xs us Q I rv ⟨as, h, z, r, hz, c, ra, e, q⟩
  subst hz
  have fin : ∀ (ns ns' : List Int) (p : Addr), newL mu ((sortI ns).map fun n => .d (.int n)) h = some r → ns'.Perm ns → ns'.Pairwise (· ≤ ·) → z.H p = none → Q (.ref p) (upd z.H p (.lst (ns'.map V.int))) := fun ns ns' p e h1 h2 hp => by
    rw [sorted_eq (h1.trans (sortI_perm ns).symm) h2 (sortI_sorted ns)]
    exact okK.list e q c RelAs.ofInts hp
  unfold sortedA at e
  split at e
  · split at e
    · rename_i xs ns hn
      obtain ⟨v, rfl, r1⟩ := ra.one
      obtain ⟨p, vs, rfl, sq, l⟩ := RelD.tup_inv r1
      rw [intsD_eq hn] at l
      rw [l.ints] at sq
      exact sortedTI pins s σ z.H _ us Q I rv ⟨p, ns, rfl, sq, fun ns' p' h1 h2 hp => fin ns ns' p' e h1 h2 hp⟩
    · cases e
  · split at e
    · rename_i ns hn
      obtain ⟨v, rfl, r1⟩ := ra.one
      obtain ⟨p, rfl, sq⟩ := intsA_inv c hn r1
      exact cr_sortedI pins s σ z.H _ us Q I rv ⟨p, ns, rfl, sq, fun ns' p' h1 h2 hp => fin ns ns' p' e h1 h2 hp⟩
    · split at e
      · rename_i xs hn
        split at e
        · rename_i hl
          obtain ⟨v, rfl, r1⟩ := ra.one
          obtain ⟨p, rfl, sq⟩ := strsLA_inv c hn r1
          refine cr_sortedS pins s σ z.H _ us Q I rv ⟨p, xs, rfl, sq, hl, fun ys p' h1 h2 hp => ?_⟩
          rw [sortedS_eq (h1.trans (sortS_perm xs).symm) (sortedS_pw h2) (sortS_sorted xs)]
          exact okK.list e q c RelAs.ofStrs0 hp
        · cases e
      · cases e
  · cases e
end
end MP
end S_MPn
section S_MPo
/-! MPo: methods of lists and texts. -/
namespace MP
open PySem L2

def isStar : Expr → Bool
  | .Starred .. => true
  | _ => false
def noStar : List Expr → Bool
  | [] => true
  | e :: es => !isStar e && noStar es
theorem star_cons {e : Expr} {es : List Expr} {env : Env} (h : isStar e = false) : starEach (e :: es) env = (false, eval e env) :: starEach es env := by
  cases e <;> first | rfl | cases h
theorem noStar_cons {e : Expr} {es : List Expr} (h : noStar (e :: es) = true) : isStar e = false ∧ noStar es = true := by
  rw [noStar, Bool.and_eq_true] at h
  exact ⟨by simpa using h.1, h.2⟩
theorem noStar_any {env : Env} {pos : Pos} : ∀ {es : List Expr}, noStar es = true → (backTo pos (starEach es env)).any (·.1) = false
  | [], _ => rfl
  | e :: es, h => by
    rw [star_cons (noStar_cons h).1]
    have := noStar_any (env := env) (pos := pos) (noStar_cons h).2
    unfold backTo at this ⊢
    rw [List.map_cons, List.any_cons, this]
    rfl
theorem noStar_all {env : Env} {pos : Pos} : ∀ {es : List Expr}, noStar es = true → (backTo pos (starEach es env)).all (fun x => !x.1) = true
  | [], _ => rfl
  | e :: es, h => by
    rw [star_cons (noStar_cons h).1]
    have := noStar_all (env := env) (pos := pos) (noStar_cons h).2
    unfold backTo at this ⊢
    rw [List.map_cons, List.all_cons, this]
    rfl
def notSup : Expr → Bool
  | .Call (.Name id _) [] [] _ => !(id == ("super" : Str))
  | _ => true
theorem base_eq {o : Expr} {m : Str} {env : Env} (h : notSup o = true) : attributeBase o m env (eval o env) = eval o env := by
  unfold attributeBase
  split
  · rename_i id _ _
    have h' : (id == ("super" : Str)) = false := by simpa [notSup] using h
    have : (id != ("super" : Str)) = true := by rw [bne, h']; rfl
    rw [this]
    rfl
  · rfl

section
variable {g : Gm} {X : Cx} {pos apos : Pos} {K : PySem.W.Frag} {z : Zn}
/-- a list or a text -/
def tyA (T : String) (a : A) (h : Hh) : Bool := match a with
  | .d (.str _) => T == "str"
  | .d (.lst _) => T == "list"
  | .ref i => match h[i]? with
    | some (.lst _) => T == "list"
    | some (.dk _) => T == "dict"
    | some (.dt _) => T == "dict"
    | _ => false
  | _ => false
theorem tyA_inv {T : String} {a : A} {h : Hh} {v : V} (c : Cn K g z h) (e : tyA T a h = true) (r : RelA K g z a v) : tyV K T v z.H := by
  unfold tyA at e
  split at e
  · cases r
    exact (by simpa using e : T = "str")
  · obtain ⟨p, vs, rfl, h1, l⟩ := RelD.lst_inv r
    exact .inl ⟨by simpa using e, vs, .of h1⟩
  · rename_i i
    obtain ⟨p, hp, rfl⟩ := r
    split at e
    · rename_i xs hi
      obtain ⟨_, vs, h1, h2⟩ := c.ob i _ p hi hp
      exact .inl ⟨by simpa using e, vs, .of h1⟩
    · rename_i xs hi
      obtain ⟨_, vs, h1, h2⟩ := c.ob i _ p hi hp
      exact .inr (.inr (.inl ⟨by simpa using e, .inl ⟨_, h1⟩⟩))
    · rename_i xs hi
      obtain ⟨_, vs, h1, h2⟩ := c.ob i _ p hi hp
      exact .inr (.inr (.inl ⟨by simpa using e, .inr ⟨_, h1⟩⟩))
    · cases e
  · cases e
abbrev MF := A → List A → Hh → Option (A × Hh)
def liftM (K : PySem.W.Frag) (g : Gm) (F : MF) : V → List V → Hp → VK → Prop := fun x xs H Q => ∃ a as h z r, z.H = H ∧ Cn K g z h ∧ RelA K g z a x ∧ RelAs K g z as xs ∧ F a as h = some r ∧ okK K g z Q r.1 r.2
def bmF (T : String) (F : MF) (fo : Sl → Hh → Out A) (fs : Sl → Hh → Out (List A)) : Sl → Hh → Out A := fun s h => (fo s h).bind fun a h1 => if tyA T a h1 then (fs s h1).bind fun as h2 => optH (F a as h2) else .no
theorem ae_bm {T id : String} {name : Str} {o e : Expr} {es : List Expr} {F : MF} {fo : Sl → Hh → Out A} {fs : Sl → Hh → Out (List A)} (pa : PlainAttrs T) (slot : Slot T name id) (hty : typeOf (.builtin id) = pure (.type "method_descriptor")) (hm : MtR X id (liftM X.K g F)) (ho : AE g X o fo) (ha : AA g X (e :: es) fs)
    (hb : notSup o = true) (hn : noStar (e :: es) = true) (hlen : (e :: es).length < 30) (hline : (apos.endLine == pos.line) = true) : AE g X (.Call (.Attribute o name apos) (e :: es) [] pos) (bmF T F fo fs) := by
  intro W tk
  refine (pe_bm pa slot hty hm (ho W tk) (ha W tk) (base_eq hb) (by rw [noStar_all hn, decide_eq_true (show (e :: es).length + ([] : List Keyword).length + (if ([] : List Keyword).isEmpty then 0 else 1) < 30 by simpa using hlen)]; rfl) hline (star_cons (noStar_cons hn).1) (noStar_any (noStar_cons hn).2)).impM fun σ H Q ⟨s, h, z, hz, c, rs, w⟩ => ?_
  refine ⟨s, h, z, hz, c, rs, Out.wp_mono (Out.wp_bind w) (fun a h1 w1 v z1 e1 c1 r1 => ?_) fun _ _ q => q⟩
  split at w1
  · rename_i hT
    refine ⟨tyA_inv c1 hT r1, s, h1, z1, rfl, c1, rs.mono e1, Out.wp_mono (Out.wp_bind w1) (fun as h2 w2 vs z2 e2 c2 r2 => ?_) fun _ _ q => q.ext e1⟩
    obtain ⟨r, er, q⟩ := optH_wp w2
    exact ⟨a, as, h2, z2, r, rfl, c2, r1.mono e2, r2, er, q.ext (e1.trans e2)⟩
  · exact w1.elim
theorem ae_bm0 {T id : String} {name : Str} {o : Expr} {F : MF} {fo : Sl → Hh → Out A} (pa : PlainAttrs T) (slot : Slot T name id) (hty : typeOf (.builtin id) = pure (.type "method_descriptor")) (hm : MtR X id (liftM X.K g F)) (ho : AE g X o fo)
    (hb : notSup o = true) (hline : (apos.endLine == pos.line) = true) : AE g X (.Call (.Attribute o name apos) [] [] pos) (bmF T F fo fun _ h => .ok [] h) := by
  intro W tk
  refine (pe_bm0 pa slot hty hm (ho W tk) (base_eq hb) hline).impM fun σ H Q ⟨s, h, z, hz, c, rs, w⟩ => ?_
  refine ⟨s, h, z, hz, c, rs, Out.wp_mono (Out.wp_bind w) (fun a h1 w1 v z1 e1 c1 r1 => ?_) fun _ _ q => q⟩
  split at w1
  · rename_i hT
    obtain ⟨r, er, q⟩ := optH_wp (show (optH (F a [] h1)).wp _ _ from w1)
    exact ⟨tyA_inv c1 hT r1, a, [], h1, z1, r, rfl, c1, r1, .nil, er, q.ext e1⟩
  · exact w1.elim

/-- a mutable list written -/
theorem okK.wrote {h : Hh} {Q : VK} {i : Nat} {p : Addr} {a : A} {v : V} {xs : List A} {vs : List V} {o : O} (q : okK K g z Q a (h.set i (.lst xs))) (c : Cn K g z h) (hi : h[i]? = some o) (hd : o ≠ .dead) (hp : z.rho[i]? = some p) (l : RelAs K g z xs vs) (r : RelA K g z a v) : Q v (upd z.H p (.lst vs)) := by
  have nf := (c.ob i o p hi hp).nf hd
  exact q v (z.upd p (.lst vs)) (Ext.write hp nf) (c.write hp nf ⟨nf, vs, upd_same, l.mono (Ext.write hp nf)⟩) (r.mono (Ext.write hp nf))
def appendM : MF := fun a as h => match a, as with
  | .ref i, [y] => match h[i]? with
    | some (.lst xs) => if xs.length < sizeLine then some (.d .non, h.set i (.lst (xs ++ [y]))) else none
    | _ => none
  | _, _ => none
theorem mtA_append : MtR X "list.append" (liftM X.K g appendM) := by
  intro pins s σ H x vs v us Q I rx rv ⟨a, as, h, z, r, hz, c, ra, rs, e, q⟩
  subst hz
  unfold appendM at e
  split at e
  · split at e
    · split at e
      · rename_i i y _ xs hi hl
        cases e
        obtain ⟨p, hp, rfl⟩ := ra
        obtain ⟨u, rfl, r1⟩ := rs.one
        obtain ⟨_, ws, h1, h2⟩ := c.ob i _ p hi hp
        exact mt_append pins s σ z.H _ _ v us Q I rx rv ⟨p, ws, u, rfl, rfl, h1, by rw [← h2.length]; exact hl, q.wrote c hi (by simp) hp (h2.append (.cons r1 .nil)) RelD.non⟩
      · cases e
    · cases e
  · cases e
def insertM : MF := fun a as h => match a, as with
  | .ref i, [.d (.int k), y] => match h[i]? with
    | some (.lst xs) => if xs.length < sizeLine ∧ 0 ≤ k ∧ k < 2 ^ 63 then some (.d .non, h.set i (.lst (xs.take k.toNat ++ [y] ++ xs.drop k.toNat))) else none
    | _ => none
  | _, _ => none
theorem mtA_insert : MtR X "list.insert" (liftM X.K g insertM) := by
  intro pins s σ H x vs v us Q I rx rv ⟨a, as, h, z, r, hz, c, ra, rs, e, q⟩
  subst hz
  unfold insertM at e
  split at e
  · split at e
    · split at e
      · rename_i i k y _ xs hi hl
        cases e
        obtain ⟨p, hp, rfl⟩ := ra
        obtain ⟨u1, u, rfl, r0, r1⟩ := rs.two
        cases r0
        obtain ⟨_, ws, h1, h2⟩ := c.ob i _ p hi hp
        exact mt_insert pins s σ z.H _ _ v us Q I rx rv ⟨p, ws, k, u, rfl, rfl, h1, by rw [← h2.length]; exact hl.1, hl.2.1, hl.2.2, q.wrote c hi (by simp) hp (((h2.take _).append (.cons r1 .nil)).append (h2.drop _)) RelD.non⟩
      · cases e
    · cases e
  · cases e
def popM : MF := fun a as h => match a, as with
  | .ref i, [] => match h[i]? with
    | some (.lst xs) => (xs[xs.length - 1]?).map fun y => (y, h.set i (.lst xs.dropLast))
    | _ => none
  | .ref i, [.d (.int k)] => match h[i]? with
    | some (.lst xs) => if -(2 ^ 63) ≤ k ∧ k < 2 ^ 63 then (match seqIndex? k xs.length with
      | some j => (xs[j]?).map fun y => (y, h.set i (.lst (xs.eraseIdx j)))
      | none => none) else none
    | _ => none
  | _, _ => none
theorem RelAs.dropLast : ∀ {a : List A} {w : List V}, RelAs K g z a w → RelAs K g z a.dropLast w.dropLast
  | _, _, .nil => .nil
  | _, _, .cons r .nil => .nil
  | _, _, .cons r (.cons q t) => .cons r (RelAs.dropLast (.cons q t))
theorem RelAs.erase : ∀ {a : List A} {w : List V} (k : Nat), RelAs K g z a w → RelAs K g z (a.eraseIdx k) (w.eraseIdx k)
  | _, _, _, .nil => .nil
  | _, _, 0, .cons r t => t
  | _, _, k + 1, .cons r t => .cons r (RelAs.erase k t)
theorem mtA_pop : MtR X "list.pop" (liftM X.K g popM) := by
  intro pins s σ H x vs v us Q I rx rv ⟨a, as, h, z, r, hz, c, ra, rs, e, q⟩
  subst hz
  unfold popM at e
  split at e
  · split at e
    · rename_i i _ xs hi
      cases ey : xs[xs.length - 1]? with
      | none => rw [ey] at e; cases e
      | some y =>
        rw [ey] at e
        cases e
        obtain ⟨p, hp, rfl⟩ := ra
        cases rs
        obtain ⟨_, ws, h1, h2⟩ := c.ob i _ p hi hp
        obtain ⟨u, hu, ru⟩ := h2.get ey
        exact mt_pop pins s σ z.H _ _ v us Q I rx rv ⟨p, ws, u, rfl, rfl, h1, by rw [← h2.length]; exact hu, q.wrote c hi (by simp) hp h2.dropLast ru⟩
    · cases e
  · split at e
    · split at e
      · split at e
        · rename_i i k _ xs hi hk _ j hj
          cases ey : xs[j]? with
          | none => rw [ey] at e; cases e
          | some y =>
            rw [ey] at e
            cases e
            obtain ⟨p, hp, rfl⟩ := ra
            obtain ⟨u1, rfl, r0⟩ := rs.one
            cases r0
            obtain ⟨_, ws, h1, h2⟩ := c.ob i _ p hi hp
            obtain ⟨u, hu, ru⟩ := h2.get ey
            exact mt_popAt pins s σ z.H _ _ v us Q I rx rv ⟨p, ws, k, j, u, rfl, rfl, h1, hk.1, hk.2, by rw [← h2.length]; exact hj, hu, q.wrote c hi (by simp) hp (h2.erase j) ru⟩
        · cases e
      · cases e
    · cases e
  · cases e
def extendM : MF := fun a as h => match a, as with
  | .ref i, [b] => match h[i]?, asLst b h with
    | some (.lst xs), some ys => if xs.length + ys.length ≤ sizeLine then some (.d .non, h.set i (.lst (xs ++ ys))) else none
    | _, _ => none
  | _, _ => none
theorem mtA_extend : MtR X "list.extend" (liftM X.K g extendM) := by
  intro pins s σ H x vs v us Q I rx rv ⟨a, as, h, z, r, hz, c, ra, rs, e, q⟩
  subst hz
  unfold extendM at e
  split at e
  · split at e
    · split at e
      · rename_i i b _ _ xs ys hi hb hl
        cases e
        obtain ⟨p, hp, rfl⟩ := ra
        obtain ⟨u, rfl, r1⟩ := rs.one
        obtain ⟨_, ws, h1, h2⟩ := c.ob i _ p hi hp
        obtain ⟨p2, ws2, rfl, k1, k2⟩ := asLst_inv c hb r1
        exact mt_extend pins s σ z.H _ _ v us Q I rx rv ⟨p, p2, ws, ws2, rfl, rfl, h1, k1, by rw [← h2.length, ← k2.length]; exact hl, q.wrote c hi (by simp) hp (h2.append k2) RelD.non⟩
      · cases e
    · cases e
  · cases e

/-! ### texts -/
def joinM : MF := fun a as h => match a, as with
  | .d (.str x), [b] => match strsA b h with
    | some ys => if (ys.map (·.length)).sum + ys.length * x.length ≤ 16777216 then some (.d (.str (Txt.join x ys)), h) else none
    | none => none
  | _, _ => none
theorem mtA_join : MtR X "str.join" (liftM X.K g joinM) := by
  intro pins s σ H x vs v us Q I rx rv ⟨a, as, h, z, r, hz, c, ra, rs, e, q⟩
  subst hz
  unfold joinM at e
  split at e
  · split at e
    · split at e
      · rename_i x b _ ys hb hl
        cases e
        cases ra
        obtain ⟨u, rfl, r1⟩ := rs.one
        obtain ⟨p, rfl, sq⟩ := strsA_inv c hb r1
        exact mt_join pins s σ z.H _ _ v us Q I rx rv ⟨_, p, ys, rfl, rfl, sq, hl, q.same c (RelD.str _)⟩
      · cases e
    · cases e
  · cases e
def splitM (mu : Bool) : MF := fun a as h => match a, as with
  | .d (.str x), [.d (.str y)] => if (y.length == 0) = false ∧ x.length + 2 ≤ sizeLine then newL mu ((Txt.split x y).map fun w => .d (.str w)) h else none
  | _, _ => none
theorem RelAs.ofStrs {ns : List Str} : RelAs K g z (ns.map fun n => A.d (.str n)) (ns.map V.str) := by
  have := RelAs.ofL (RelL.ofStrs (K := K) (g := g) (z := z) ns)
  rwa [List.map_map] at this
theorem mtA_split {mu : Bool} : MtR X "str.split" (liftM X.K g (splitM mu)) := by
  intro pins s σ H x vs v us Q I rx rv ⟨a, as, h, z, r, hz, c, ra, rs, e, q⟩
  subst hz
  unfold splitM at e
  split at e
  · split at e
    · rename_i x y hl
      cases ra
      obtain ⟨u, rfl, r1⟩ := rs.one
      cases r1
      exact mt_split pins s σ z.H _ _ v us Q I rx rv ⟨_, _, rfl, rfl, hl.1, hl.2, fun p hp => okK.list e q c RelAs.ofStrs hp⟩
    · cases e
  · cases e
end
end MP
end S_MPo
section S_MPp
/-! MPp: isinstance, stores, fields, while, augmented stores. -/
namespace MP
open PySem L2

/-! ### kinds -/
inductive Kd where
  | b (n : String)
  | own (c : Nat)
  deriving DecidableEq
def kdV (g : Gm) : Kd → Value
  | .b n => .type n
  | .own c => .ref (g.ca c)
def kindD : D → Option Kd
  | .non => some (.b "NoneType")
  | .bl _ => some (.b "bool")
  | .int _ => some (.b "int")
  | .str _ => some (.b "str")
  | .tup _ => some (.b "tuple")
  | .lst _ => some (.b "list")
  | .scr _ => some (.b "list")
  | .dk _ => some (.b "dict")
  | .obj c _ => some (.own c)
  | _ => none
def kindA (a : A) (h : Hh) : Option Kd := match a with
  | .d x => kindD x
  | .ref i => match h[i]? with
    | some (.lst _) => some (.b "list")
    | some (.dk _) => some (.b "dict")
    | some (.dt _) => some (.b "dict")
    | some (.ins c _) => some (.own c)
    | _ => none
/-- what isinstance asks of a class -/
structure InsK (K : PySem.W.Frag) (C : Addr) : Prop where
  cl : Cls K C
  ha : PySem.W.findIn K (.ref C) "__class__" = some (some (.builtin "object.__class__"))
  hn : PySem.W.specialIn K (.builtin "object.__class__") "__get__" = some (some (.builtin "getset_descriptor.__get__"))
  htk : PySem.W.takesIn K (.builtin "object.__class__") = some true
  hm : PySem.W.mroIn K C (.type "object") = some true
section
variable {g : Gm} {X : Cx} {pos apos : Pos} {K : PySem.W.Frag} {z z' : Zn} {h : Hh}
theorem kindA_inv {a : A} {k : Kd} {v : V} (c : Cn K g z h) (hI : ∀ i, k = .own i → InsK K (g.ca i)) (e : kindA a h = some k) (r : RelA K g z a v) : TyX K z.H v (kdV g k) := by
  unfold kindA at e
  split at e
  · rename_i x
    cases r <;> simp only [kindD, Option.some.injEq] at e <;> try subst e
    · exact .base .non
    · exact .base (.bl _)
    · exact .base (.int _)
    · exact .base (.str _)
    · exact .base (.tup (by assumption))
    · exact .fTuple (by assumption)
    · rename_i k; obtain ⟨o, its, n, h1, h2, _⟩ := k; exact .kTuple h1 h2
    · exact .base (.lst (by assumption))
    · rename_i r _ _
      rcases r with r | ⟨_, o, r⟩
      · exact .base (.dK r)
      · exact .fDict r
    · cases e
    · rename_i i _ _ _ _ _ _ _ _ _ _
      obtain ⟨h1, h2, h3, h4, h5⟩ := hI _ rfl
      exact .base (.ins (by assumption) h1 h2 h3 h4 h5)
    · cases e
    · cases e
    · exact .base (.frz (by assumption))
    · rename_i k; obtain ⟨o, its, n, h1, h2, _⟩ := k; exact .kList h1 h2
  · rename_i i
    obtain ⟨p, hp, rfl⟩ := r
    split at e
    · rename_i xs hi
      cases e
      obtain ⟨_, vs, h1, h2⟩ := c.ob i _ p hi hp
      exact .base (.lst h1)
    · rename_i xs hi
      cases e
      obtain ⟨_, vs, h1, h2⟩ := c.ob i _ p hi hp
      exact .base (.dK h1)
    · rename_i xs hi
      cases e
      obtain ⟨_, vs, h1, h2⟩ := c.ob i _ p hi hp
      exact .base (.dT h1)
    · rename_i cc fs hi
      cases e
      obtain ⟨_, dx, vs, h1, _, h2⟩ := c.ob i _ p hi hp
      obtain ⟨q1, q2, q3, q4, q5⟩ := hI _ rfl
      exact .base (.ins h1 q1 q2 q3 q4 q5)
    · cases e
/-- isinstance(e, t) -/
theorem ae_isi {e te : Expr} {p : Pos} {fe : Sl → Hh → Out A} {tv : V} {t : Kd} {tab : Kd → Kd → Option Bool} (hg : Gl X "isinstance") (hm : X.mg "isinstance" = none) (he : AE g X e fe) (ht : PE X te (tC tv)) (hv : ClsV tv (kdV g t)) (n1 : isStar e = false) (n2 : isStar te = false)
    (hI : ∀ k b i, tab k t = some b → k = .own i → InsK X.K (g.ca i)) (hk : ∀ k b, tab k t = some b → PySem.W.kitOne X.K (kdV g k) (kdV g t) = some b) :
    AE g X (.Call (.Name "isinstance" p) [e, te] [] pos) (fun s h => (fe s h).bind fun a h1 => opt (match kindA a h1 with | some k => (tab k t).map fun b => .d (.bl b) | none => none) h1) := by
  intro W tk
  have hn : noStar [te] = true := by rw [noStar, n2]; rfl
  refine (pe_callB call_isi hg hm (by rfl) (pa_cons (he W tk) (pa_cons ht pa_nil (star_cons n2)) (star_cons n1)) (by decide) (by decide) (star_cons n1) (noStar_any hn)).impM fun σ H Q ⟨s, h, z, hz, c, rs, w⟩ => ?_
  refine ⟨s, h, z, hz, c, rs, Out.wp_mono (Out.wp_bind w) (fun a h1 w1 v z1 e1 c1 r1 => ?_) fun _ _ q => q⟩
  obtain ⟨r, er, q⟩ := opt_wp w1
  split at er
  · rename_i k ek
    cases et : tab k t with
    | none => rw [et] at er; cases er
    | some b =>
      rw [et] at er
      cases er
      exact ⟨v, tv, _, _, b, rfl, hv, kindA_inv c1 (fun i hi => hI k b i et hi) ek r1, hk k b et, (q.ext e1).same c1 (.bl b)⟩
  · cases er

/-! ### targets that change the heap -/
def liftG2 (K : PySem.W.Frag) (g : Gm) (f : A → Sl → Hh → Out Sl) : TG := fun v σ H Q => ∃ a s h z, z.H = H ∧ Cn K g z h ∧ RelA K g z a v ∧ RelSl K g z s σ ∧ (f a s h).wp (slK K g z Q) (fun _ _ => False)
def liftG2s (K : PySem.W.Frag) (g : Gm) (f : List A → Sl → Hh → Out Sl) : TGs := fun vs σ H Q => ∃ as s h z, z.H = H ∧ Cn K g z h ∧ RelAs K g z as vs ∧ RelSl K g z s σ ∧ (f as s h).wp (slK K g z Q) (fun _ _ => False)
/-- these do not raise -/
def AG2 (g : Gm) (X : Cx) (t : Expr) (f : A → Sl → Hh → Out Sl) : Prop := PG X t (liftG2 X.K g f)
def AG2s (g : Gm) (X : Cx) (ts : List Expr) (f : List A → Sl → Hh → Out Sl) : Prop := PGs X ts (liftG2s X.K g f)
theorem ag2_of {t : Expr} {is : List Nat} {f : A → Sl → Option Sl} (h : AG g X t is f) : AG2 g X t (fun a s h => match f a s with | some s' => .ok s' h | none => .no) := by
  refine PG.impM h fun v σ H Q ⟨a, s, h, z, hz, c, ra, rs, w⟩ => ?_
  dsimp only at w
  cases e : f a s with
  | none => rw [e] at w; exact w.elim
  | some s' =>
    rw [e] at w
    subst hz
    exact ⟨a, s, s', z, rfl, ra, rs, e, fun σ' rs' _ => w σ' z (Ext.refl z) c rs'⟩
theorem ag2s_nil : AG2s g X [] (fun as s h => match as with | [] => .ok s h | _ => .no) := by
  refine PGs.impM pgs_nil fun v σ H Q ⟨a, s, h, z, hz, c, ra, rs, w⟩ => ?_
  cases ra with
  | nil => subst hz; exact ⟨rfl, w σ z (Ext.refl z) c rs⟩
  | cons => exact w.elim
theorem ag2s_cons {t : Expr} {ts : List Expr} {f : A → Sl → Hh → Out Sl} {fs : List A → Sl → Hh → Out Sl} (h1 : AG2 g X t f) (h2 : AG2s g X ts fs) (hs : (assignEach (t :: ts) X.env).map (·.2) = assign t X.env :: (assignEach ts X.env).map (·.2)) :
    AG2s g X (t :: ts) (fun as s h => match as with | a :: r => (f a s h).bind fun s' h' => fs r s' h' | [] => .no) := by
  refine PGs.impM (pgs_cons h1 h2 hs) fun v σ H Q ⟨as, s, h, z, hz, c, ra, rs, w⟩ => ?_
  cases ra with
  | nil => exact w.elim
  | @cons a v' as' vs' r1 r2 =>
    refine ⟨v', vs', rfl, a, s, h, z, hz, c, r1, rs, Out.wp_mono (Out.wp_bind w) (fun s' h' w' σ' z' e' c' rs' => ?_) fun _ _ q => q⟩
    exact ⟨as', s', h', z', rfl, c', r2.mono e', rs', Out.wp_mono w' (fun _ _ q => q.ext e') fun _ _ q => q⟩
theorem ag2_tup {ts : List Expr} {k : Nat} {fs : List A → Sl → Hh → Out Sl} (hc : X.calm = true) (h : AG2s g X ts fs) (n : Nat) (hn : (assignEach ts X.env).length = n) (hst : (assignEach ts X.env).findIdx? (·.1) = none) :
    AG2 g X (.Tuple ts k pos) (fun a s h => match a with | .d (.tup xs) => if xs.length = n then fs (xs.map .d) s h else .no | _ => .no) := by
  refine PG.impM (pg_tup hc h hn hst) fun v σ H Q ⟨a, s, h, z, hz, c, ra, rs, w⟩ => ?_
  subst hz
  dsimp only at w
  split at w
  · split at w
    · rename_i xs hl
      obtain ⟨p, vs, rfl, t, l⟩ := RelD.tup_inv ra
      exact ⟨p, vs, rfl, t, by rw [← l.length]; exact hl, _, s, h, z, rfl, c, RelAs.ofL l, rs, w⟩
    · exact w.elim
  · exact w.elim
def notSlice : Expr → Bool
  | .Slice .. => false
  | _ => true
/-- o[i] = v -/
def setA (a b v : A) (h : Hh) : Option Hh := match a with
  | .ref i => match h[i]? with
    | some (.lst xs) => match b with
      | .d (.int k) => (L2.ixN xs.length k).map fun j => h.set i (.lst (xs.set j v))
      | _ => none
    | some (.dk kvs) => match b with
      | .d x => match keyD x with
        | some k => if kvs.length < sizeLine then some (h.set i (.dk (put kvs k v))) else none
        | none => none
      | _ => none
    | some (.dt kvs) => match b with
      | .d (.tup xs) => match keysD xs with
        | some k => if kvs.length < sizeLine ∧ xs ≠ [] then some (h.set i (.dt (put kvs k v))) else none
        | none => none
      | _ => none
    | _ => none
  | _ => none
theorem put_any {κ : Type} [DecidableEq κ] {k : κ} : ∀ {kvs : List (κ × A)} {vs : List V}, kvs.length = vs.length → (((kvs.map (·.1)).zip vs).any fun kv => decide (kv.1 = k)) = kvs.any fun kv => decide (kv.1 = k)
  | [], _, _ => by simp
  | _ :: _, [], h => by simp at h
  | (k', a) :: r, v :: vs, h => by
    have := put_any (k := k) (kvs := r) (vs := vs) (by simpa using h)
    simp only [List.map_cons, List.zip_cons_cons, List.any_cons, this]
theorem put_map {κ : Type} [DecidableEq κ] {k : κ} {a : A} {v : V} (ra : RelA K g z a v) : ∀ {kvs : List (κ × A)} {vs : List V}, RelAs K g z (kvs.map (·.2)) vs →
    ∃ vs', ((kvs.map (·.1)).zip vs).map (fun kv => if kv.1 = k then (kv.1, v) else kv) = ((kvs.map fun kv => if kv.1 = k then (kv.1, a) else kv).map (·.1)).zip vs' ∧ RelAs K g z ((kvs.map fun kv => if kv.1 = k then (kv.1, a) else kv).map (·.2)) vs'
  | [], _, .nil => ⟨[], rfl, .nil⟩
  | (k', b) :: r, _, .cons (v := w0) r1 r2 => by
    obtain ⟨vs', e1, e2⟩ := put_map ra (kvs := r) r2
    by_cases hk : k' = k
    · refine ⟨v :: vs', ?_, ?_⟩
      · simp only [List.map_cons, List.zip_cons_cons, hk, if_pos]
        rw [e1]
      · simp only [List.map_cons, hk, if_pos]
        exact .cons ra e2
    · refine ⟨w0 :: vs', ?_, ?_⟩
      · simp only [List.map_cons, List.zip_cons_cons, hk, if_false]
        rw [e1]
      · simp only [List.map_cons, hk, if_false]
        exact .cons r1 e2
theorem put_rel {κ : Type} [DecidableEq κ] {k : κ} {a : A} {v : V} (ra : RelA K g z a v) {kvs : List (κ × A)} {vs : List V} (r : RelAs K g z (kvs.map (·.2)) vs) :
    ∃ vs', putK ((kvs.map (·.1)).zip vs) k v = ((put kvs k a).map (·.1)).zip vs' ∧ RelAs K g z ((put kvs k a).map (·.2)) vs' := by
  have hl : kvs.length = vs.length := by have := r.length; simpa using this
  unfold putK put
  rw [put_any hl]
  split
  · exact put_map ra r
  · refine ⟨vs ++ [v], ?_, ?_⟩
    · rw [List.map_append, List.zip_append (by simpa using hl)]
      rfl
    · rw [List.map_append]
      exact r.append (.cons ra .nil)
theorem put_len {κ : Type} [DecidableEq κ] {kvs : List (κ × A)} {vs : List V} (r : RelAs K g z (kvs.map (·.2)) vs) : ((kvs.map (·.1)).zip vs).length = kvs.length := by
  have := r.length
  simp at this
  rw [List.length_zip, List.length_map, ← this, Nat.min_self]
/-- what o[i] = v does -/
theorem setA_ok {a b v : A} {h h' : Hh} {x y u : V} {Q : Hp → Prop} (c : Cn K g z h) (ra : RelA K g z a x) (rb : RelA K g z b y) (rv : RelA K g z v u) (e : setA a b v h = some h') (q : ∀ z', Ext z z' → Cn K g z' h' → Q z'.H) : rSetL x y u z.H Q ∨ rSetD x y u z.H Q := by
  unfold setA at e
  split at e
  · rename_i i
    obtain ⟨p, hp, rfl⟩ := ra
    split at e
    · rename_i xs hi
      split at e
      · rename_i k
        cases rb
        cases ej : L2.ixN xs.length k with
        | none => rw [ej] at e; cases e
        | some j =>
          rw [ej] at e
          cases e
          obtain ⟨nf, ws, h1, h2⟩ := c.ob i _ p hi hp
          exact .inl ⟨p, ws, k, j, rfl, rfl, h1, by rw [← h2.length]; exact ej, q (z.upd p (.lst (ws.set j u))) (Ext.write hp nf) (c.write hp nf ⟨nf, _, upd_same, (RelAs.set rv j h2).mono (Ext.write hp nf)⟩)⟩
      · cases e
    · rename_i kvs hi
      split at e
      · split at e
        · split at e
          · rename_i x k hk hl
            cases e
            obtain ⟨nf, ws, h1, h2⟩ := c.ob i _ p hi hp
            obtain ⟨ws', e1, e2⟩ := put_rel (k := k) rv h2
            have hy := keyD_v hk rb
            subst hy
            refine .inr ⟨p, _, rfl, .inl ⟨_, k, h1, rfl, by rw [put_len h2]; exact hl, rfl⟩, ?_⟩
            rw [e1]
            exact q (z.upd p (.dK (((put kvs k v).map (·.1)).zip ws'))) (Ext.write hp nf) (c.write hp nf ⟨nf, _, upd_same, e2.mono (Ext.write hp nf)⟩)
          · cases e
        · cases e
      · cases e
    · rename_i kvs hi
      split at e
      · split at e
        · split at e
          · rename_i xs k hk hl
            cases e
            obtain ⟨nf, ws, h1, h2⟩ := c.ob i _ p hi hp
            obtain ⟨ws', e1, e2⟩ := put_rel (k := k) rv h2
            have hb : ∃ pb, y = .ref pb ∧ z.H pb = some (.tup (k.map kV)) := by
              cases rb with
              | tup f t l _ => rw [keysD_v hk l] at t; exact ⟨_, rfl, t⟩
              | tupF f x d l t => rw [keysD_turns hk] at t; cases t
              | tupK => exact absurd rfl hl.2
            obtain ⟨pb, rfl, hb⟩ := hb
            refine .inr ⟨p, _, rfl, .inr ⟨_, k, pb, h1, rfl, hb, by rw [put_len h2]; exact hl.1, rfl⟩, ?_⟩
            rw [e1]
            exact q (z.upd p (.dT (((put kvs k v).map (·.1)).zip ws'))) (Ext.write hp nf) (c.write hp nf ⟨nf, _, upd_same, e2.mono (Ext.write hp nf)⟩)
          · cases e
        · cases e
      · cases e
    · cases e
  · cases e
theorem pset_or {t t' : TSet} (h : PSet X t) (h' : PSet X t') : PSet X (fun o i v H Q => t o i v H Q ∨ t' o i v H Q) := fun pins s σ H o i v ov iv u Q I ro ri rv q => q.elim (h pins s σ H o i v ov iv u Q I ro ri rv) (h' pins s σ H o i v ov iv u Q I ro ri rv)
theorem ag2_sub {o i : Expr} {fo fi : Sl → Hh → Out A} (hu : X.A.units + 1 < cLine) (ho : AE g X o fo) (hi : AE g X i fi) (hn : notSlice i = true) :
    AG2 g X (.Subscript o i pos) (fun v s h => (fo s h).bind fun a h1 => (fi s h1).bind fun b h2 => match setA a b v h2 with | some h3 => .ok s h3 | none => .no) := by
  refine PG.impM (pg_sub (ho _ takesF) (hi _ takesF) (pset_or set_list (set_dict hu)) (fun v => by cases i <;> first | rfl | cases hn)) fun v σ H Q ⟨vv, s, h, z, hz, c, rv, rs, w⟩ => ?_
  refine ⟨s, h, z, hz, c, rs, Out.wp_mono (Out.wp_bind w) (fun a h1 w1 va z1 e1 c1 ra => ?_) fun _ _ q => q.elim⟩
  refine ⟨s, h1, z1, rfl, c1, rs.mono e1, Out.wp_mono (Out.wp_bind w1) (fun b h2 w2 vb z2 e2 c2 rb => ?_) fun _ _ q => q.elim⟩
  cases es : setA a b vv h2 with
  | none => rw [es] at w2; exact w2.elim
  | some h3 =>
    rw [es] at w2
    exact setA_ok c2 (ra.mono e2) rb (rv.mono (e1.trans e2)) es fun z3 e3 c3 => w2 σ z3 ((e1.trans e2).trans e3) c3 (rs.mono ((e1.trans e2).trans e3))
theorem as_asg2 {t e : Expr} {f : Sl → Hh → Out A} {ft : A → Sl → Hh → Out Sl} (he : AE g X e f) (ht : AG2 g X t ft) (hs : swapsWithSole [t] e pos.line X.env = pure false) (hw : swappedStores [t] e X.env = pure none) (h1 : (assignEach [t] X.env).map (·.2) = [assign t X.env]) :
    AS g X (.Assign [t] e pos) (fun s h => (f s h).st s fun a h1 => match ft a s h1 with | .ok s' h2 => .nx s' h2 | _ => .no) := by
  intro W tk
  refine (ps_asg (he W tk) ht hs hw h1).impM fun D σ H ⟨s, h, z, hz, c, rs, w⟩ => ?_
  refine ⟨s, h, z, hz, c, rs, Out.wp_mono (Out.wp_st w) (fun a h1 w1 v z1 e1 c1 r1 => ?_) fun _ _ q => q.at rs⟩
  refine ⟨a, s, h1, z1, rfl, c1, r1, rs.mono e1, ?_⟩
  cases ef : ft a s h1 with
  | no => rw [ef] at w1; exact w1.elim
  | ex e h' => rw [ef] at w1; exact w1.elim
  | ok s' h' =>
    rw [ef] at w1
    exact slK.ext e1 w1
/-- a, b, c = x, y, w -/
theorem as_par3 {i j l : Nat} {x y w0 : Str} {a b c0 : Expr} {fs : Sl → Hh → Out (List A)} {px py pz pt : Pos} {kt k2 pt2} (hc : X.calm = true) (hN : X.N.Nodup) (hi : X.N[i]? = some x) (hj : X.N[j]? = some y) (hl : X.N[l]? = some w0) (hij : i ≠ j) (hil : i ≠ l) (hjl : j ≠ l)
    (hx : X.env.scope.names.lookup x = some .local) (hy : X.env.scope.names.lookup y = some .local) (hz : X.env.scope.names.lookup w0 = some .local)
    (ha : AA g X [a, b, c0] fs) (hw : swappedStores [.Tuple [.Name x px, .Name y py, .Name w0 pz] kt pt] (.Tuple [a, b, c0] k2 pt2) X.env = pure (some [x, y, w0])) (hs : swapsWithSole [.Tuple [.Name x px, .Name y py, .Name w0 pz] kt pt] (.Tuple [a, b, c0] k2 pt2) pos.line X.env = pure false) :
    AS g X (.Assign [.Tuple [.Name x px, .Name y py, .Name w0 pz] kt pt] (.Tuple [a, b, c0] k2 pt2) pos) (fun s h => (fs s h).st s fun as h1 => match as with | [u, v, w] => .nx (((s.set i (some u)).set j (some v)).set l (some w)) h1 | _ => .no) := by
  intro W tk
  refine (ps_par3 hc hN hi hj hl hij hil hjl hx hy hz (ha W tk) hw hs).impM fun D σ H ⟨s, h, z, hz, c, rs, w⟩ => ?_
  refine ⟨s, h, z, hz, c, rs, Out.wp_mono (Out.wp_st w) (fun as h1 w1 vs z1 e1 c1 r1 => ?_) fun _ _ q => q.at rs⟩
  split at w1
  · cases r1 with
    | cons a1 r => cases r with
      | cons a2 r => cases r with
        | cons a3 r => cases r; exact ⟨_, _, _, rfl, w1 _ z1 e1 c1 ((((rs.mono e1).set a1).set a2).set a3)⟩
  · exact w1.elim

/-! ### while -/
def whileN (ft : Sl → Hh → Out Bool) (fb : Sl → Hh → OS) : Nat → Sl → Hh → OS
  | 0, _, _ => .no
  | n + 1, s, h => (ft s h).st s fun k h1 => if k = true then (match fb s h1 with
    | .nx s2 h2 => whileN ft fb n s2 h2
    | .ct s2 h2 => whileN ft fb n s2 h2
    | .bk s2 h2 => .nx s2 h2
    | o => o) else .nx s h1
open Classical in
noncomputable def whileF (ft : Sl → Hh → Out Bool) (fb : Sl → Hh → OS) (s : Sl) (h : Hh) : OS := if hx : ∃ n, whileN ft fb n s h ≠ .no then whileN ft fb hx.choose s h else .no
theorem as_while {ce : Expr} {body : List Stmt} {ft : Sl → Hh → Out Bool} {fb : Sl → Hh → OS} (hp : PassesOwn (model X.prog X.w) X.A X.env X.xe) (hc : AT g X ce ft) (hb : ASs g X body fb) : AS g X (.While ce body [] pos) (whileF ft fb) := by
  intro W tk
  refine (ps_while hp (hc W tk) (hb W tk)).impM fun D σ H ⟨s, h, z, hz, c, rs, w⟩ => ?_
  have ⟨n, wn⟩ : ∃ n, (whileN ft fb n s h).wp (slK X.K g z D.nx) (slK X.K g z D.bk) (slK X.K g z D.ct) (okK X.K g z D.rt) (exS X.K g z W) := by
    unfold whileF at w
    split at w
    · exact ⟨_, w⟩
    · exact w.elim
  refine ⟨fun m σ' H' => ∃ s' h' z', z'.H = H' ∧ Cn X.K g z' h' ∧ RelSl X.K g z' s' σ' ∧ (whileN ft fb m s' h').wp (slK X.K g z' D.nx) (slK X.K g z' D.bk) (slK X.K g z' D.ct) (okK X.K g z' D.rt) (exS X.K g z' W), ⟨n, s, h, z, hz, c, rs, wn⟩, ?_⟩
  rintro m σ' H' ⟨s', h', z', rfl, c', rs', w'⟩
  cases m with
  | zero => exact w'.elim
  | succ m =>
    rw [whileN] at w'
    refine ⟨s', h', z', rfl, c', rs', Out.wp_mono (Out.wp_st w') (fun k h1 w1 z1 e1 c1 => ?_) fun _ _ q => q.at rs'⟩
    cases k with
    | false =>
      rw [if_neg (by decide)] at w1 ⊢
      exact w1 σ' z1 e1 c1 (rs'.mono e1)
    | true =>
      rw [if_pos rfl] at w1 ⊢
      refine ⟨fun σ2 H2 => ∃ s2 h2 z2, z2.H = H2 ∧ Cn X.K g z2 h2 ∧ RelSl X.K g z2 s2 σ2 ∧ (whileN ft fb m s2 h2).wp (slK X.K g z2 D.nx) (slK X.K g z2 D.bk) (slK X.K g z2 D.ct) (okK X.K g z2 D.rt) (exS X.K g z2 W), fun σ2 H2 q => ⟨m, Nat.lt_succ_self m, q⟩, ?_⟩
      refine ⟨s', h1, z1, rfl, c1, rs'.mono e1, ?_⟩
      cases eb : fb s' h1 with
      | no => rw [eb] at w1; exact w1
      | rt a2 h2 => rw [eb] at w1; exact okK.ext e1 w1
      | ex e2 s2 h2 => rw [eb] at w1; exact exS.ext e1 w1
      | bk s2 h2 => rw [eb] at w1; exact slK.ext e1 w1
      | nx s2 h2 =>
        rw [eb] at w1
        exact fun σ2 z2 e2 c2 rs2 => ⟨s2, h2, z2, rfl, c2, rs2, OS.wp_ext (e1.trans e2) w1⟩
      | ct s2 h2 =>
        rw [eb] at w1
        exact fun σ2 z2 e2 c2 rs2 => ⟨s2, h2, z2, rfl, c2, rs2, OS.wp_ext (e1.trans e2) w1⟩
/-- more turns change nothing -/
theorem whileN_mono {ft : Sl → Hh → Out Bool} {fb : Sl → Hh → OS} : ∀ {n m : Nat} {s : Sl} {h : Hh}, n ≤ m → whileN ft fb n s h ≠ .no → whileN ft fb m s h = whileN ft fb n s h
  | 0, _, _, _, _, hn => (hn rfl).elim
  | n + 1, 0, _, _, hl, _ => by omega
  | n + 1, m + 1, s, h, hl, hn => by
    rw [whileN] at hn ⊢
    rw [whileN]
    cases ef : ft s h with
    | no => rfl
    | ex e h' => rfl
    | ok k h1 =>
      rw [ef] at hn
      rw [Out.st_ok] at hn ⊢
      rw [Out.st_ok]
      cases k with
      | false => rfl
      | true =>
        rw [if_pos rfl] at hn ⊢
        rw [if_pos rfl]
        cases eb : fb s h1 with
        | nx s2 h2 => rw [eb] at hn; exact whileN_mono (by omega) hn
        | ct s2 h2 => rw [eb] at hn; exact whileN_mono (by omega) hn
        | _ => rfl
theorem whileF_eq {ft : Sl → Hh → Out Bool} {fb : Sl → Hh → OS} {n : Nat} {s : Sl} {h : Hh} {r : OS} (e : whileN ft fb n s h = r) (hr : r ≠ .no) : whileF ft fb s h = r := by
  have hx : ∃ n, whileN ft fb n s h ≠ .no := ⟨n, by rw [e]; exact hr⟩
  unfold whileF
  rw [dif_pos hx, ← e]
  have h1 := hx.choose_spec
  have h2 : whileN ft fb n s h ≠ .no := by rw [e]; exact hr
  rcases Nat.le_total hx.choose n with hl | hl
  · exact (whileN_mono hl h1).symm
  · exact whileN_mono hl h2
end
end MP
end S_MPp
section S_MPq
/-! MPq: what a call leaves behind: the callee's own objects are forgotten, what it gives back is frozen. -/
namespace MP
open PySem L2

def A.below (n : Nat) : A → Bool
  | .d _ => true
  | .ref i => decide (i < n)
def O.below (n : Nat) : O → Bool
  | .lst xs => xs.all (A.below n)
  | .dk kvs => kvs.all fun kv => A.below n kv.2
  | .dt kvs => kvs.all fun kv => A.below n kv.2
  | .ins _ fs => fs.all (A.below n)
  | .dead => true
def cut (n : Nat) (h : Hh) : Option Hh := if n ≤ h.length ∧ (h.take n).all (O.below n) = true then some (h.take n) else none
theorem cut_some {n : Nat} {h h' : Hh} (e : cut n h = some h') : n ≤ h.length ∧ h' = h.take n ∧ ∀ o ∈ h.take n, o.below n = true := by
  unfold cut at e
  split at e
  · rename_i q
    cases e
    exact ⟨q.1, rfl, List.all_eq_true.mp q.2⟩
  · cases e
section
variable {g : Gm} {K : PySem.W.Frag} {z0 z : Zn} {h : Hh}
/-- the first n of the mutable ones, with more frozen -/
abbrev Zn.cutS (z : Zn) (n : Nat) (S : Addr → Prop) : Zn := { z with rho := z.rho.take n, F := fun q => z.F q ∨ S q }
mutual
theorem RelD.rho {rho : List Addr} : ∀ {x : D} {v : V}, RelD K g z x v → RelD K g { z with rho := rho } x v
  | _, _, .non => .non
  | _, _, .bl b => .bl b
  | _, _, .int i => .int i
  | _, _, .str x => .str x
  | _, _, .tup f r l t => .tup f r (RelL.rho l) t
  | _, _, .tupF f r d l t => .tupF f r d (RelL.rho l) t
  | _, _, .tupK k => .tupK k
  | _, _, .lst f r l => .lst f r (RelL.rho l)
  | _, _, .dk f r n l => .dk f r n (RelL.rho l)
  | _, _, .dt f r n l => .dt f r n (RelL.rho l)
  | _, _, .obj f r a n l => .obj f r a n (RelL.rho l)
  | _, _, .fn f => .fn f
  | _, _, .cls c => .cls c
  | _, _, .scr f r => .scr f r
  | _, _, .scrK k => .scrK k
theorem RelL.rho {rho : List Addr} : ∀ {x : List D} {v : List V}, RelL K g z x v → RelL K g { z with rho := rho } x v
  | _, _, .nil => .nil
  | _, _, .cons a b => .cons (RelD.rho a) (RelL.rho b)
end
theorem RelD.cutS {n : Nat} {S : Addr → Prop} {x : D} {v : V} (r : RelD K g z x v) : RelD K g (z.cutS n S) x v := by
  have e : ExtW z { z with F := fun q => z.F q ∨ S q } := ⟨⟨[], by simp⟩, fun _ h => .inl h, fun _ _ _ h => h⟩
  exact RelD.rho (RelD.monoW e r)
theorem RelL.cutS {n : Nat} {S : Addr → Prop} {x : List D} {v : List V} (r : RelL K g z x v) : RelL K g (z.cutS n S) x v := by
  have e : ExtW z { z with F := fun q => z.F q ∨ S q } := ⟨⟨[], by simp⟩, fun _ h => .inl h, fun _ _ _ h => h⟩
  exact RelL.rho (RelL.monoW e r)
theorem RelA.cutS {n : Nat} {S : Addr → Prop} {a : A} {v : V} (hb : a.below n = true) (r : RelA K g z a v) : RelA K g (z.cutS n S) a v := by
  cases a with
  | d x => exact RelD.cutS r
  | ref i =>
    obtain ⟨p, hp, rfl⟩ := r
    have hi : i < n := by simpa [A.below] using hb
    exact ⟨p, by show (z.rho.take n)[i]? = some p; rw [List.getElem?_take_of_lt hi]; exact hp, rfl⟩
theorem RelAs.cutS {n : Nat} {S : Addr → Prop} : ∀ {a : List A} {v : List V}, a.all (A.below n) = true → RelAs K g z a v → RelAs K g (z.cutS n S) a v
  | _, _, _, .nil => .nil
  | _, _, hb, .cons r t => by
    rw [List.all_cons, Bool.and_eq_true] at hb
    exact .cons (RelA.cutS hb.1 r) (RelAs.cutS hb.2 t)
theorem RelO.cutS {n : Nat} {S : Addr → Prop} {o : O} {p : Addr} (hb : o.below n = true) (hS : ¬ S p) (r : RelO K g z o p) : RelO K g (z.cutS n S) o p := by
  cases o with
  | lst xs => obtain ⟨hF, vs, h1, h2⟩ := r; exact ⟨fun x => x.elim hF hS, vs, h1, h2.cutS hb⟩
  | dk xs =>
    obtain ⟨hF, vs, h1, h2⟩ := r
    refine ⟨fun x => x.elim hF hS, vs, h1, h2.cutS ?_⟩
    rw [List.all_map]; exact hb
  | dt xs =>
    obtain ⟨hF, vs, h1, h2⟩ := r
    refine ⟨fun x => x.elim hF hS, vs, h1, h2.cutS ?_⟩
    rw [List.all_map]; exact hb
  | ins c fs => obtain ⟨hF, dx, vs, h1, h3, h2⟩ := r; exact ⟨fun x => x.elim hF hS, dx, vs, h1, h3, h2.cutS hb⟩
  | dead => trivial
/-- z0: ahead of the call, z: behind it; S: what is frozen now, none of it was there -/
theorem Ext.cutS {n : Nat} {S : Addr → Prop} (e : Ext z0 z) (hn : z0.rho.length = n) (hS : ∀ p, S p → z0.H p = none) : Ext z0 (z.cutS n S) := by
  obtain ⟨t, et, ft⟩ := e.pre
  refine ⟨⟨[], ?_, fun p hp => by cases hp⟩, fun p h => .inl (e.fz p h), e.rx, e.st, fun p h => h.elim (e.fn p) fun hs => .inr (.inl (hS p hs)), e.al⟩
  show z.rho.take n = z0.rho ++ []
  rw [et, ← hn]; simp
theorem Cn.cutS {n : Nat} {S : Addr → Prop} {h' : Hh} (c : Cn K g z h) (e : cut n h = some h') (hS : ∀ p, S p → (∃ o, z.H p = some o) ∧ p ∉ z.rho.take n) : Cn K g (z.cutS n S) h' := by
  obtain ⟨hl, rfl, hb⟩ := cut_some e
  refine ⟨?_, ?_, fun p hp => c.rt p (List.mem_of_mem_take hp), fun p hp => hp.elim (c.ft p) fun hs => (hS p hs).1, fun i o p h1 h2 => ?_⟩
  · show (z.rho.take n).length = (h.take n).length
    rw [List.length_take, List.length_take, c.len]
  · show (z.rho.take n).Nodup
    exact List.Sublist.nodup (List.take_sublist n z.rho) c.nd
  · have hi : i < n := by
      have := (List.getElem?_eq_some_iff.mp h1).1
      rw [List.length_take] at this
      omega
    have h2' : (z.rho.take n)[i]? = some p := h2
    have nS : ¬ S p := fun hs => (hS p hs).2 (List.mem_of_getElem? h2')
    rw [List.getElem?_take_of_lt hi] at h2'
    have h1' := h1
    rw [List.getElem?_take_of_lt hi] at h1'
    exact RelO.cutS (hb o (List.mem_of_getElem? h1)) nS (c.ob i o p h1' h2')
/-- what a call gives back -/
def retA (n : Nat) (a : A) (h : Hh) : Option (A × Hh) := match a with
  | .d x => (cut n h).map fun h' => (.d x, h')
  | .ref i => if i < n then (cut n h).map fun h' => (.ref i, h') else match h[i]? with
    | some (.lst xs) => match allD xs with
      | some ds => (cut n h).map fun h' => (.d (.lst ds), h')
      | none => none
    | some (.dk kvs) => match allD (kvs.map (·.2)) with
      | some ds => (cut n h).map fun h' => (.d (.dk ((kvs.map (·.1)).zip ds)), h')
      | none => none
    | some (.dt kvs) => match allD (kvs.map (·.2)) with
      | some ds => (cut n h).map fun h' => (.d (.dt ((kvs.map (·.1)).zip ds)), h')
      | none => none
    | _ => none
theorem map_some {α β : Type} {o : Option α} {f : α → β} {b : β} (e : o.map f = some b) : ∃ a, o = some a ∧ f a = b := by
  cases o with
  | none => cases e
  | some a => cases e; exact ⟨a, rfl, rfl⟩
theorem tail_new {n i : Nat} {p : Addr} (e : Ext z0 z) (hn : z0.rho.length = n) (nd : z.rho.Nodup) (hi : ¬ i < n) (hp : z.rho[i]? = some p) : z0.H p = none ∧ p ∉ z.rho.take n := by
  obtain ⟨t, et, ft⟩ := e.pre
  refine ⟨ft p ?_, fun hm => ?_⟩
  · rw [et, List.getElem?_append_right (by omega)] at hp
    exact List.mem_of_getElem? hp
  · obtain ⟨j, hj⟩ := List.getElem?_of_mem hm
    have hj2 : j < n := by
      have := (List.getElem?_eq_some_iff.mp hj).1
      rw [List.length_take] at this
      omega
    rw [List.getElem?_take_of_lt hj2] at hj
    have := nodup_get nd hp hj
    omega
theorem retA_ok {n : Nat} {a : A} {v : V} {r : A × Hh} {Q : VK} (e : Ext z0 z) (hn : z0.rho.length = n) (c : Cn K g z h) (ra : RelA K g z a v) (er : retA n a h = some r) (q : okK K g z0 Q r.1 r.2) : Q v z.H := by
  unfold retA at er
  split at er
  · obtain ⟨h', ec, rfl⟩ := map_some er
    exact q v (z.cutS n fun _ => False) (e.cutS hn fun _ x => x.elim) (c.cutS ec fun _ x => x.elim) (RelD.cutS ra)
  · rename_i i
    obtain ⟨p, hp, rfl⟩ := ra
    split at er
    · rename_i hi
      obtain ⟨h', ec, rfl⟩ := map_some er
      exact q _ (z.cutS n fun _ => False) (e.cutS hn fun _ x => x.elim) (c.cutS ec fun _ x => x.elim) (RelA.cutS (a := .ref i) (by simpa [A.below] using hi) ⟨p, hp, rfl⟩)
    · rename_i hi
      obtain ⟨t1, t2⟩ := tail_new e hn c.nd hi hp
      split at er
      · rename_i xs hx
        split at er
        · rename_i ds hd
          obtain ⟨h', ec, rfl⟩ := map_some er
          obtain ⟨_, vs, h1, h2⟩ := c.ob i _ p hx hp
          rw [allD_eq hd] at h2
          refine q _ (z.cutS n fun q => q = p) (e.cutS hn fun _ x => x ▸ t1) (c.cutS ec fun _ x => x ▸ ⟨⟨_, h1⟩, t2⟩) (RelD.lst (.inr rfl) h1 (RelL.cutS (RelL.ofAs h2)))
        · cases er
      · rename_i xs hx
        split at er
        · rename_i ds hd
          obtain ⟨h', ec, rfl⟩ := map_some er
          obtain ⟨_, vs, h1, h2⟩ := c.ob i _ p hx hp
          rw [allD_eq hd] at h2
          have hl : (xs.map (·.1)).length = vs.length := by
            have := h2.length
            have h3 := congrArg List.length (allD_eq hd)
            simp at this h3 ⊢
            omega
          refine q _ (z.cutS n fun q => q = p) (e.cutS hn fun _ x => x ▸ t1) (c.cutS ec fun _ x => x ▸ ⟨⟨_, h1⟩, t2⟩) (RelD.dk (.inr rfl) (.of h1) hl (RelL.cutS (RelL.ofAs h2)))
        · cases er
      · rename_i xs hx
        split at er
        · rename_i ds hd
          obtain ⟨h', ec, rfl⟩ := map_some er
          obtain ⟨_, vs, h1, h2⟩ := c.ob i _ p hx hp
          rw [allD_eq hd] at h2
          have hl : (xs.map (·.1)).length = vs.length := by
            have := h2.length
            have h3 := congrArg List.length (allD_eq hd)
            simp at this h3 ⊢
            omega
          refine q _ (z.cutS n fun q => q = p) (e.cutS hn fun _ x => x ▸ t1) (c.cutS ec fun _ x => x ▸ ⟨⟨_, h1⟩, t2⟩) (RelD.dt (.inr rfl) (.of h1) hl (RelL.cutS (RelL.ofAs h2)))
        · cases er
      · cases er
/-- an instance that is done: frozen -/
def objA (n c : Nat) (lay : Nat) (i : Nat) (h : Hh) : Option (A × Hh) := match h[i]? with
  | some (.ins c' fs) => if c' = c ∧ fs.length = lay ∧ ¬ i < n then (match allD fs with
    | some ds => (cut n h).map fun h' => (.d (.obj c ds), h')
    | none => none) else none
  | _ => none
theorem objA_ok {n c i : Nat} {p : Addr} {r : A × Hh} {Q : VK} (e : Ext z0 z) (hn : z0.rho.length = n) (cc : Cn K g z h) (hp : z.rho[i]? = some p) (er : objA n c (g.lay c).length i h = some r) (q : okK K g z0 Q r.1 r.2) : Q (.ref p) z.H := by
  unfold objA at er
  split at er
  · split at er
    · rename_i c' fs hx hc
      obtain ⟨rfl, hl, hi⟩ := hc
      split at er
      · rename_i ds hd
        obtain ⟨h', ec, rfl⟩ := map_some er
        obtain ⟨t1, t2⟩ := tail_new e hn cc.nd hi hp
        obtain ⟨_, dx, vs, h1, h3, h2⟩ := cc.ob i _ p hx hp
        rw [hl, List.take_length] at h1
        have h4 := h2.length
        rw [allD_eq hd] at h2
        exact q _ (z.cutS n fun q => q = p) (e.cutS hn fun _ x => x ▸ t1) (cc.cutS ec fun _ x => x ▸ ⟨⟨_, h1⟩, t2⟩) (RelD.obj (.inr rfl) h1 rfl (by omega) (RelL.cutS (RelL.ofAs h2)))
      · cases er
    · cases er
  · cases er
end
end MP
end S_MPq
section S_MQ0
/-! MQ0: promises of defs that run where no repr is under way. -/
namespace MP
open PySem L2 PySem.Spec PyProof.Rows

structure FnG (P : Program) (w : World) (K : PySem.W.Frag) (mg : Str → Option Value) (base : Heap) (CX : CXT) (k : Nat) (f : Addr) (fd : FuncData) (ps : List Str) (sp : Sp) : Prop where
  len : ∀ vs H Q E, sp vs H Q E → vs.length = ps.length
  run : ∀ (A : Around) (outer : List Env) (s : Shared) (H : Hp) (args : Args) (us : List Value) (vs : List V) (Q : VK) (E : XK), Room k A → A.guards = some [] → Env0 P w K mg base A outer s H → BindsTo s fd args (ps.zip us) → Vals vs us → sp vs H Q E →
    codeAny (model P w) A (.call (.ref f) args) (CR CX outer P w H s Q E) s
theorem FnG.more {P : Program} {w : World} {K : PySem.W.Frag} {mg : Str → Option Value} {base : Heap} {CX : CXT} {i j : Nat} {f : Addr} {fd : FuncData} {ps : List Str} {sp : Sp} (F : FnG P w K mg base CX i f fd ps sp) (h : i ≤ j) : FnG P w K mg base CX j f fd ps sp :=
  ⟨F.len, fun A outer s H args us vs Q E hr hg => F.run A outer s H args us vs Q E (hr.mono h) hg⟩
/-- a def of the text, by its body -/
theorem fun_ok {P : Program} {w : World} {K : PySem.W.Frag} {mg : Str → Option Value} {base : Heap} {CX : CXT} {x qual : Str} {params : Arguments} {body : List Stmt} {scope : Scope} {dvs : List V} {kws : List (Str × V)} {f : Addr} {fd : FuncData} {N ps : List Str} {k : Nat} {sp : Sp} (F : FunD K x qual params body scope dvs kws f fd) (S : FnScope N ps scope)
    (len : ∀ vs H Q E, sp vs H Q E → vs.length = ps.length)
    (hb : ∀ (cdv : Value) (A : Around) (outer : List Env) (s : Shared) (H : Hp) (vs : List V) (Q : VK) (E : XK), Room k (A.deeper (envOfC qual scope s.heap.objs.size f cdv)) → (A.deeper (envOfC qual scope s.heap.objs.size f cdv)).guards = some [] → sp vs H Q E →
      ∃ t, PSs (cxOf CX P w K mg base N qual scope f cdv A outer s H E) body t ∧ t { nx := fun _ H' => Q .non H', rt := Q } (L2.start N vs) H) : FnG P w K mg base CX (k + 1) f fd ps sp := by
  obtain ⟨oc, od, dV, kV, doc, pm, an, cdv, ct, osl, efd, lk, hcd, _, _⟩ := F.ex
  subst efd
  refine ⟨len, fun A outer s H args us vs Q E rm gd e0 bt rv pr => ?_⟩
  have hlen := len vs H Q E pr
  have inK : K.In s.heap := e0.mod.kin.keeps fun b o q => (e0.bs b o q).1
  have noL : s.heap.NoLimit := e0.mod.nolimit.keeps fun b o q => (e0.bs b o q).1
  have kinds : ∀ y ∈ ps.zip us, scope.names.lookup y.1 = some .local ∨ (scope.names.lookup y.1 = some .cell ∧ ((cellsFrom (s.heap.objs.size + 1) scope.names []).lookup y.1).isSome = true) := by
    rintro ⟨m, v⟩ hy
    rcases S.par m (List.of_mem_zip hy).1 with z | z
    · exact .inl z
    · exact .inr ⟨z, PySem.W.cellsFrom_some _ _ _ (.inl z)⟩
  refine codeAny_call_function rm.depth (inK _ _ lk) rfl S.co S.gen rfl (PySem.W.codeRec_of inK hcd) (bt _ _ _ _ (wpAny_newFunctionEnv_cells S.kind kinds fun env he s1 q => ?_))
  subst he
  refine ⟨noL.keeps q.toInCall.keep, codeAny_func ?_⟩
  obtain ⟨t, ht, hq⟩ := hb cdv A outer s H vs Q E (rm.deeper _) (by first | exact gd | simpa [Around.deeper] using gd) pr
  have J0 : L2.Inv (cxOf CX P w K mg base N qual scope f cdv A outer s H E) [] (L2.start N vs) H s1 := inv_start S rm.hd e0 hlen rv q
  refine wpAny_mono (ht.run [] s1 (L2.start N vs) H _ J0 hq) (fun fl s' hs => ?_) fun e s' hs => hs
  have done : ∀ {σ' : L2.St} {H' : Hp} {v : V} {u : Value}, L2.Inv (cxOf CX P w K mg base N qual scope f cdv A outer s H E) [] σ' H' s' → RelV v u → Q v H' → CE outer P w H s Q u s' := fun {σ' H' v u} J r z => ⟨v, H', J.os, J.bare, J.base, J.hok, r, z⟩
  cases fl with
  | ret u => obtain ⟨v, σ', H', J, r, z⟩ := hs; exact done J r z
  | next => obtain ⟨σ', H', J, z⟩ := hs; exact done (v := V.non) (u := Value.none) J rfl z
  | brk => obtain ⟨_, _, _, z⟩ := hs; exact z.elim
  | cont => obtain ⟨_, _, _, z⟩ := hs; exact z.elim
/-- where a class is made -/
theorem make_guards {A : Around} {C : Addr} {us : List Value} {kw : List (Str × Value)} (h : A.guards = some []) : (A.under (.builtin "type.__call__" ⟨.ref C :: us, kw⟩)).guards = some [] := by
  first | exact h | (simp [Around.under, Code.guards, Code.isGuard, guardIds, pushGuards, h])

/-! ### the law's call -/
theorem law_end {P : Program} {w : World} {K : PySem.W.Frag} {mg mb : Str → Option Value} {CX : CXT} {k : Nat} {fa a : Addr} {fd : FuncData} {x : Str} {sp : Sp} {s₁ : Shared} {vs : List Value} {ns : List Int}
    (KX : K.In s₁.heap) (hns : s₁.heap.Ns mainGlobals mg) (hmb : s₁.heap.Ns builtinsNs mb) (hbb : ∀ x : Str, x ≠ "__name__" → mb x = bootBuiltins x) (hlim : s₁.heap.NoLimit) (hgen : s₁.gens = #[])
    (ha : s₁.heap.get? a = some { cls := .type "list", data := .seq vs.toArray }) (hi : IntsAre vs ns) (hl : ns.length ≤ sizeLine) (hr : Room k callerA)
    (F : ∀ base : Heap, K.In base → base.Ns mainGlobals mg → FnG P w K mg base CX k fa fd [x] sp) (bnd : ∀ (s : Shared) (u : Value), BindsTo s fd ⟨[u], []⟩ [(x, u)])
    (prom : ∀ H : Hp, L2.Only H → SqL K H a (ns.map V.int) → sp [.ref a] H (fun v _ => v = .bl true) fun _ _ _ => False)
    (noX : ∀ H e s', CX [] H s₁ (fun _ _ _ => False) e s' → False) :
    codeAny (model P w) callerA (.call (.ref fa) ⟨[.ref a], []⟩) (fun r s' => r = .ok (.ret (.bool true)) ∧ OldK s₁.heap s'.heap ∧ s'.os = s₁.os ∧ AllBare s'.gens) s₁ := by
  have rv := vals_ints hi
  have lenV := hi.length
  have heart : ∀ H : Hp, L2.Only H → SqL K H a (ns.map V.int) → HOk P w H s₁.heap → (∀ b, H b ≠ none → b = a) → (H a ≠ none → K.lookup a = none) →
      codeAny (model P w) callerA (.call (.ref fa) ⟨[.ref a], []⟩) (fun r s' => r = .ok (.ret (.bool true)) ∧ OldK s₁.heap s'.heap ∧ s'.os = s₁.os ∧ AllBare s'.gens) s₁ := by
    intro H onl hS hok only kno
    have hid : ∀ {b : Addr} {o : Obj}, s₁.heap.get? b = some o → H b = none → (hidT s₁.heap H).get? b = some o := fun q n => hidT_get q n
    have tabs : ∀ {b : Addr} {o : Obj} {es : Array DictEntry} {ep : Nat}, s₁.heap.get? b = some o → o.data = .dict es ep → H b = none := by
      intro b o es ep q d
      cases hb : H b with
      | none => rfl
      | some u =>
        have eb : b = a := only b (by rw [hb]; simp)
        rw [eb, ha] at q
        cases q
        cases (show Data.seq vs.toArray _ = Data.dict es ep from d)
    have nss : ∀ {b : Addr} {m : Str → Option Value}, s₁.heap.Ns b m → (hidT s₁.heap H).Ns b m := fun {b m} ⟨o, es, ep, q, d, r⟩ => ⟨o, es, ep, hid q (tabs q d), d, r⟩
    have kb : K.In (hidT s₁.heap H) := by
      intro b o q
      refine hid (KX b o q) ?_
      cases hb : H b with
      | none => rfl
      | some u =>
        have eb : b = a := only b (by rw [hb]; simp)
        rw [eb, kno (by rw [← eb, hb]; simp)] at q
        cases q
    have md : Mod K mg (hidT s₁.heap H) := ⟨kb, nss hns, ⟨mb, nss hmb, hbb⟩, let ⟨mc, h1, h2⟩ := hlim; ⟨mc, nss h1, h2⟩⟩
    have ev : Env0 P w K mg (hidT s₁.heap H) callerA [] s₁ H := ⟨rfl, md, fun b o q => of_hidT q, Nat.le_of_eq (hidT_size _ _), trivial, fun b hb => absurd (show b ∈ ([] : List Addr) from hb) (by simp), hok, .of_eq hgen⟩
    refine codeAny_mono ((F _ kb (nss hns)).run callerA [] s₁ H ⟨[.ref a], []⟩ [.ref a] [.ref a] _ _ hr rfl ev (bnd s₁ (.ref a)) (.cons rfl .nil) (prom H onl hS)) fun r s' h => ?_
    cases r with
    | error e => exact (noX H e s' h).elim
    | ok fl =>
      cases fl with
      | next => exact h.elim
      | brk => exact h.elim
      | cont => exact h.elim
      | ret u =>
        obtain ⟨v, H', os, bare, un, hok', r', qv⟩ := h
        obtain rfl : v = .bl true := qv
        obtain rfl : u = Value.bool true := r'
        refine ⟨rfl, OldK.of_keep fun b o q => ?_, os, bare⟩
        rcases onl b with z | ⟨ob, xs, z⟩
        · exact un.keep b o q z (fun z => by cases z) (by simp)
        · obtain ⟨e1, _⟩ := hok b _ z
          obtain ⟨e2, _⟩ := hok' b _ (un.frzs b ob _ z)
          rw [q] at e1
          cases e1
          exact e2
  cases hk : K.lookup a with
  | some o =>
    have q := KX a o hk
    rw [ha] at q
    cases q
    exact heart (fun _ => none) (fun _ => .inl rfl) (.inr ⟨_, vs.toArray, _, hk, rfl, rfl, rfl, by rw [List.size_toArray, lenV]; exact hl, by simpa using rv⟩) (fun b u z => nomatch z) (fun b z => (z rfl).elim) fun z => (z rfl).elim
  | none =>
    refine heart (fun b => if b = a then some (.frz { cls := .type "list", data := .seq vs.toArray } (.lst (ns.map V.int))) else none) (fun b => ?_) (.inl (.inr ⟨{ cls := .type "list", data := .seq vs.toArray }, if_pos rfl⟩)) (fun b u z => ?_) (fun b z => ?_) fun _ => hk
    · by_cases eb : b = a
      · exact .inr ⟨_, _, if_pos eb⟩
      · exact .inl (if_neg eb)
    · by_cases eb : b = a
      · have z' := (if_pos eb).symm.trans z
        cases z'
        rw [eb]
        exact ⟨ha, by rw [List.length_map]; exact hl, vs, _, rv, ha⟩
      · have z' := (if_neg eb).symm.trans z
        cases z'
    · by_cases eb : b = a
      · exact eb
      · exact absurd (if_neg eb) z
theorem walk_end {l : PySem.W.OpenLaw} {n k : Nat} {q : Program} {loose : List Str} {XP : (Str → Option Value) → Heap → Prop} {YP : World → Heap → Prop} {d : DefRec} {CX : CXT} {x : Str}
    (hn : l.most = some n) (hn2 : n ≤ sizeLine) (hdf : d.params.defaults = []) (hr : Room k callerA)
    (F : ∀ (w : World) (mg : Str → Option Value) (fa : Addr) (h : Heap), YP w h → h.Ns mainGlobals mg → mg d.name = some (.ref fa) →
      ∃ (K : PySem.W.Frag) (fd : FuncData) (sp : Sp), K.In h ∧ (∀ (s : Shared) (u : Value), BindsTo s fd ⟨[u], []⟩ [(x, u)]) ∧
        (∀ (H : Hp) (a : Addr) (ns : List Int), ns.length ≤ n → L2.Only H → SqL K H a (ns.map V.int) → sp [.ref a] H (fun v _ => v = .bl true) fun _ _ _ => False) ∧
        ∀ base : Heap, K.In base → base.Ns mainGlobals mg → FnG l.prog w K mg base CX k fa fd [x] sp)
    (noX : ∀ (H : Hp) (s : Shared) (e : Value) (s' : Shared), CX [] H s (fun _ _ _ => False) e s' → False) :
    PySem.W.WalkO q loose XP YP l.row.toRowW d [] (fun f vs => PySem.call f vs) := by
  refine Att.attach_call hn hdf fun w s₀ s₁ mg mb fa o pm cd doc a vs ns G Y ho hd hcd hmg hobj hints hlen hg => ?_
  obtain ⟨K, fd, sp, kx, bn, pr, fg⟩ := F w mg fa _ Y G.T.g hmg
  exact law_end kx G.T.g G.T.b G.T.builtins G.T.nolimit hg hobj hints (Nat.le_trans hlen hn2) hr fg bn (fun H hO hS => pr H a ns hlen hO hS) fun H e s' => noX H s₁ e s'
end MP
end S_MQ0
section S_MPr
/-! MPr: calls of defs, methods, classes. -/
namespace MP
open PySem L2

abbrev CallT := Nat → List A → Hh → Out A
def exE (K : PySem.W.Frag) (g : Gm) (z : Zn) (E : XK) : D → Hh → Prop := fun e h' => ∀ cls d z', Ext z z' → Cn K g z' h' → RelX K g z' e cls d → E cls d z'.H
/-- what a def promises -/
def spF (K : PySem.W.Frag) (g : Gm) (C : CallT) (n f : Nat) : Sp := fun vs H Q E => vs.length = n ∧ ∃ as h z, z.H = H ∧ Cn K g z h ∧ RelAs K g z as vs ∧ (C f as h).wp (okK K g z Q) (exE K g z E)

/-- how the parameters are filled: a written value by its place, or a default -/
abbrev Fill := List (Nat ⊕ D)
def fillA : Fill → List A → Option (List A)
  | [], _ => some []
  | .inl i :: r, as => match as[i]?, fillA r as with
    | some a, some q => some (a :: q)
    | _, _ => none
  | .inr d :: r, as => (fillA r as).map (.d d :: ·)
structure BindOk (K : PySem.W.Frag) (g : Gm) (fd : FuncData) (ps : List Str) (n : Nat) (ks : List Str) (sh : Fill) : Prop where
  to : ∀ (s : Shared) (us ws : List Value) (vs zs : List V), K.In s.heap → us.length = n → ws.length = ks.length → Vals vs us → Vals zs ws →
    ∃ us' vs', BindsTo s fd ⟨us, ks.zip ws⟩ (ps.zip us') ∧ Vals vs' us' ∧ ∀ z as as', RelAs K g z as (vs ++ zs) → fillA sh as = some as' → RelAs K g z as' vs'

section
variable {g : Gm} {X : Cx} {pos apos p : Pos}
/-- the callee runs -/
theorem run_fnW {pins : List (Addr × Obj)} {σ : St} {H : Hp} {s : Shared} {Q : VK} {us us' : List Value} {kw : List (Str × Value)} {vs : List V} {W : WX} {k : Nat} {f : Addr} {fd : FuncData} {ps : List Str} {sp : Sp} (F : FnG X.prog X.w X.K X.mg X.base (L2.CX X.prog X.w) k f fd ps sp) (hr : Room k X.A) (hgd : X.A.guards = some []) (tk : Takes X W)
    (hb : BindsTo s fd ⟨us, kw⟩ (ps.zip us')) (I : Inv X pins σ H s) (r : Vals vs us') (h : sp vs H Q (fun cls d H' => W cls d σ H')) : wpAny (model X.prog X.w) X.A (call (.ref f) us kw) (EP X pins σ Q) X.xe s := by
  refine wpAny_call (codeAny_mono (F.run X.A X.stack s H ⟨us, kw⟩ us' vs Q _ hr hgd I.env0 hb r h) fun r s' hq => ?_)
  cases r with
  | error e => exact passAt tk σ pins H s e s' I hq
  | ok fl =>
    cases fl with
    | ret u => exact I.after hq
    | next => exact False.elim hq
    | brk => exact False.elim hq
    | cont => exact False.elim hq

/-! ### keywords -/
def AK (g : Gm) (X : Cx) (kws : List Keyword) (f : Sl → Hh → Out (List A)) : Prop := ∀ W, Takes X W → PK X kws (liftA X.K g W f)
theorem PK.impM {kws : List Keyword} {t t' : TA} (h : PK X kws t) (w : ∀ σ H Q, t' σ H Q → t σ H Q) : PK X kws t' := ⟨fun pos pins s σ H Q I q => h.run pos pins s σ H Q I (w σ H Q q)⟩
theorem ak_nil : AK g X [] (fun _ h => .ok [] h) := by
  intro W tk
  refine PK.impM pk_nil fun σ H Q ⟨s, h, z, hz, c, rs, w⟩ => ?_
  subst hz
  exact w [] z (Ext.refl z) c .nil
theorem ak_cons {nm : Option Str} {e : Expr} {kp : Pos} {kws : List Keyword} {f : Sl → Hh → Out A} {fs : Sl → Hh → Out (List A)} (h1 : AE g X e f) (h2 : AK g X kws fs) : AK g X (⟨nm, e, kp⟩ :: kws) (fun s h => (f s h).bind fun a h1 => (fs s h1).bind fun as h2 => .ok (a :: as) h2) := by
  intro W tk
  refine PK.impM (pk_cons (h1 W tk) (h2 W tk)) fun σ H Q ⟨s, h, z, hz, c, rs, w⟩ => ?_
  refine ⟨s, h, z, hz, c, rs, Out.wp_mono (Out.wp_bind w) (fun a h1 w1 v z1 e1 c1 r1 => ?_) fun _ _ q => q⟩
  refine ⟨s, h1, z1, rfl, c1, rs.mono e1, Out.wp_mono (Out.wp_bind w1) (fun as h2 w2 vs z2 e2 c2 r2 => ?_) fun _ _ q => q.ext e1⟩
  exact w2 _ z2 (e1.trans e2) c2 (.cons (r1.mono e2) r2)
/-- the keywords' names -/
def kwNames : List Keyword → Option (List Str)
  | [] => some []
  | ⟨some n, _, _⟩ :: r => (kwNames r).map (n :: ·)
  | ⟨none, _, _⟩ :: _ => none
theorem kw_facts {env : Env} : ∀ {kws : List Keyword} {ks : List Str}, kwNames kws = some ks → (backToKw pos (keywordEach kws env)).all (·.1.isSome) = true ∧ (backToKw pos (keywordEach kws env)).filterMap (·.1) = ks ∧ (backToKw pos (keywordEach kws env)).any (·.1.isNone) = false
  | [], _, h => by cases h; exact ⟨rfl, rfl, rfl⟩
  | ⟨some n, e, kp⟩ :: r, ks, h => by
    obtain ⟨q, e1, e2⟩ := map_some h
    subst e2
    obtain ⟨h1, h2, h3⟩ := kw_facts (env := env) e1
    unfold backToKw at h1 h2 h3 ⊢
    rw [keywordEach]
    refine ⟨?_, ?_, ?_⟩
    · rw [List.map_cons, List.all_cons, h1]; rfl
    · rw [List.map_cons, List.filterMap_cons, h2]
    · rw [List.map_cons, List.any_cons, h3]; rfl
  | ⟨none, e, kp⟩ :: r, ks, h => by cases h
/-- the arguments of a call, then the call -/
theorem callw {pins : List (Addr × Obj)} {s : Shared} {σ : St} {H : Hp} {f : Value} {first : List Value} {es : List Expr} {kws : List Keyword} {ks : List Str} {t tk : TA} {R : List V → List V → Hp → Prop} {Q : Value → Shared → Prop} (I : Inv X pins σ H s) (hk : PySem.W.keepIn X.K f = true) (hn : noStar es = true) (hks : kwNames kws = some ks) (ha : PA X es t) (h0 : es = [] → ∀ σ H Q, t σ H Q → Q [] H) (hkw : PK X kws tk)
    (h : t σ H fun vs H1 => tk σ H1 fun zs H2 => R vs zs H2)
    (hR : ∀ us ws s2 vs zs H2, Inv X pins σ H2 s2 → Vals vs us → Vals zs ws → R vs zs H2 → wpAny (model X.prog X.w) X.A (call f (first ++ us) (ks.zip ws)) Q X.xe s2) :
    wpAny (model X.prog X.w) X.A (callWith pos f first (backTo pos (starEach es X.env)) (backToKw pos (keywordEach kws X.env))) Q X.xe s := by
  obtain ⟨k1, k2, k3⟩ := kw_facts (pos := pos) (env := X.env) hks
  cases es with
  | nil =>
    refine PySem.W.callWith_KW0 (h₀ := X.base) I.ok.mod.kin hk k1 (thn (hkw.run pos pins s σ H _ I (h0 rfl σ H _ h)) fun ws s2 ⟨zs, H2, I2, rz, q2⟩ => ⟨I2.kIn, ?_⟩) (by rw [k3]; rfl)
    rw [k2]
    exact hR [] ws s2 [] zs H2 I2 .nil rz q2
  | cons e es =>
    refine PySem.W.callWith_KW (h₀ := X.base) I.ok.mod.kin hk k1 (thn (ha.run pos pins s σ H _ I h) fun us s1 ⟨vs, H1, I1, r, q⟩ => ?_) (by rw [noStar_any hn, k3]; rfl) (star_cons (noStar_cons hn).1)
    refine thn (hkw.run pos pins s1 σ H1 _ I1 q) fun ws s2 ⟨zs, H2, I2, rz, q2⟩ => ⟨I2.kIn, ?_⟩
    rw [k2]
    exact hR us ws s2 vs zs H2 I2 r rz q2
theorem lift_nil {K : PySem.W.Frag} {W : WX} {fs : Sl → Hh → Out (List A)} (e : fs = fun _ h => .ok [] h) : ∀ σ H Q, liftA K g W fs σ H Q → Q [] H := by
  subst e
  intro σ H Q ⟨s, h, z, hz, c, rs, w⟩
  subst hz
  exact w [] z (Ext.refl z) c .nil

/-! ### f(..) -/
/-- the arguments of a call, filled up -/
def argF (n m : Nat) (sh : Fill) (fs fk : Sl → Hh → Out (List A)) (s : Sl) (h : Hh) : Out (List A) :=
  (fs s h).bind fun as h1 => (fk s h1).bind fun bs h2 => if as.length = n ∧ bs.length = m then opt (fillA sh (as ++ bs)) h2 else .no
/-- the same, with an object ahead -/
def argF1 (n m : Nat) (sh : Fill) (a : A) (fs fk : Sl → Hh → Out (List A)) (s : Sl) (h : Hh) : Out (List A) :=
  (fs s h).bind fun as h1 => (fk s h1).bind fun bs h2 => if as.length = n ∧ bs.length = m then opt (fillA sh (a :: (as ++ bs))) h2 else .no
def callF (C : CallT) (np f : Nat) (as : List A) (h : Hh) : Out A := if as.length = np then C f as h else .no
theorem RelSl.ex {K : PySem.W.Frag} {z z' : Zn} {s : Sl} {σ : St} {W : WX} {e : D} {h : Hh} (ez : Ext z z') (q : exK K g z σ W e h) : exE K g z' (fun cls d H' => W cls d σ H') e h := fun cls d z2 e2 c2 r2 => q cls d z2 (ez.trans e2) c2 r2
theorem ae_call {x : Str} {f np n : Nat} {ks : List Str} {sh : Fill} {fd : FuncData} {ps : List Str} {k : Nat} {C : CallT} {es : List Expr} {kws : List Keyword} {fs fk : Sl → Hh → Out (List A)} (F : FnG X.prog X.w X.K X.mg X.base (L2.CX X.prog X.w) k (g.fa f) fd ps (spF X.K g C np f)) (hr : Room k X.A) (hgd : X.A.guards = some []) (hg : Gl X x) (hm : X.mg x = some (.ref (g.fa f))) (hk : PySem.W.keepIn X.K (.ref (g.fa f)) = true)
    (hdb : (x == ("__debug__" : Str)) = false) (hb : BindOk X.K g fd ps n ks sh) (ha : AA g X es fs) (hnil : es = [] → fs = fun _ h => .ok [] h) (hkw : AK g X kws fk) (hn : noStar es = true) (hks : kwNames kws = some ks) :
    AE g X (.Call (.Name x p) es kws pos) (fun s h => (argF n ks.length sh fs fk s h).bind (callF C np f)) := by
  intro W tk
  refine ⟨fun pins s0 σ H Q I ⟨s, h, z, hz, c, rs, w⟩ => ?_⟩
  refine wpAny_Call_Name_kw (ld_glob I hg hm ?_ hdb)
  have w' : liftA X.K g W fs σ H fun vs H1 => liftA X.K g W fk σ H1 fun zs H2 => ∃ as bs h2 z2, z2.H = H2 ∧ Cn X.K g z2 h2 ∧ RelAs X.K g z2 as vs ∧ RelAs X.K g z2 bs zs ∧
      ((if as.length = n ∧ bs.length = ks.length then opt (fillA sh (as ++ bs)) h2 else .no).bind (callF C np f)).wp (okK X.K g z2 Q) (exK X.K g z2 σ W) := by
    have w1 := Out.wp_bind w
    unfold argF at w1
    refine ⟨s, h, z, hz, c, rs, Out.wp_mono (Out.wp_bind w1) (fun as h1 w2 vs z1 e1 c1 r1 => ?_) fun _ _ q => q⟩
    refine ⟨s, h1, z1, rfl, c1, rs.mono e1, Out.wp_mono (Out.wp_bind w2) (fun bs h2 w3 zs z2 e2 c2 r2 => ?_) fun _ _ q => q.ext e1⟩
    refine ⟨as, bs, h2, z2, rfl, c2, r1.mono e2, r2, ?_⟩
    have e12 := e1.trans e2
    split at w3
    · rename_i hl
      rw [if_pos hl]
      cases ef : fillA sh (as ++ bs) with
      | none => rw [ef] at w3; exact w3.elim
      | some as' =>
        rw [ef] at w3
        exact Out.wp_mono (show (callF C np f as' h2).wp _ _ from w3) (fun _ _ q => q.ext e12) fun _ _ q => q.ext e12
    · exact w3.elim
  refine callw I hk hn hks (ha W tk) (fun e0 => lift_nil (hnil e0)) (hkw W tk) w' fun us ws s2 vs zs H2 I2 rv rz ⟨as, bs, h2, z2, hz2, c2, ra, rb, w3⟩ => ?_
  subst hz2
  split at w3
  · rename_i hl
    cases ef : fillA sh (as ++ bs) with
    | none => rw [ef] at w3; exact w3.elim
    | some as' =>
      rw [ef] at w3
      have w4 : (callF C np f as' h2).wp (okK X.K g z2 Q) (exK X.K g z2 σ W) := w3
      unfold callF at w4
      split at w4
      · rename_i hnp
        obtain ⟨us', vs', hbt, rv', hrel⟩ := hb.to s2 us ws vs zs I2.kIn (by rw [← rv.length, ← ra.length]; exact hl.1) (by rw [← rz.length, ← rb.length]; exact hl.2) rv rz
        have ra' := hrel z2 _ _ (ra.append rb) ef
        exact run_fnW F hr hgd tk hbt I2 rv' ⟨by rw [← ra'.length]; exact hnp, as', h2, z2, rfl, c2, ra', Out.wp_mono w4 (fun _ _ q => q) fun _ _ q => RelSl.ex (s := s) (Ext.refl z2) q⟩
      · exact w4.elim
  · exact w3.elim

/-! ### C(..) -/
theorem run_makeW {pins : List (Addr × Obj)} {σ : St} {H : Hp} {s : Shared} {Q : VK} {us ws : List Value} {vs zs : List V} {W : WX} {k n : Nat} {C f : Addr} {fd : FuncData} {ps ks : List Str} {sh : Fill} {sp : Sp} (M : Mk X.K C f) (F : FnG X.prog X.w X.K X.mg X.base (L2.CX X.prog X.w) k f fd ps sp) (hr : Room (k + 1) X.A) (hgd : X.A.guards = some []) (tk : Takes X W)
    (hb : BindOk X.K g fd ps (n + 1) ks sh) (I : Inv X pins σ H s) (r : Vals vs us) (rz : Vals zs ws) (l1 : vs.length = n) (l2 : zs.length = ks.length)
    (h : ∀ x dx vs', H x = none → H dx = none → dx ≠ x → (∀ z as as', RelAs X.K g z as (.ref x :: vs ++ zs) → fillA sh as = some as' → RelAs X.K g z as' vs') → sp vs' (upd (upd H dx (.own x)) x (.ins C dx [])) (fun v H2 => v = .non ∧ Q (.ref x) H2) (fun cls d H' => W cls d σ H')) :
    wpAny (model X.prog X.w) X.A (call (.ref C) us (ks.zip ws)) (EP X pins σ Q) X.xe s := by
  have I2 := Inv.made (C := C) I
  have r1 : Vals (V.ref (s.heap.objs.size + 1) :: vs) (Value.ref (s.heap.objs.size + 1) :: us) := .cons rfl r
  obtain ⟨us', vs', hbt, rv', hrel⟩ := hb.to _ (Value.ref (s.heap.objs.size + 1) :: us) ws _ zs I2.kIn (r1.length.symm.trans (congrArg Nat.succ l1)) (rz.length.symm.trans l2) r1 rz
  have hq := h (s.heap.objs.size + 1) s.heap.objs.size vs' (I.hok.fresh (Nat.le_succ _)) (I.hok.fresh (Nat.le_refl _)) (Nat.ne_of_lt (Nat.lt_succ_self _)) hrel
  refine wpAny_call (make_map (f := f) I.kIn M.makes M.init (beq_iff_eq.mp M.fn) (codeAny_mono (F.run _ X.stack _ _ ⟨Value.ref (s.heap.objs.size + 1) :: us, ks.zip ws⟩ us' vs' _ _ (hr.make C us (ks.zip ws)) (make_guards hgd) (I2.env0.make C us (ks.zip ws)) hbt rv' hq) fun r s' hq' => ?_))
  cases r with
  | error e => exact passAt tk σ pins _ _ e s' I2 hq'
  | ok fl =>
    cases fl with
    | next => exact False.elim hq'
    | brk => exact False.elim hq'
    | cont => exact False.elim hq'
    | ret u =>
      obtain ⟨v, H3, I3, rv, e, q⟩ := I2.after (Q := fun v H2 => v = .non ∧ Q (.ref (s.heap.objs.size + 1)) H2) hq'
      subst e
      exact ⟨rv, ⟨V.ref (s.heap.objs.size + 1), H3, I3, rfl, q⟩⟩
def madeF (mu : Bool) (n c lay : Nat) (r : Out A) : Out A := match r with
  | .ok (.d .non) h3 => if mu then .ok (.ref n) h3 else optH (objA n c lay n h3)
  | .ex e h3 => match cut n h3 with
    | some h4 => .ex e h4
    | none => .no
  | _ => .no
def makeF (C : CallT) (mu : Bool) (c lay np f n m : Nat) (sh : Fill) (fs fk : Sl → Hh → Out (List A)) (s : Sl) (h : Hh) : Out A :=
  (fs s h).bind fun as h1 => (fk s h1).bind fun bs h2 => if as.length = n ∧ bs.length = m then (match fillA sh (.ref h2.length :: (as ++ bs)) with
    | some as' => madeF mu h2.length c lay (callF C np f as' (h2 ++ [.ins c []]))
    | none => .no) else .no
theorem RelX.cutS {K : PySem.W.Frag} {z : Zn} {n : Nat} {S : Addr → Prop} {e : D} {cls : Value} {d : Option Addr} (r : RelX K g z e cls d) : RelX K g (z.cutS n S) e cls d := by
  obtain ⟨c, fs, h1, h2, h3⟩ := r
  refine ⟨c, fs, h1, h2, ?_⟩
  rcases h3 with h3 | ⟨dx, vs, a1, a2, a3, a4, a5⟩
  · exact .inl h3
  · exact .inr ⟨dx, vs, a1, .inl a2, a3, a4, a5.cutS⟩
theorem make_with {c f np n : Nat} {mu : Bool} {ks : List Str} {sh : Fill} {fd : FuncData} {ps : List Str} {k : Nat} {C : CallT} {es : List Expr} {kws : List Keyword} {fs fk : Sl → Hh → Out (List A)} {W : WX} {pins : List (Addr × Obj)} {s0 : Shared} {σ : St} {H : Hp} {Q : VK} (M : Mk X.K (g.ca c) (g.fa f)) (F : FnG X.prog X.w X.K X.mg X.base (L2.CX X.prog X.w) k (g.fa f) fd ps (spF X.K g C np f)) (hr : Room (k + 1) X.A) (hgd : X.A.guards = some [])
    (hb : BindOk X.K g fd ps (n + 1) ks sh) (ha : AA g X es fs) (hnil : es = [] → fs = fun _ h => .ok [] h) (hkw : AK g X kws fk) (hn : noStar es = true) (hks : kwNames kws = some ks) (tk : Takes X W) (I : Inv X pins σ H s0) (lw : liftE X.K g W (makeF C mu c (g.lay c).length np f n ks.length sh fs fk) σ H Q) :
    wpAny (model X.prog X.w) X.A (callWith pos (.ref (g.ca c)) [] (backTo pos (starEach es X.env)) (backToKw pos (keywordEach kws X.env))) (EP X pins σ Q) X.xe s0 := by
  obtain ⟨s, h, z, hz, c0, rs, w⟩ := lw
  have w' : liftA X.K g W fs σ H fun vs H1 => liftA X.K g W fk σ H1 fun zs H2 => ∃ as bs h2 z2, z2.H = H2 ∧ Cn X.K g z2 h2 ∧ RelAs X.K g z2 as vs ∧ RelAs X.K g z2 bs zs ∧
      (if as.length = n ∧ bs.length = ks.length then (match fillA sh (.ref h2.length :: (as ++ bs)) with
        | some as' => madeF mu h2.length c (g.lay c).length (callF C np f as' (h2 ++ [O.ins c []]))
        | none => .no) else .no : Out A).wp (okK X.K g z2 Q) (exK X.K g z2 σ W) := by
    unfold makeF at w
    refine ⟨s, h, z, hz, c0, rs, Out.wp_mono (Out.wp_bind w) (fun as h1 w2 vs z1 e1 c1 r1 => ?_) fun _ _ q => q⟩
    refine ⟨s, h1, z1, rfl, c1, rs.mono e1, Out.wp_mono (Out.wp_bind w2) (fun bs h2 w3 zs z2 e2 c2 r2 => ?_) fun _ _ q => q.ext e1⟩
    have e12 := e1.trans e2
    exact ⟨as, bs, h2, z2, rfl, c2, r1.mono e2, r2, Out.wp_mono w3 (fun _ _ q => q.ext e12) fun _ _ q => q.ext e12⟩
  refine callw I M.kp hn hks (ha W tk) (fun e0 => lift_nil (hnil e0)) (hkw W tk) w' fun us ws s2 vs zs H2 I2 rv rz ⟨as, bs, h2, z2, hz2, c2, ra, rb, w3⟩ => ?_
  subst hz2
  split at w3
  · rename_i hl
    refine run_makeW (n := n) M F hr hgd tk hb I2 rv rz (by rw [← ra.length]; exact hl.1) (by rw [← rb.length]; exact hl.2) fun ax dx vs' hx hdx hne hrel => ?_
    cases ef : fillA sh (.ref h2.length :: (as ++ bs)) with
    | none => rw [ef] at w3; exact w3.elim
    | some as' =>
      rw [ef] at w3
      have w4 : (madeF mu h2.length c (g.lay c).length (callF C np f as' (h2 ++ [.ins c []]))).wp (okK X.K g z2 Q) (exK X.K g z2 σ W) := w3
      have hx' : (z2.upd dx (.own ax)).H ax = none := (upd_ne (Ne.symm hne)).trans hx
      have ez : Ext z2 ((z2.upd dx (.own ax)).new ax (.ins (g.ca c) dx [])) := (Ext.junk hdx).trans (Ext.alloc hx')
      have cz : Cn X.K g ((z2.upd dx (.own ax)).new ax (.ins (g.ca c) dx [])) (h2 ++ [.ins c []]) := by
        refine (c2.junk hdx).alloc hx' ⟨?_, dx, [], ?_, Nat.zero_le _, .nil⟩
        · exact fun hf => by
            obtain ⟨o, ho⟩ := c2.ft ax hf
            rw [hx] at ho; cases ho
        · show upd _ ax _ ax = _
          rw [upd_same]
          simp
      have rself : RelA X.K g ((z2.upd dx (.own ax)).new ax (.ins (g.ca c) dx [])) (.ref h2.length) (.ref ax) :=
        ⟨ax, by show (z2.rho ++ [ax])[h2.length]? = some ax; rw [List.getElem?_append_right (by rw [c2.len]; exact Nat.le_refl _), c2.len]; simp, rfl⟩
      have ra' := hrel _ _ _ (.cons rself ((ra.append rb).mono ez)) ef
      cases ec : callF C np f as' (h2 ++ [.ins c []]) with
      | no => rw [ec] at w4; exact w4.elim
      | ex e h3 =>
        unfold callF at ec
        split at ec
        · rename_i hnp
          refine ⟨by rw [← ra'.length]; exact hnp, as', h2 ++ [.ins c []], _, rfl, cz, ra', ?_⟩
          rw [ec]
          rw [callF, if_pos hnp, ec] at w4
          intro cls d z3 e3 c3 r3
          unfold madeF at w4
          dsimp only at w4
          split at w4
          · rename_i h4 hcut
            exact w4 cls d (z3.cutS h2.length fun _ => False) ((ez.trans e3).cutS c2.len fun _ x => x.elim) (c3.cutS hcut fun _ x => x.elim) r3.cutS
          · exact w4.elim
        · cases ec
      | ok a h3 =>
        unfold callF at ec
        split at ec
        · rename_i hnp
          refine ⟨by rw [← ra'.length]; exact hnp, as', h2 ++ [.ins c []], _, rfl, cz, ra', ?_⟩
          rw [ec]
          rw [callF, if_pos hnp, ec] at w4
          intro v z3 e3 c3 r3
          unfold madeF at w4
          split at w4
          · rename_i h3' eq
            cases eq
            cases r3
            refine ⟨rfl, ?_⟩
            have hp3 : z3.rho[h2.length]? = some ax := by
              obtain ⟨p, hp, e⟩ := rself.mono e3
              cases e
              exact hp
            split at w4
            · exact w4 _ z3 (ez.trans e3) c3 ⟨ax, hp3, rfl⟩
            · obtain ⟨r, er, q⟩ := optH_wp w4
              exact objA_ok (ez.trans e3) c2.len c3 hp3 er q
          · rename_i eq; cases eq
          · exact w4.elim
        · cases ec
  · exact w3.elim
theorem ae_make {x : Str} {c f np n : Nat} {mu : Bool} {ks : List Str} {sh : Fill} {fd : FuncData} {ps : List Str} {k : Nat} {C : CallT} {es : List Expr} {kws : List Keyword} {fs fk : Sl → Hh → Out (List A)} (M : Mk X.K (g.ca c) (g.fa f)) (F : FnG X.prog X.w X.K X.mg X.base (L2.CX X.prog X.w) k (g.fa f) fd ps (spF X.K g C np f)) (hr : Room (k + 1) X.A) (hgd : X.A.guards = some []) (hg : Gl X x) (hm : X.mg x = some (.ref (g.ca c)))
    (hdb : (x == ("__debug__" : Str)) = false) (hb : BindOk X.K g fd ps (n + 1) ks sh) (ha : AA g X es fs) (hnil : es = [] → fs = fun _ h => .ok [] h) (hkw : AK g X kws fk) (hn : noStar es = true) (hks : kwNames kws = some ks) :
    AE g X (.Call (.Name x p) es kws pos) (makeF C mu c (g.lay c).length np f n ks.length sh fs fk) := by
  intro W tk
  refine ⟨fun pins s0 σ H Q I lw => ?_⟩
  exact wpAny_Call_Name_kw (ld_glob I hg hm (make_with M F hr hgd hb ha hnil hkw hn hks tk I lw) hdb)
end
end MP
end S_MPr
section S_MPt
/-! MPt: fields, methods, properties. -/
namespace MP
open PySem L2
section
variable {g : Gm} {X : Cx} {pos apos p : Pos} {K : PySem.W.Frag} {z : Zn} {h : Hh}
/-- the class of an instance -/
def clsA (a : A) (h : Hh) : Option Nat := match a with
  | .d (.obj c _) => some c
  | .ref i => match h[i]? with
    | some (.ins c _) => some c
    | _ => none
  | _ => none
/-- the fields of an instance -/
def fldsA (a : A) (h : Hh) : Option (Nat × List A) := match a with
  | .d (.obj c xs) => some (c, xs.map .d)
  | .ref i => match h[i]? with
    | some (.ins c fs) => some (c, fs)
    | _ => none
  | _ => none
theorem fldsA_inv {a : A} {c : Nat} {fs : List A} {v : V} (cc : Cn K g z h) (e : fldsA a h = some (c, fs)) (r : RelA K g z a v) : ∃ p dx vs, v = .ref p ∧ z.H p = some (.ins (g.ca c) dx (((g.lay c).take fs.length).zip vs)) ∧ fs.length ≤ (g.lay c).length ∧ RelAs K g z fs vs := by
  unfold fldsA at e
  split at e
  · cases e
    cases r with
    | @obj _ q dx xs ns vs f x l n rl =>
      subst l
      have hl := rl.length
      refine ⟨q, dx, vs, rfl, ?_, ?_, RelAs.ofL rl⟩
      · rw [List.length_map, hl, ← n, List.take_length]; exact x
      · rw [List.length_map, hl, ← n]; exact Nat.le_refl _
  · rename_i i
    split at e
    · rename_i hi
      cases e
      obtain ⟨p, hp, rfl⟩ := r
      obtain ⟨_, dx, vs, h1, h3, h2⟩ := cc.ob i _ p hi hp
      exact ⟨p, dx, vs, rfl, h1, h3, h2⟩
    · cases e
  · cases e
theorem lookup_zip_none {f : Str} : ∀ {ns : List Str} {vs : List V}, f ∉ ns → (ns.zip vs).lookup f = none
  | [], _, _ => by simp
  | _ :: _, [], _ => by simp
  | n :: ns, v :: vs, h => by
    have h1 : (f == n) = false := by simp only [beq_eq_false_iff_ne]; exact fun e => h (by simp [e])
    simp only [List.zip_cons_cons, List.lookup, h1]
    exact lookup_zip_none fun hm => h (List.mem_cons_of_mem _ hm)
theorem lookup_zip {f : Str} : ∀ {ns : List Str} {vs : List V} {i : Nat} {v : V}, ns.idxOf? f = some i → vs[i]? = some v → (ns.zip vs).lookup f = some v
  | [], _, _, _, h, _ => by simp at h
  | n :: ns, [], i, v, _, h => by simp at h
  | n :: ns, w :: vs, i, v, h, hv => by
    rw [List.idxOf?_cons] at h
    by_cases e : (n == f) = true
    · rw [if_pos e] at h
      cases h
      simp at hv
      subst hv
      have : (f == n) = true := by rw [beq_iff_eq] at e ⊢; exact e.symm
      simp only [List.zip_cons_cons, List.lookup, this]
    · rw [if_neg e] at h
      obtain ⟨j, e1, e2⟩ := map_some h
      subst e2
      have h1 : (f == n) = false := by simp only [beq_eq_false_iff_ne]; exact fun x => e (by simp [x])
      simp only [List.zip_cons_cons, List.lookup, h1]
      exact lookup_zip e1 (by simpa using hv)
theorem idxOf_take {f : Str} : ∀ {ns : List Str} {i n : Nat}, ns.idxOf? f = some i → i < n → (ns.take n).idxOf? f = some i
  | [], _, _, h, _ => by simp at h
  | _ :: _, _, 0, _, h => by omega
  | m :: ns, i, n + 1, h, hl => by
    rw [List.take_succ_cons, List.idxOf?_cons]
    rw [List.idxOf?_cons] at h
    by_cases e : (m == f) = true
    · rw [if_pos e] at h ⊢; exact h
    · rw [if_neg e] at h ⊢
      obtain ⟨j, e1, e2⟩ := map_some h
      subst e2
      rw [idxOf_take e1 (by omega)]
      rfl
/-- a.f, a field of the instance -/
def fldA (lay : Nat → List Str) (f : Str) (a : A) (h : Hh) : Option A := match fldsA a h with
  | some (c, fs) => match (lay c).idxOf? f with
    | some i => fs[i]?
    | none => none
  | none => none
theorem ae_fld {o : Expr} {f : Str} {fo : Sl → Hh → Out A} (ho : AE g X o fo) (hb : notSup o = true) (hC : ∀ c, f ∈ g.lay c → Cls X.K (g.ca c) ∧ NoAttr X.K (g.ca c) f) : AE g X (.Attribute o f pos) (fun s h => (fo s h).bind fun a h1 => opt (fldA g.lay f a h1) h1) := by
  intro W tk
  refine (pe_fld (ho W tk) (base_eq hb)).impM fun σ H Q ⟨s, h, z, hz, c, rs, w⟩ => ?_
  refine ⟨s, h, z, hz, c, rs, Out.wp_mono (Out.wp_bind w) (fun a h1 w1 v z1 e1 c1 r1 => ?_) fun _ _ q => q⟩
  obtain ⟨r, er, q⟩ := opt_wp w1
  unfold fldA at er
  split at er
  · rename_i cn fs ef
    split at er
    · rename_i i hi
      obtain ⟨p, dx, vs, rfl, h1, h2, h3⟩ := fldsA_inv c1 ef r1
      obtain ⟨u, hu, ru⟩ := h3.get er
      have hlt : i < fs.length := (List.getElem?_eq_some_iff.mp er).1
      have hm : f ∈ g.lay cn := by
        have := List.isSome_idxOf?.mp (by rw [hi]; rfl : ((g.lay cn).idxOf? f).isSome = true)
        exact this
      obtain ⟨k1, k2⟩ := hC cn hm
      exact ⟨p, g.ca cn, dx, _, u, rfl, h1, k1, k2, lookup_zip (idxOf_take hi hlt) hu, (q.ext e1).same c1 ru⟩
    · cases er
  · cases er

/-! ### o.f = e -/
def setFA (lay : Nat → List Str) (f : Str) (a v : A) (h : Hh) : Option Hh := match a with
  | .ref i => match h[i]? with
    | some (.ins c fs) => match (lay c).idxOf? f with
      | some j => if j < fs.length then some (h.set i (.ins c (fs.set j v))) else if j = fs.length then some (h.set i (.ins c (fs ++ [v]))) else none
      | none => none
    | _ => none
  | _ => none
theorem putF_set {f : Str} {v : V} : ∀ {ns : List Str} {vs : List V} {j : Nat}, ns.idxOf? f = some j → ns.length = vs.length → putF f v (ns.zip vs) = ns.zip (vs.set j v)
  | [], _, _, h, _ => by simp at h
  | n :: ns, [], _, _, h => by simp at h
  | n :: ns, w :: vs, j, h, hl => by
    rw [List.idxOf?_cons] at h
    by_cases e : (n == f) = true
    · rw [if_pos e] at h
      cases h
      have : n = f := by simpa using e
      subst this
      simp [putF]
    · rw [if_neg e] at h
      obtain ⟨i, e1, e2⟩ := map_some h
      subst e2
      have : ¬ n = f := by simpa using e
      simp only [List.zip_cons_cons, putF, if_neg this, List.set_cons_succ]
      rw [putF_set e1 (by simpa using hl)]
theorem putF_new {f : Str} {v : V} : ∀ {ns : List Str} {vs : List V}, f ∉ ns → ns.length = vs.length → putF f v (ns.zip vs) = (ns ++ [f]).zip (vs ++ [v])
  | [], [], _, _ => rfl
  | [], _ :: _, _, h => by simp at h
  | n :: ns, [], _, h => by simp at h
  | n :: ns, w :: vs, h, hl => by
    have : ¬ n = f := fun e => h (by simp [e])
    simp only [List.zip_cons_cons, putF, if_neg this, List.cons_append]
    rw [putF_new (fun hm => h (List.mem_cons_of_mem _ hm)) (by simpa using hl)]
theorem idxOf_next {f : Str} {ns : List Str} {j : Nat} (h : ns.idxOf? f = some j) : f ∉ ns.take j ∧ ns.take (j + 1) = ns.take j ++ [f] ∧ j < ns.length := by
  induction ns generalizing j with
  | nil => simp at h
  | cons n ns ih =>
    rw [List.idxOf?_cons] at h
    by_cases e : (n == f) = true
    · rw [if_pos e] at h
      cases h
      have : n = f := by simpa using e
      simp [this]
    · rw [if_neg e] at h
      obtain ⟨i, e1, e2⟩ := map_some h
      subst e2
      obtain ⟨h1, h2, h3⟩ := ih e1
      have hne : ¬ f = n := fun x => e (by simp [x])
      refine ⟨?_, ?_, by simpa using h3⟩
      · rw [List.take_succ_cons]; simp [hne, h1]
      · rw [List.take_succ_cons, h2, List.take_succ_cons]; rfl
def notComp : Expr → Bool
  | .ListComp .. => false
  | .SetComp .. => false
  | .DictComp .. => false
  | _ => true
theorem swaps_no {e : Expr} {t : Option Expr} {l : Nat} {env : Env} (h : notComp e = true) : swapsWith e t l env = pure false := by
  cases e <;> first | rfl | cases h
theorem as_fld {o e : Expr} {f : Str} {fo fe : Sl → Hh → Out A} {p' : Pos} (ho : AE g X o fo) (he : AE g X e fe) (hn : notComp e = true) (hC : ∀ c, f ∈ g.lay c → Cls X.K (g.ca c) ∧ NoAttr X.K (g.ca c) f) (h1000 : ∀ c, (g.lay c).length < 1000) :
    AS g X (.Assign [.Attribute o f p'] e pos) (fun s h => (fe s h).st s fun v h1 => (fo s h1).st s fun a h2 => match setFA g.lay f a v h2 with | some h3 => .nx s h3 | none => .no) := by
  intro W tk
  refine (ps_fld (ho W tk) (he W tk) (swaps_no hn)).impM fun D σ H ⟨s, h, z, hz, c, rs, w⟩ => ?_
  refine ⟨s, h, z, hz, c, rs, Out.wp_mono (Out.wp_st w) (fun v h1 w1 y z1 e1 c1 r1 => ?_) fun _ _ q => q.at rs⟩
  refine ⟨s, h1, z1, rfl, c1, rs.mono e1, Out.wp_mono (Out.wp_st w1) (fun a h2 w2 x z2 e2 c2 r2 => ?_) fun _ _ q => (q.ext e1).at (rs.mono e1)⟩
  have e12 := e1.trans e2
  cases es : setFA g.lay f a v h2 with
  | none => rw [es] at w2; exact w2.elim
  | some h3 =>
    rw [es] at w2
    unfold setFA at es
    split at es
    · rename_i i
      split at es
      · rename_i cn fs hi
        split at es
        · rename_i j hj
          obtain ⟨q, hq, rfl⟩ := r2
          obtain ⟨nf, dx, vs, k1, k2, k3⟩ := c2.ob i _ q hi hq
          have hlen : ((g.lay cn).take fs.length).length = vs.length := by rw [← k3.length, List.length_take]; omega
          have hm : f ∈ g.lay cn := List.isSome_idxOf?.mp (by rw [hj]; rfl)
          obtain ⟨m1, m2⟩ := hC cn hm
          have hb := h1000 cn
          refine ⟨q, g.ca cn, dx, _, rfl, k1, m1, m2, by rw [List.length_zip, hlen, Nat.min_self, ← k3.length]; omega, ?_⟩
          split at es
          · rename_i hlt
            cases es
            rw [putF_set (idxOf_take hj hlt) hlen]
            refine w2 σ (z2.upd q (.ins (g.ca cn) dx (((g.lay cn).take fs.length).zip (vs.set j y)))) (e12.trans (Ext.write hq nf)) (c2.write hq nf ⟨nf, dx, vs.set j y, ?_, ?_, ?_⟩) (rs.mono (e12.trans (Ext.write hq nf)))
            · show upd z2.H q _ q = _
              rw [upd_same, List.length_set]
            · rw [List.length_set]; exact k2
            · exact (RelAs.set (r1.mono e2) j k3).mono (Ext.write hq nf)
          · split at es
            · rename_i heq
              cases es
              obtain ⟨t1, t2, t3⟩ := idxOf_next hj
              rw [← heq] at hlen ⊢
              rw [putF_new t1 hlen, ← t2]
              refine w2 σ (z2.upd q (.ins (g.ca cn) dx (((g.lay cn).take (j + 1)).zip (vs ++ [y])))) (e12.trans (Ext.write hq nf)) (c2.write hq nf ⟨nf, dx, vs ++ [y], ?_, ?_, ?_⟩) (rs.mono (e12.trans (Ext.write hq nf)))
              · show upd z2.H q _ q = _
                rw [upd_same, List.length_append, List.length_singleton, ← heq]
              · rw [List.length_append, List.length_singleton]; omega
              · exact (k3.append (.cons (r1.mono e2) .nil)).mono (Ext.write hq nf)
            · cases es
        · cases es
      · cases es
    · cases es
end
end MP
end S_MPt
section S_MPu
/-! MPu: methods, properties. -/
namespace MP
open PySem L2
section
variable {g : Gm} {X : Cx} {pos apos p : Pos} {K : PySem.W.Frag} {z : Zn} {h : Hh}
theorem clsA_flds {a : A} {c : Nat} (e : clsA a h = some c) : ∃ fs, fldsA a h = some (c, fs) := by
  unfold clsA at e
  split at e
  · cases e; exact ⟨_, rfl⟩
  · split at e
    · rename_i hi
      cases e
      exact ⟨_, by unfold fldsA; dsimp only; rw [hi]⟩
    · cases e
  · cases e
theorem clsA_inv {a : A} {c : Nat} {v : V} (cc : Cn K g z h) (e : clsA a h = some c) (r : RelA K g z a v) : ∃ p dx fs, v = .ref p ∧ z.H p = some (.ins (g.ca c) dx fs) ∧ ∀ m, m ∉ g.lay c → fs.lookup m = none := by
  obtain ⟨fs, ef⟩ := clsA_flds e
  obtain ⟨p, dx, vs, h1, h2, h3, h4⟩ := fldsA_inv cc ef r
  exact ⟨p, dx, _, h1, h2, fun m hm => lookup_zip_none fun hx => hm (List.mem_of_mem_take hx)⟩
theorem meth_eq {o : Expr} {m : Str} {es : List Expr} {kws : List Keyword} {ks : List Str} {env : Env} (hb : notSup o = true) (hn : noStar es = true) (hks : kwNames kws = some ks) (hlen : es.length + kws.length + 1 < 30) (hline : (apos.endLine == pos.line) = true) :
    eval (.Call (.Attribute o m apos) es kws pos) env = (do
      let ov ← eval o env
      standAt apos.atName
      let (f, first) ← holding [ov] (getMethod ov m (do return (← importBound o env).getD true))
      callWith pos f first (backTo pos (starEach es env)) (backToKw pos (keywordEach kws env))) := by
  obtain ⟨k1, k2, k3⟩ := kw_facts (pos := pos) (env := env) hks
  have hform : methodCallForm (es.length + kws.length) (backTo pos (starEach es env)) (backToKw pos (keywordEach kws env)) = true := by
    unfold methodCallForm
    rw [noStar_all hn, k1, Bool.and_self, Bool.true_and, decide_eq_true_eq]
    split <;> omega
  show (do
    let ov ← attributeBase o m env (eval o env)
    standAt apos.atName
    methodCall o m apos pos env ov (es.length + kws.length) (backTo pos (starEach es env)) (backToKw pos (keywordEach kws env))) = _
  rw [base_eq hb]
  unfold methodCall calleeOf methodCallPos
  rw [hform, hline]
  rfl
theorem ae_meth {o : Expr} {m : Str} {n : Nat} {ks : List Str} {k : Nat} {C : CallT} {tb : Nat → Option (Nat × Nat × Fill)} {es : List Expr} {kws : List Keyword} {fo : Sl → Hh → Out A} {fs fk : Sl → Hh → Out (List A)} (ho : AE g X o fo)
    (hM : ∀ c f np sh, tb c = some (f, np, sh) → Cls X.K (g.ca c) ∧ Meth X.K (g.ca c) m (g.fa f) ∧ m ∉ g.lay c ∧ ∃ fd ps, FnG X.prog X.w X.K X.mg X.base (L2.CX X.prog X.w) k (g.fa f) fd ps (spF X.K g C np f) ∧ BindOk X.K g fd ps (n + 1) ks sh) (hr : Room k X.A) (hgd : X.A.guards = some [])
    (ha : AA g X es fs) (hnil : es = [] → fs = fun _ h => .ok [] h) (hkw : AK g X kws fk) (hb : notSup o = true) (hn : noStar es = true) (hks : kwNames kws = some ks) (hlen : es.length + kws.length + 1 < 30) (hline : (apos.endLine == pos.line) = true) :
    AE g X (.Call (.Attribute o m apos) es kws pos) (fun s h => (fo s h).bind fun a h1 => match (clsA a h1).bind tb with | some (f, np, sh) => (argF1 n ks.length sh a fs fk s h1).bind (callF C np f) | none => .no) := by
  intro W tk
  refine ⟨fun pins s0 σ H Q I ⟨s, h, z, hz, c0, rs, w⟩ => ?_⟩
  have w' : liftE X.K g W fo σ H fun v H1 => ∃ a h1 z1, z1.H = H1 ∧ Cn X.K g z1 h1 ∧ RelSl X.K g z1 s σ ∧ RelA X.K g z1 a v ∧ (match (clsA a h1).bind tb with | some (f, np, sh) => (argF1 n ks.length sh a fs fk s h1).bind (callF C np f) | none => .no : Out A).wp (okK X.K g z1 Q) (exK X.K g z1 σ W) :=
    ⟨s, h, z, hz, c0, rs, Out.wp_mono (Out.wp_bind w) (fun a h1 w1 v z1 e1 c1 r1 => ⟨a, h1, z1, rfl, c1, rs.mono e1, r1, Out.wp_mono w1 (fun _ _ q => okK.ext e1 q) fun _ _ q => exK.ext e1 q⟩) fun _ _ q => q⟩
  refine PySem.W.methodCall_KW (pl := (do return (← importBound o X.env).getD true)) (thn ((ho W tk).run pins s0 σ H _ I w') fun u s1 ⟨x, H1, I1, rx, a, h1, z1, hz1, c1, rs1, ra, w1⟩ => ?_) (meth_eq hb hn hks hlen hline)
  subst hz1
  cases ec : clsA a h1 with
  | none => rw [ec] at w1; exact w1.elim
  | some c =>
    rw [ec] at w1
    have w1 : (match tb c with | some (f, np, sh) => (argF1 n ks.length sh a fs fk s h1).bind (callF C np f) | none => .no : Out A).wp (okK X.K g z1 Q) (exK X.K g z1 σ W) := w1
    cases et : tb c with
    | none => rw [et] at w1; exact w1.elim
    | some t =>
      obtain ⟨f, np, sh⟩ := t
      rw [et] at w1
      have w1 : ((argF1 n ks.length sh a fs fk s h1).bind (callF C np f)).wp (okK X.K g z1 Q) (exK X.K g z1 σ W) := w1
      obtain ⟨cl, me, nl, fd, ps, F, hbd⟩ := hM c f np sh et
      obtain ⟨q, dx, fl, rfl, hq, hlk⟩ := clsA_inv c1 ec ra
      obtain rfl : u = Value.ref q := rx
      refine getmeth_ok I1 hq cl me (hlk m nl) ?_
      have w' : liftA X.K g W fs σ z1.H fun vs H1 => liftA X.K g W fk σ H1 fun zs H2 => ∃ as bs h2 z2, z2.H = H2 ∧ Cn X.K g z2 h2 ∧ RelA X.K g z2 a (.ref q) ∧ RelAs X.K g z2 as vs ∧ RelAs X.K g z2 bs zs ∧
          ((if as.length = n ∧ bs.length = ks.length then opt (fillA sh (a :: (as ++ bs))) h2 else .no).bind (callF C np f)).wp (okK X.K g z2 Q) (exK X.K g z2 σ W) := by
        have w2 := Out.wp_bind w1
        unfold argF1 at w2
        refine ⟨s, h1, z1, rfl, c1, rs1, Out.wp_mono (Out.wp_bind w2) (fun as h2 w3 vs z2 e2 c2 r2 => ?_) fun _ _ q => q⟩
        refine ⟨s, h2, z2, rfl, c2, rs1.mono e2, Out.wp_mono (Out.wp_bind w3) (fun bs h3 w4 zs z3 e3 c3 r3 => ?_) fun _ _ q => q.ext e2⟩
        have e23 := e2.trans e3
        refine ⟨as, bs, h3, z3, rfl, c3, ra.mono e23, r2.mono e3, r3, ?_⟩
        split at w4
        · rename_i hl
          rw [if_pos hl]
          cases ef : fillA sh (a :: (as ++ bs)) with
          | none => rw [ef] at w4; exact w4.elim
          | some as' =>
            rw [ef] at w4
            exact Out.wp_mono (show (callF C np f as' h3).wp _ _ from w4) (fun _ _ q => q.ext e23) fun _ _ q => q.ext e23
        · exact w4.elim
      refine callw (first := [.ref q]) I1 me.kp hn hks (ha W tk) (fun e0 => lift_nil (hnil e0)) (hkw W tk) w' fun us ws s2 vs zs H2 I2 rv rz ⟨as, bs, h2, z2, hz2, c2, ra2, rb, rc, w3⟩ => ?_
      subst hz2
      split at w3
      · rename_i hl
        cases ef : fillA sh (a :: (as ++ bs)) with
        | none => rw [ef] at w3; exact w3.elim
        | some as' =>
          rw [ef] at w3
          have w4 : (callF C np f as' h2).wp (okK X.K g z2 Q) (exK X.K g z2 σ W) := w3
          unfold callF at w4
          split at w4
          · rename_i hnp
            have rv1 : Vals (V.ref q :: vs) ([Value.ref q] ++ us) := .cons rfl rv
            obtain ⟨us', vs', hbt, rv', hrel⟩ := hbd.to s2 ([.ref q] ++ us) ws (.ref q :: vs) zs I2.kIn (by rw [← rv1.length, List.length_cons, ← rb.length]; rw [hl.1]) (by rw [← rz.length, ← rc.length]; exact hl.2) rv1 rz
            have ra' := hrel z2 _ _ (.cons ra2 (rb.append rc)) ef
            exact run_fnW F hr hgd tk hbt I2 rv' ⟨by rw [← ra'.length]; exact hnp, as', h2, z2, rfl, c2, ra', Out.wp_mono w4 (fun _ _ q => q) fun _ _ q => RelSl.ex (s := s) (Ext.refl z2) q⟩
          · exact w4.elim
      · exact w3.elim

/-! ### properties: the getter does not raise -/
theorem own_prop {pins : List (Addr × Obj)} {σ : St} {H : Hp} {s : Shared} {Q : VK} {b : Bool} {E' : Value → Shared → Prop} {k : Nat} {C a dx q fg : Addr} {fs : List (Str × V)} {f : Str} {fd : FuncData} {ps : List Str} {sp : Sp} (I : L2.Inv X pins σ H s) (ea : H a = some (.ins C dx fs)) (c : Cls X.K C) (hp : PropOf X.K C f q fg)
    (F : FnG X.prog X.w X.K X.mg X.base (L2.CX X.prog X.w) k fg fd ps sp) (hr : Room (k + 1) X.A) (hgd : X.A.guards = some []) (hb : Binds X.K fd ps []) (h : sp [.ref a] H Q fun _ _ _ => False) :
    wpAny (model X.prog X.w) X.A (getAttr (.ref a) f b) (EP X pins σ Q) E' s := by
  obtain ⟨mA, O, _⟩ := ins_get I.hok ea
  obtain ⟨od, J, _⟩ := O.look
  obtain ⟨rest, hrec⟩ := hp.rec_
  have It := I.tok (s.toks + 1)
  have hl : [Value.ref a].length = ps.length := by rw [← F.len _ _ _ _ h]; rfl
  have hcl : (PySem.W.clsIn X.K C).isSome = true := by
    obtain ⟨cd, e, _⟩ := PySem.W.any_some c.hd
    rw [e]; rfl
  have bt := hb { s with toks := s.toks + 1 } [.ref a] It.kIn (by rw [List.append_nil]; exact hl)
  rw [List.append_nil] at bt
  refine PySem.W.get_bind I.kIn J (PySem.W.plainGet_of (c.get f)).1 (PySem.W.findObj_data hcl hp.at_ hp.get hp.tak) (PySem.W.plainGet_of (c.get f)).2 (wpAny_call (PySem.W.prop_get (s := { s with toks := s.toks + 1 }) I.kIn hrec ?_))
  refine codeAny_mono (F.run X.A.in1 X.stack { s with toks := s.toks + 1 } H ⟨[.ref a], []⟩ [.ref a] [.ref a] Q _ hr.in1 hgd It.env0.in1 bt (.cons rfl .nil) h) fun r s' hq => ?_
  cases r with
  | error er => obtain ⟨_, _, _, _, _, _, _, _, _, _, _, _, hf⟩ := hq; exact hf.elim
  | ok fl =>
    cases fl with
    | ret u =>
      obtain ⟨v, H', I3, rv, q3⟩ := It.after hq
      exact wpAny_of_eq (PySem.W.handedOut_of (L2.handed_of rv)) ⟨v, H', I3, rv, q3⟩
    | next => exact hq.elim
    | brk => exact hq.elim
    | cont => exact hq.elim
theorem ae_prop {o : Expr} {m : Str} {k : Nat} {C : CallT} {tb : Nat → Option Nat} {fo : Sl → Hh → Out A} (ho : AE g X o fo)
    (hM : ∀ c f, tb c = some f → Cls X.K (g.ca c) ∧ (∃ q, PropOf X.K (g.ca c) m q (g.fa f)) ∧ ∃ fd ps, FnG X.prog X.w X.K X.mg X.base (L2.CX X.prog X.w) k (g.fa f) fd ps (spF X.K g C 1 f) ∧ Binds X.K fd ps []) (hr : Room (k + 1) X.A) (hgd : X.A.guards = some []) (hb : notSup o = true) :
    AE g X (.Attribute o m pos) (fun s h => (fo s h).bind fun a h1 => match (clsA a h1).bind tb with | some f => (match C f [a] h1 with | .ok b h2 => .ok b h2 | _ => .no) | none => .no) := by
  intro W tk
  refine ⟨fun pins s0 σ H Q I ⟨s, h, z, hz, c0, rs, w⟩ => ?_⟩
  have w' : liftE X.K g W fo σ H fun v H1 => ∃ a h1 z1, z1.H = H1 ∧ Cn X.K g z1 h1 ∧ RelA X.K g z1 a v ∧ (match (clsA a h1).bind tb with | some f => (match C f [a] h1 with | .ok b h2 => .ok b h2 | _ => .no) | none => .no : Out A).wp (okK X.K g z1 Q) (exK X.K g z1 σ W) :=
    ⟨s, h, z, hz, c0, rs, Out.wp_mono (Out.wp_bind w) (fun a h1 w1 v z1 e1 c1 r1 => ⟨a, h1, z1, rfl, c1, r1, Out.wp_mono w1 (fun _ _ q => okK.ext e1 q) fun _ _ q => exK.ext e1 q⟩) fun _ _ q => q⟩
  refine attr_of (base_eq hb) (thn ((ho W tk).run pins s0 σ H _ I w') fun u s1 ⟨x, H1, I1, rx, a, h1, z1, hz1, c1, ra, w1⟩ => ?_)
  subst hz1
  cases ec : clsA a h1 with
  | none => rw [ec] at w1; exact w1.elim
  | some c =>
    rw [ec] at w1
    have w1 : (match tb c with | some f => (match C f [a] h1 with | .ok b h2 => .ok b h2 | _ => .no) | none => .no : Out A).wp (okK X.K g z1 Q) (exK X.K g z1 σ W) := w1
    cases et : tb c with
    | none => rw [et] at w1; exact w1.elim
    | some f =>
      rw [et] at w1
      have w1 : (match C f [a] h1 with | .ok b h2 => .ok b h2 | _ => .no : Out A).wp (okK X.K g z1 Q) (exK X.K g z1 σ W) := w1
      obtain ⟨cl, ⟨pp, po⟩, fd, ps, F, hbd⟩ := hM c f et
      obtain ⟨q, dx, fl, rfl, hq, hlk⟩ := clsA_inv c1 ec ra
      obtain rfl : u = Value.ref q := rx
      refine own_prop I1 hq cl po F hr hgd hbd ⟨rfl, [a], h1, z1, rfl, c1, .cons ra .nil, ?_⟩
      cases ef : C f [a] h1 with
      | ok b h2 => rw [ef] at w1; exact w1
      | ex e h2 => rw [ef] at w1; exact w1.elim
      | no => rw [ef] at w1; exact w1.elim
end
end MP
end S_MPu
section S_MPv
/-! MPv: len, str, bool, ==, != of own classes. -/
namespace MP
open PySem L2 PySem.Spec PyProof.Rows
section
variable {g : Gm} {X : Cx} {pos apos p : Pos} {K : PySem.W.Frag} {z : Zn} {h : Hh}
variable {pins : List (Addr × Obj)} {σ : L2.St} {H : Hp} {s : Shared}
/-- a def called somewhere below the running body, letting nothing out -/
theorem run_own {A : Around} {E : Value → Shared → Prop} {Q : VK} {us : List Value} {vs : List V} {k : Nat} {f : Addr} {fd : FuncData} {ps : List Str} {sp : Sp} (F : FnG X.prog X.w X.K X.mg X.base (L2.CX X.prog X.w) k f fd ps sp) (hr : Room k A) (hgd : A.guards = some []) (e0 : Env0 X.prog X.w X.K X.mg X.base A X.stack s H) (hb : Binds X.K fd ps [])
    (I : Inv X pins σ H s) (r : Vals vs us) (h : sp vs H Q (fun _ _ _ => False)) : wpAny (model X.prog X.w) A (call (.ref f) us) (EP X pins σ Q) E s := by
  have hl : us.length = ps.length := by rw [← r.length]; exact F.len _ _ _ _ h
  have b := hb s us I.kIn (by rw [List.append_nil]; exact hl)
  rw [List.append_nil] at b
  refine wpAny_call (codeAny_mono (F.run A X.stack s H ⟨us, []⟩ us vs Q _ hr hgd e0 b r h) fun r s' hq => ?_)
  cases r with
  | error e => obtain ⟨_, _, _, _, _, _, _, _, _, _, _, _, hf⟩ := hq; exact hf.elim
  | ok fl =>
    cases fl with
    | ret u => exact I.after hq
    | next => exact False.elim hq
    | brk => exact False.elim hq
    | cont => exact False.elim hq
/-- what is asked of a def for a special name -/
structure OwnD (X : Cx) (g : Gm) (C : CallT) (k c f np : Nat) (name : Str) : Prop where
  at_ : PySem.W.findIn X.K (.ref (g.ca c)) name = some (some (.ref (g.fa f)))
  fn : PySem.W.isFn X.K (.ref (g.fa f)) = true
  ok : ∃ fd ps, FnG X.prog X.w X.K X.mg X.base (L2.CX X.prog X.w) k (g.fa f) fd ps (spF X.K g C np f) ∧ Binds X.K fd ps []
theorem spF_of {C : CallT} {f n : Nat} {as : List A} {vs : List V} {Q : VK} {a : A} {h' : Hh} (c : Cn K g z h) (ra : RelAs K g z as vs) (hn : vs.length = n) (e : C f as h = .ok a h') (q : okK K g z Q a h') : spF K g C n f vs z.H Q (fun _ _ _ => False) :=
  ⟨hn, as, h, z, rfl, c, ra, by rw [e]; exact q⟩

/-! ### len -/
def lenO (C : CallT) (tb : Nat → Option Nat) : BF := fun as h => match as with
  | [a] => match (clsA a h).bind tb with
    | some f => match C f [a] h with
      | .ok (.d (.int n)) h2 => if 0 ≤ n ∧ n < 2 ^ 63 then some (.d (.int n), h2) else none
      | _ => none
    | none => lenA as h
  | _ => none
theorem bind_tb {α : Type} {o : Option Nat} {tb : Nat → Option α} {f : α} (e : o.bind tb = some f) : ∃ c, o = some c ∧ tb c = some f := by
  cases o with
  | none => cases e
  | some c => exact ⟨c, rfl, e⟩
theorem cr_lenO {C : CallT} {tb : Nat → Option Nat} {k : Nat} (hM : ∀ c f, tb c = some f → OwnD X g C k c f 1 "__len__") (hr : Room (k + 1) X.A) (hgd : X.A.guards = some []) : CallR X (.builtin "len") (liftC X.K g (lenO C tb)) := by
  intro pins s σ H xs us Q I rv ⟨as, h, z, r, hz, c, ra, e, q⟩
  subst hz
  unfold lenO at e
  split at e
  · rename_i a
    split at e
    · rename_i f hf
      obtain ⟨cn, ec, et⟩ := bind_tb hf
      split at e
      · split at e
        · rename_i n h2 eC hn
          cases e
          obtain ⟨v, rfl, r1⟩ := ra.one
          obtain ⟨m1, m2, fd, ps, F, hb⟩ := hM cn f et
          obtain ⟨pp, dx, fs, rfl, hp, _⟩ := clsA_inv c ec r1
          obtain ⟨mA, O, _, _, _, _⟩ := ins_get I.hok hp
          obtain ⟨od, J, _⟩ := O.look
          obtain ⟨m, hF⟩ := I.fr
          obtain ⟨u, rfl, ru⟩ := vals1 rv
          obtain rfl : u = Value.ref pp := ru
          refine PySem.W.len_K hF I.ok.mod.kin J m1 m2 (wpAny_mono (run_own (vs := [.ref pp]) F hr.in1 hgd I.env0.in1 hb I (.cons rfl .nil) (spF_of (Q := fun v H' => ∃ i : Int, v = .int i ∧ (0 ≤ i ∧ i < 2 ^ 63) ∧ Q (.int i) H') c ra rfl eC fun v z' ez cz rz => ?_)) (fun w s' hw => ?_) fun _ _ x => x)
          · cases rz
            exact ⟨n, rfl, hn, q _ z' ez cz (RelD.int n)⟩
          · obtain ⟨v, H', I', rw', i, rfl, hi, q'⟩ := hw
            obtain ⟨t, rfl⟩ := (show ∃ t, w = Value.int i t from rw')
            exact ⟨hi, .int i, H', I'.tok _, ⟨_, rfl⟩, q'⟩
        · cases e
      · cases e
    · exact cr_len pins s σ z.H xs us Q I rv ⟨_, h, z, r, rfl, c, ra, e, q⟩
  · cases e

/-! ### str -/
def strO (C : CallT) (tb : Nat → Option Nat) : BF := fun as h => match as with
  | [a] => match (clsA a h).bind tb with
    | some f => match C f [a] h with
      | .ok (.d (.str n)) h2 => some (.d (.str n), h2)
      | _ => none
    | none => strA as h
  | _ => none
theorem cr_strO {C : CallT} {tb : Nat → Option Nat} {k : Nat} (hM : ∀ c f, tb c = some f → OwnD X g C k c f 1 "__str__") (hr : Room (k + 2) X.A) (hgd : X.A.guards = some []) : CallR X (.type "str") (liftC X.K g (strO C tb)) := by
  intro pins s σ H xs us Q I rv ⟨as, h, z, r, hz, c, ra, e, q⟩
  subst hz
  unfold strO at e
  split at e
  · rename_i a
    split at e
    · rename_i f hf
      obtain ⟨cn, ec, et⟩ := bind_tb hf
      split at e
      · rename_i n h2 eC
        cases e
        obtain ⟨v, rfl, r1⟩ := ra.one
        obtain ⟨m1, m2, fd, ps, F, hb⟩ := hM cn f et
        obtain ⟨pp, dx, fs, rfl, hp, _⟩ := clsA_inv c ec r1
        obtain ⟨mA, O, _, _, _, _⟩ := ins_get I.hok hp
        obtain ⟨od, J, _⟩ := O.look
        obtain ⟨u, rfl, ru⟩ := vals1 rv
        obtain rfl : u = Value.ref pp := ru
        have hr2 : Room k X.A.in1.in1 := (show Room (k + 1) X.A.in1 from Room.in1 hr).in1
        refine PySem.W.kso_call hr2.units0 I.kIn J m1 m2 (wpAny_mono (run_own (vs := [.ref pp]) F hr2 hgd I.env0.in1.in1 hb I (.cons rfl .nil) (spF_of (Q := fun v H' => ∃ i : Str, v = .str i ∧ Q (.str i) H') c ra rfl eC fun v z' ez cz rz => ?_)) (fun w s' hw => ?_) fun _ _ x => x)
        · cases rz
          exact ⟨n, rfl, q _ z' ez cz (RelD.str n)⟩
        · obtain ⟨v, H', I', rw', i, rfl, q'⟩ := hw
          obtain ⟨t, rfl⟩ := (show ∃ t, w = Value.str i t from rw')
          exact ⟨.str i, H', I', ⟨_, rfl⟩, q'⟩
      · cases e
    · exact cr_strA pins s σ z.H xs us Q I rv ⟨_, h, z, r, rfl, c, ra, e, q⟩
  · cases e

/-! ### bool -/
theorem bool_of {prog : Program} {w : World} {A : Around} {E : Value → Shared → Prop} {s : Shared} {v : Value} {Q : Value → Shared → Prop} (h : wpAny (model prog w) A.in1.in1 (truthy v) (fun b s' => Q (.bool b) s') E s) : wpAny (model prog w) A (call (.type "bool") [v]) Q E s := by
  refine callType_codes (T := "bool") (Bi := Builtin.«object.__init__») (Q₁ := fun r s₁ => ∃ b, r = .bool b ∧ Q r s₁) PySem.F.called_bool (PySem.F.typeCall_bool_1 _) PySem.F.entry_object_init ?_ ?_
  · refine codeAny_of_tree ?_
    show wpAny _ A.in1.in1 (do checkBuiltinCall "bool.__new__" ⟨[.type "bool", v], []⟩; again (.builtin "bool.__new__" ⟨[.type "bool", v], []⟩)) _ _ s
    refine wpAny_bind (wpAny_of_eq (PySem.F.newCall_bool_1 _) (wpAny_pure ⟨plainId_quiet (by decide +kernel) _, codeAny_builtin PySem.F.entry_bool_new ?_⟩))
    rw [Around.under_plainId (by decide +kernel) _]
    unfold Builtin.«bool.__new__»
    refine wpAny_bind (wpAny_of_eq (a := true) rfl ?_)
    simp only [Bool.not_true, Bool.false_eq_true, if_false]
    refine wpAny_bind (wpAny_of_eq (a := true) PySem.F.conv_sub_bool ?_)
    simp only [Bool.not_true, Bool.false_eq_true, if_false]
    refine wpAny_bind (wpAny_of_eq (a := [v]) rfl ?_)
    refine wpAny_bind (wpAny_mono h (fun b s' hq => ?_) fun _ _ x => x)
    exact wpAny_pure ⟨b, rfl, hq⟩
  · rintro obj s₁ ⟨b, rfl, hq⟩
    exact ⟨PySem.typeIs_bool _ _, PySem.F.args_object_init_2 _ _, object_init_meets PySem.F.called_bool.init.lookup PySem.F.called_bool.made (by decide) prog w A.in1 _ s₁ ⟨PySem.typeIs_bool _ _, rfl, hq⟩⟩
def boolO (C : CallT) (tb : Nat → Option Nat) : BF := fun as h => match as with
  | [a] => match (clsA a h).bind tb with
    | some f => match C f [a] h with
      | .ok (.d (.bl n)) h2 => some (.d (.bl n), h2)
      | _ => none
    | none => boolA as h
  | _ => none
theorem cr_boolO {C : CallT} {tb : Nat → Option Nat} {k : Nat} (hM : ∀ c f, tb c = some f → OwnD X g C k c f 1 "__bool__") (hr : Room (k + 2) X.A) (hgd : X.A.guards = some []) : CallR X (.type "bool") (liftC X.K g (boolO C tb)) := by
  intro pins s σ H xs us Q I rv ⟨as, h, z, r, hz, c, ra, e, q⟩
  subst hz
  unfold boolO at e
  split at e
  · rename_i a
    split at e
    · rename_i f hf
      obtain ⟨cn, ec, et⟩ := bind_tb hf
      split at e
      · rename_i n h2 eC
        cases e
        obtain ⟨v, rfl, r1⟩ := ra.one
        obtain ⟨m1, m2, fd, ps, F, hb⟩ := hM cn f et
        obtain ⟨pp, dx, fs, rfl, hp, _⟩ := clsA_inv c ec r1
        obtain ⟨mA, O, _, _, _, _⟩ := ins_get I.hok hp
        obtain ⟨od, J, _⟩ := O.look
        obtain ⟨m, hF⟩ := I.fr
        obtain ⟨u, rfl, ru⟩ := vals1 rv
        obtain rfl : u = Value.ref pp := ru
        have hr2 : Room k X.A.in1.in1 := (show Room (k + 1) X.A.in1 from Room.in1 hr).in1
        refine bool_of (PySem.W.truthy_K hF I.ok.mod.kin J m1 m2 (wpAny_mono (run_own (vs := [.ref pp]) F hr2 hgd I.env0.in1.in1 hb I (.cons rfl .nil) (spF_of (Q := fun v H' => ∃ i : Bool, v = .bl i ∧ Q (.bl i) H') c ra rfl eC fun v z' ez cz rz => ?_)) (fun w s' hw => ?_) fun _ _ x => x))
        · cases rz
          exact ⟨n, rfl, q _ z' ez cz (RelD.bl n)⟩
        · obtain ⟨v, H', I', rw', i, rfl, q'⟩ := hw
          obtain rfl : w = Value.bool i := rw'
          exact ⟨.bl i, H', I', rfl, q'⟩
      · cases e
    · exact cr_boolA pins s σ z.H xs us Q I rv ⟨_, h, z, r, rfl, c, ra, e, q⟩
  · cases e

/-! ### ==, != -/
/-- x != b by the class's own __eq__ -/
theorem ne_own {prog : Program} {w : World} {A : Around} {E : Value → Shared → Prop} {s : Shared} {K : PySem.W.Frag} {x C L f : Addr} {h₀ : Heap} {m : Str → Option Value} {ox : Obj} {od : Option Obj} {b tb : Value} {Q : Value → Shared → Prop} (hu : A.units + 1 < cLine) (F : Fr h₀ L s.heap m) (X₀ : K.In h₀) (I : PySem.W.InstAt s.heap x ox C od) (hb : PySem.W.Looks (model prog w) s.heap (typeOf b) tb) (hn : PySem.W.notFirst K C tb = true)
    (hne : PySem.W.findIn K (.ref C) "__ne__" = some (some (.builtin "object.__ne__"))) (hm : PySem.W.mroIn K C (.type "object") = some true) (hs : PySem.W.findIn K (.ref C) "__eq__" = some (some (.ref f))) (hf : PySem.W.isFn K (.ref f) = true)
    (h : wpAny (model prog w) A.in1 (call (.ref f) [.ref x, b]) (fun v s' => ∃ r, v = .bool r ∧ Q (.bool (!r)) s') E s) : wpAny (model prog w) A (richCompare .NotEq (.ref x) b) Q E s := by
  have Xs := X₀.keeps F.keep
  have body : wpAny (model prog w) A (call (.builtin "object.__ne__") [.ref x, b]) (fun v s' => ∃ r, v = .bool r ∧ Q v s') E s := by
    refine wpAny_call (codeAny_call_builtin PySem.F.slot_object_ne.plain PySem.F.cmpEntry_ne (PySem.W.check_slot (i := "object.__ne__") (owner := "object") (n := "__ne__") PySem.F.cmpKind_ne PySem.F.cmpSplit_ne (I.type.andThen (PySem.W.looks_mroIn Xs hm)) (PySem.F.cmpArgs_ne _ _) ?_))
    unfold Builtin.«object.__ne__»
    refine wpAny_bind (m := slotArgs "__ne__" 1 _) (wpAny_pure ?_)
    refine wpAny_bind (m := cRoomFor _ _) (wpAny_cRoomFor hu ?_)
    refine wpAny_bind (m := callSpecialIfBound? (.ref x) (Str.ofString "__eq__") [b]) (PySem.W.ifBound_K Xs I hs hf (wpAny_mono h (fun r s' hr => ?_) fun _ _ y => y))
    obtain ⟨q, rfl, hq⟩ := hr
    refine wpAny_bind (wpAny_truthy_bool ?_)
    exact wpAny_pure ⟨!q, rfl, hq⟩
  have one : wpAny (model prog w) A (tryCompare (.ref x) "__ne__" b) (fun r s' => ∃ v, r = some v ∧ Q v s') E s := by
    unfold tryCompare
    refine wpAny_bind (m := callSpecialIfBound? (.ref x) (Str.ofString "__ne__") [b]) ?_
    simp only [callSpecialIfBound?, bindSpecialIfBound?]
    refine wpAny_holding (wpAny_bind (wpAny_bind (wpAny_bind (I.type.here ((PySem.W.looks_findIn Xs hne).here ?_)))))
    refine wpAny_bind (wpAny_askSetting (wpAny_ite ?_))
    have bd : bindSpecial (.builtin "object.__ne__") (.ref x) = pure (.builtin "object.__ne__", [.ref x]) := PySem.F.slot_object_ne.bind _
    rw [bd]
    have fin : wpAny (model prog w) A (call (.builtin "object.__ne__") ([.ref x] ++ [b]) >>= fun v => pure (some v)) (fun (r : Option Value) s' => wpAny (model prog w) A (match r with | some Value.notImplemented => pure none | none => pure none | some v => pure (some v)) (fun r s' => ∃ v, r = some v ∧ Q v s') E s') E s :=
      wpAny_bind (wpAny_mono body (fun v s' hv => by obtain ⟨r, rfl, hq⟩ := hv; exact wpAny_pure (wpAny_pure ⟨_, rfl, hq⟩)) fun _ _ e => e)
    split
    · exact wpAny_bind (wpAny_pure (wpAny_pure fin))
    · exact wpAny_tryCatch (wpAny_bind (wpAny_pure (wpAny_pure fin)))
  unfold richCompare
  simp only [oneThing_ref]
  refine wpAny_holding (wpAny_bind (wpAny_cRoomFor (by omega) ?_))
  rw [cmpInfo_NotEq]
  dsimp only
  refine wpAny_bind (I.type.here (wpAny_bind (hb.here ?_)))
  split
  · rename_i q
    have e : PySem.W.subIn K tb (.ref C) = some false := by
      rcases Bool.or_eq_true_iff.mp hn with e | e
      · rw [beq_iff_eq.mp e] at q; simp at q
      · exact beq_iff_eq.mp e
    refine wpAny_bind ((PySem.W.looks_subIn Xs e).here ?_)
    simp only [Bool.false_eq_true, if_false]
    refine wpAny_bind (wpAny_mono one (fun r s' z => ?_) fun _ _ e => e)
    obtain ⟨v, rfl, hq⟩ := z
    exact wpAny_pure hq
  · refine wpAny_bind (wpAny_pure ?_)
    simp only [Bool.false_eq_true, if_false]
    refine wpAny_bind (wpAny_mono one (fun r s' z => ?_) fun _ _ e => e)
    obtain ⟨v, rfl, hq⟩ := z
    exact wpAny_pure hq
end
end MP
end S_MPv
section S_MPw
/-! MPw: comparisons, own == among them. -/
namespace MP
open PySem L2 PySem.SeqAt
section
variable {g : Gm} {X : Cx} {pos apos p : Pos} {K : PySem.W.Frag} {z : Zn} {h : Hh}
abbrev CF := A → A → Hh → Option (A × Hh)
def liftR2 (K : PySem.W.Frag) (g : Gm) (F : CF) : R2 := fun x y H Q => ∃ a b h z r, z.H = H ∧ Cn K g z h ∧ RelA K g z a x ∧ RelA K g z b y ∧ F a b h = some r ∧ okK K g z Q r.1 r.2
def eqO (C : CallT) (tb : Nat → Option Nat) (ks : List Kd) (ne : Bool) : CF := fun a b h => match (clsA a h).bind tb with
  | some f => match kindA b h with
    | some k => if k ∈ ks then (match C f [a, b] h with
      | .ok (.d (.bl r)) h2 => some (.d (.bl (if ne then !r else r)), h2)
      | _ => none) else none
    | none => none
  | none => (if ne then neA a b h else eqA a b h).map fun r => (r, h)
/-- what own == asks -/
structure OwnEq (X : Cx) (g : Gm) (C : CallT) (k c f : Nat) (ks : List Kd) : Prop where
  d : OwnD X g C k c f 2 "__eq__"
  ne : PySem.W.findIn X.K (.ref (g.ca c)) "__ne__" = some (some (.builtin "object.__ne__"))
  mro : PySem.W.mroIn X.K (g.ca c) (.type "object") = some true
  nf : ∀ k ∈ ks, PySem.W.notFirst X.K (g.ca c) (kdV g k) = true
  ins : ∀ i, .own i ∈ ks → InsK X.K (g.ca i)
theorem op_eqO {C : CallT} {tb : Nat → Option Nat} {ks : List Kd} {k : Nat} (ne : Bool) (hM : ∀ c f, tb c = some f → OwnEq X g C k c f ks) (hr : Room (k + 1) X.A) (hgd : X.A.guards = some []) : OpR X (compareOp (if ne then .NotEq else .Eq)) (liftR2 X.K g (eqO C tb ks ne)) := by
  intro pins s σ H x y v u Q I rx ry ⟨a, b, h, z, r, hz, c, ra, rb, e, q⟩
  subst hz
  have hu := hr.units
  unfold eqO at e
  split at e
  · rename_i f hf
    obtain ⟨cn, ec, et⟩ := bind_tb hf
    split at e
    · rename_i kk ek
      split at e
      · rename_i hk
        split at e
        · rename_i rr h2 eC
          cases e
          obtain ⟨⟨m1, m2, fd, ps, F, hb⟩, m3, m4, m5, m6⟩ := hM cn f et
          obtain ⟨pp, dx, fs, rfl, hp, _⟩ := clsA_inv c ec ra
          obtain ⟨mA, O, _, _, _, _⟩ := ins_get I.hok hp
          obtain ⟨od, J, _⟩ := O.look
          obtain ⟨m, hF⟩ := I.fr
          obtain rfl : v = Value.ref pp := rx
          have ty := kindA_inv c (fun i hi => m6 i (hi ▸ hk)) ek rb
          obtain ⟨P, KX, hP, _⟩ := kit_of I ry ty
          have lk := KX.ty (model X.prog X.w) s.heap I.kIn hP
          have fin : ∀ {A : Around} {E : Value → Shared → Prop}, Room k A → A.guards = some [] → Env0 X.prog X.w X.K X.mg X.base A X.stack s z.H → wpAny (model X.prog X.w) A (call (.ref (g.fa f)) [.ref pp, u]) (EP X pins σ fun v H' => v = .bl rr ∧ Q (.bl (if ne then !rr else rr)) H') E s := fun hr' hg' e0 =>
            run_own (vs := [.ref pp, y]) F hr' hg' e0 hb I (.cons rfl (.cons ry .nil)) (spF_of c (.cons ra (.cons rb .nil)) rfl eC fun v z' ez cz rz => by
              cases rz
              exact ⟨rfl, q _ z' ez cz (RelD.bl _)⟩)
          cases ne with
          | false =>
            rw [if_neg (by decide)]
            unfold compareOp
            refine PySem.W.cmp_K (op := .Eq) (by omega) hF I.ok.mod.kin J lk (m5 kk hk) m1 m2 (wpAny_mono (fin (hr.mono (Nat.le_succ k)) hgd I.env0) (fun w s' hw => ?_) fun _ _ x => x)
            obtain ⟨v, H', I', rw', rfl, q'⟩ := hw
            obtain rfl : w = Value.bool rr := rw'
            exact ⟨.bl rr, H', I', rfl, q'⟩
          | true =>
            rw [if_pos rfl]
            unfold compareOp
            refine ne_own (by omega) hF I.ok.mod.kin J lk (m5 kk hk) m3 m4 m1 m2 (wpAny_mono (fin hr.in1 hgd I.env0.in1) (fun w s' hw => ?_) fun _ _ x => x)
            obtain ⟨v, H', I', rw', rfl, q'⟩ := hw
            obtain rfl : w = Value.bool rr := rw'
            exact ⟨rr, rfl, .bl (!rr), H', I', rfl, q'⟩
        · cases e
      · cases e
    · cases e
  · obtain ⟨r', er, rfl⟩ := map_some e
    cases ne with
    | false =>
      rw [if_neg (by decide)] at er ⊢
      exact opA_eq (by omega) pins s σ z.H x y v u Q I rx ry ⟨a, b, h, z, r', rfl, c, ra, rb, er, q⟩
    | true =>
      rw [if_pos rfl] at er ⊢
      exact opA_ne (by omega) pins s σ z.H x y v u Q I rx ry ⟨a, b, h, z, r', rfl, c, ra, rb, er, q⟩
/-- every comparison -/
def cmpO (C : CallT) (tb : Nat → Option Nat) (ks : List Kd) (o : COp) : CF := fun a b h => match o with
  | .eq => eqO C tb ks false a b h
  | .ne => eqO C tb ks true a b h
  | o => (cmpA o a b h).map fun r => (r, h)
theorem op_cmpO {C : CallT} {tb : Nat → Option Nat} {ks : List Kd} {k : Nat} (o : COp) (hM : ∀ c f, tb c = some f → OwnEq X g C k c f ks) (hr : Room (k + 1) X.A) (hgd : X.A.guards = some []) : OpR X (compareOp o.op) (liftR2 X.K g (cmpO C tb ks o)) := by
  have hu := hr.un
  have gen : ∀ o : COp, OpR X (compareOp o.op) (liftR2 X.K g fun a b h => (cmpA o a b h).map fun r => (r, h)) := fun o pins s σ H x y v u Q I rx ry ⟨a, b, h, z, r, hz, c, ra, rb, e, q⟩ => by
    obtain ⟨r', er, rfl⟩ := map_some e
    exact opA_cmp (by omega) o pins s σ H x y v u Q I rx ry ⟨a, b, h, z, r', hz, c, ra, rb, er, q⟩
  cases o with
  | eq => exact op_eqO false hM hr hgd
  | ne => exact op_eqO true hM hr hgd
  | lt => exact gen .lt
  | le => exact gen .le
  | gt => exact gen .gt
  | ge => exact gen .ge
  | isin => exact gen .isin
  | notin => exact gen .notin
  | is_ => exact gen .is_
  | isnot => exact gen .isnot
def notSet : Expr → Bool
  | .Set .. => false
  | _ => true
theorem marks_no {op : CmpOp} {e : Expr} (h : notSet e = true) : behindInMarks op e = false := by
  cases e <;> first | rfl | cases h
theorem ae_cmp2 {op : CmpOp} {a b : Expr} {fa fb : Sl → Hh → Out A} {F : CF} (ho : OpR X (compareOp op) (liftR2 X.K g F)) (ha : AE g X a fa) (hb : AE g X b fb) (hm : notSet b = true) :
    AE g X (.Compare a [op] [b] pos) (fun s h => (fa s h).bind fun x h1 => (fb s h1).bind fun y h2 => optH (F x y h2)) := by
  intro W tk
  refine (pe_cmpR ho (ha W tk) (hb W tk) (marks_no hm)).impM fun σ H Q hw => ?_
  refine two_E (F := fun x y h2 => optH (F x y h2)) hw fun s x y h z v u c rs r1 r2 w => ?_
  obtain ⟨r, e, q⟩ := optH_wp w
  exact ⟨x, y, h, z, r, rfl, c, r1, r2, e, q⟩

/-! ### written tuples and tables -/
/-- a in G, a not in G, of a written tuple -/
def inG (ne : Bool) (xs : List D) (a : A) (h : Hh) : Option A := match asP a h with
  | some d => if d.depth ≤ 64 then some (.d (.bl (if ne then !(xs.any fun y => y.eqb d) else xs.any fun y => y.eqb d))) else none
  | none => none
theorem op_inG {ne : Bool} {xs : List D} {p : Addr} (hu : X.A.units + 65 < cLine) (hS : ∀ h, X.K.In h → Sh h (.tup xs) (.ref p)) : OpR X (compareOp (if ne then .NotIn else .In)) (fun x y H Q => y = .ref p ∧ ∃ a h z r, z.H = H ∧ Cn X.K g z h ∧ RelA X.K g z a x ∧ inG ne xs a h = some r ∧ okK X.K g z Q r h) := by
  intro pins s σ H x y v u Q I rx ry ⟨ey, a, h, z, r, hz, c, ra, e, q⟩
  subst ey hz
  obtain rfl : u = Value.ref p := ry
  unfold inG at e
  split at e
  · rename_i dx ex
    split at e
    · cases e
      have s1 := asP_sh I c ex ra rx
      have s2 := hS s.heap I.kIn
      cases s2 with
      | @tup p _ its hp l =>
        have e0 : its.toArray.any (isEq s.heap dx) = xs.any fun d => d.eqb dx := by rw [List.any_toArray]; exact any_isEq l
        cases ne with
        | false =>
          rw [if_neg (by decide)] at q ⊢
          refine in_tupleAt (isEq s.heap dx) hp (fun y hy => ?_) ?_
          · obtain ⟨d, hd, sd⟩ := l.mem (by simpa using hy)
            rw [isEq_of sd]
            exact Sh.eqAt sd s1 (by show X.A.units + 1 + min d.depth dx.depth < cLine; omega)
          · rw [e0]
            exact ⟨.bl _, z.H, I, rfl, q.same c (.bl _)⟩
        | true =>
          rw [if_pos rfl] at q ⊢
          refine notIn_tupleAt (isEq s.heap dx) hp (fun y hy => ?_) ?_
          · obtain ⟨d, hd, sd⟩ := l.mem (by simpa using hy)
            rw [isEq_of sd]
            exact Sh.eqAt sd s1 (by show X.A.units + 1 + min d.depth dx.depth < cLine; omega)
          · rw [e0]
            exact ⟨.bl _, z.H, I, rfl, q.same c (.bl _)⟩
    · cases e
  · cases e
theorem ae_inG {ne : Bool} {xs : List D} {a : Expr} {x : Str} {p : Addr} {px : Pos} {fa : Sl → Hh → Out A} (hu : X.A.units + 65 < cLine) (hS : ∀ h, X.K.In h → Sh h (.tup xs) (.ref p)) (hg : Gl X x) (hm : X.mg x = some (.ref p)) (hd : (x == ("__debug__" : Str)) = false) (ha : AE g X a fa) :
    AE g X (.Compare a [if ne then .NotIn else .In] [.Name x px] pos) (fun s h => (fa s h).bind fun v h1 => opt (inG ne xs v h1) h1) := by
  intro W tk
  refine (pe_cmpR (op_inG (g := g) (ne := ne) hu hS) (ha W tk) (pe_glob (v := .ref p) hg hm rfl hd) rfl).impM fun σ H Q ⟨s, h, z, hz, c, rs, w⟩ => ?_
  refine ⟨s, h, z, hz, c, rs, Out.wp_mono (Out.wp_bind w) (fun a h1 w1 v z1 e1 c1 r1 => ?_) fun _ _ q => q⟩
  obtain ⟨r, er, q⟩ := opt_wp w1
  exact ⟨rfl, a, h1, z1, r, rfl, c1, r1, er, q.ext e1⟩
/-- G[a], G a written table: texts to numbers -/
def subG (kvs : List (Str × Int)) (a : A) : Option A := match a with
  | .d (.str x) => (kvs.lookup x).map fun n => .d (.int n)
  | _ => none
theorem ae_subG {kvs : List (Str × Int)} {b : Expr} {x : Str} {p : Addr} {px : Pos} {fb : Sl → Hh → Out A} (hS : ∀ k n, kvs.lookup k = some n → KDct X.K X.w p k (.int n)) (hg : Gl X x) (hm : X.mg x = some (.ref p)) (hd : (x == ("__debug__" : Str)) = false) (hb : AE g X b fb) (hs : PlainIx b) :
    AE g X (.Subscript (.Name x px) b pos) (fun s h => (fb s h).bind fun v h1 => opt (subG kvs v) h1) := by
  intro W tk
  refine (pe_ix ix_kdict (pe_glob (v := .ref p) hg hm rfl hd) (hb W tk) hs).impM fun σ H Q ⟨s, h, z, hz, c, rs, w⟩ => ?_
  refine ⟨s, h, z, hz, c, rs, Out.wp_mono (Out.wp_bind w) (fun a h1 w1 v z1 e1 c1 r1 => ?_) fun _ _ q => q⟩
  obtain ⟨r, er, q⟩ := opt_wp w1
  unfold subG at er
  split at er
  · obtain ⟨n, en, rfl⟩ := map_some er
    cases r1
    exact ⟨p, _, _, rfl, rfl, hS _ n en, (q.ext e1).same c1 (.int n)⟩
  · cases er
end
end MP
end S_MPw
section S_MQk
/-! MQk: enumerate(a tuple). -/
namespace MP
open PySem L2 PySem.Spec PyProof.Rows
open PySem.AutoSeq1 (wpAny_loadPart')
theorem meets_enumT (l : Addr) (items : Array Value) (n : Nat) (dct : Option Addr) (sl : Array (Option Value)) :
    Meets (Builtin.«enumerate.__new__» ⟨[.type "enumerate", .ref l], []⟩) (fun _ R s => s.heap.get? l = some { cls := .type "tuple", dict := dct, data := .seq items n, slots := sl } ∧
      R (.ok (.ret (.ref (s.heap.push { cls := .type "tuple_iterator", data := .fields #[.ref l, .int 0 0] }).objs.size)))
        { s with heap := (s.heap.push { cls := .type "tuple_iterator", data := .fields #[.ref l, .int 0 0] }).push { cls := .type "enumerate", data := .fields #[.none, .bool false, .ref s.heap.objs.size, rawInt 0, .none, .none] } }) :=
  .of_wp fun prog w A R s h => by
    obtain ⟨hp, g, d, tk, os⟩ := s
    obtain ⟨hl, h⟩ := h
    have hsub := sub_enumerate
    have hL : Heap.IsTuple (Shared.heap ⟨hp, g, d, tk, os⟩) l items := ⟨_, hl, rfl, n, rfl⟩
    wp_walk using wpAny_loadPart' hl
    refine wpAny_stack_any fun st => wpAny_pure ?_
    split
    · rename_i c _ _ _ _ _
      cases (c == Value.type "enumerate")
      · wp_walk using wpAny_loadPart' hl, wpAny_pyIter_tuple hL
        exact ⟨_, rfl, h⟩
      · wp_walk using wpAny_loadPart' hl, wpAny_pyIter_tuple hL
        exact ⟨_, rfl, h⟩
    · wp_walk using wpAny_loadPart' hl, wpAny_pyIter_tuple hL
      exact ⟨_, rfl, h⟩
section
variable {prog : Program} {w : World} {A : Around} {E : Value → Shared → Prop} {s : Shared}
theorem call_enumT {l : Addr} {items : Array Value} {Q : Value → Shared → Prop} (hL : s.heap.IsTuple l items)
    (h : ∀ h', IsEnum h' (s.heap.objs.size + 1) s.heap.objs.size 0 .none → h'.IsTupleIter s.heap.objs.size l 0 → h'.objs.size = s.heap.objs.size + 2 →
      (∀ b o, s.heap.get? b = some o → h'.get? b = some o) → Q (.ref (s.heap.objs.size + 1)) { s with heap := h' }) :
    wpAny (model prog w) A (call (.type "enumerate") [.ref l]) Q E s := by
  obtain ⟨⟨c, dct, dt, sl⟩, hl, hc, n, hd⟩ := hL
  replace hc : c = .type "tuple" := hc
  replace hd : dt = .seq items n := hd
  subst hc hd
  refine callType_new F.called_enumerate (by decide) (F.typeCall_enumerate_1 _) (F.newCall_enumerate_1 _) (fun obj => F.args_object_init_2 obj _) F.entry_enumerate_new (meets_enumT l items n dct sl) ⟨hl, ?_⟩
  have hz : (s.heap.push { cls := .type "tuple_iterator", data := .fields #[.ref l, .int 0 0] }).objs.size = s.heap.objs.size + 1 := Heap.size_push ..
  show _ ∧ _
  rw [hz]
  have he : IsEnum ((s.heap.push { cls := .type "tuple_iterator", data := .fields #[.ref l, .int 0 0] }).push { cls := .type "enumerate", data := .fields #[.none, .bool false, .ref s.heap.objs.size, rawInt 0, .none, .none] }) (s.heap.objs.size + 1) s.heap.objs.size 0 .none := by
    have := Heap.get?_push_size (s.heap.push { cls := .type "tuple_iterator", data := .fields #[.ref l, .int 0 0] }) (o := { cls := .type "enumerate", data := .fields #[.none, .bool false, .ref s.heap.objs.size, rawInt 0, .none, .none] }) rfl
    rw [hz] at this; exact this
  exact ⟨⟨_, he, rfl⟩, h _ he ⟨_, Heap.get?_push_of_some _ (Heap.get?_push_size _ rfl), rfl, rfl⟩ (by rw [Heap.size_push, hz]) fun b o x => Heap.get?_push_of_some _ (Heap.get?_push_of_some _ x)⟩
end
/-- the tuple at a, each item in a new pair -/
def IteT (K : PySem.W.Frag) (a : Addr) : L2.It :=
  ⟨fun i H => ∃ (xs : List V) (x : V), SqT K H a xs ∧ xs[i]? = some x, fun i H v H' => ∃ T x, v = .ref T ∧ H T = none ∧ H' = upd H T (.tup [.int (i : Nat), x]) ∧ ∀ xs, SqT K H a xs → xs[i]? = some x, fun i H => ∃ xs : List V, SqT K H a xs ∧ xs.length = i⟩
theorem turn_enumT {P : Program} {w : World} {K : PySem.W.Frag} {elts : List Expr} {kk : Nat} {tpos : Pos} (a e it : Addr) (hae : e ≠ a) (hai : a ≠ it) :
    Turn P w K (.Tuple elts kk tpos) (IteT K a) [e, it] e (fun i h => (∃ old, IsEnum h e it ((i : Nat) : Int) old) ∧ h.IsTupleIter it a i ∧ e ≠ it) where
  mem := by simp
  obj := fun i h st b hb => by
    obtain ⟨⟨old, he⟩, ⟨o, ho, hc, hd⟩, _⟩ := st
    rcases (by simpa using hb : b = e ∨ b = it) with z | z
    · rw [z]; exact ⟨_, he, fun v q => nomatch q⟩
    · rw [z]; exact ⟨o, ho, fun v q => by rw [hd] at q; cases q⟩
  keep := fun i h h' st k => let ⟨⟨old, he⟩, hi, hne⟩ := st; ⟨⟨old, k e (by simp) _ he⟩, hi.at fun o q => k it (by simp) o q, hne⟩
  item := by
    intro X hP hw hK hc i pins s σ H E I hf st hg
    subst hP hw hK
    obtain ⟨⟨old, he⟩, hit, hne⟩ := st
    obtain ⟨xs, x, hq, hx⟩ := hg
    obtain ⟨its, rv, p, hz⟩ := I.tuple hq
    obtain ⟨u, hu, ru⟩ := rv.get hx
    have hel : e < s.heap.objs.size := Heap.lt_size he
    have hil : it < s.heap.objs.size := by obtain ⟨_, q, _⟩ := hit; exact Heap.lt_size q
    have hlt : i < its.toArray.size := by rw [List.size_toArray]; exact (List.getElem?_eq_some_iff.mp hu).1
    have Dr := Draws.tuple (prog := X.prog) (w := X.w) (A := X.A.in1) (I.ok.hd hc) it a hai its.toArray
    refine wpAny_pyNext_enum_itemD Dr he ⟨hit, p⟩ hlt hne (by simp [hne, hae]) fun v h' tk hv ho hst hT hsz hk => ?_
    have ev : v = u := by
      have h1 : its[i]? = some v := by simpa using hv
      rw [hu] at h1
      exact (Option.some.inj h1).symm
    subst ev
    refine ⟨_, rfl, wpAny_letOwnedTupleGo_enum (s := { s with heap := h', toks := tk + 1 }) ho fun h'' he' sb => ?_⟩
    have hT2 : h''.get? s.heap.objs.size = some { cls := .type "tuple", data := .seq #[.int i tk, v] } := (sb.2 _ (Nat.ne_of_gt hel)).trans hT
    have new : ObjOk X.prog X.w (upd H s.heap.objs.size (.tup [.int (i : Nat), x])) h'' s.heap.objs.size (.tup [.int (i : Nat), x]) :=
      ⟨by show 2 ≤ sizeLine; decide, [.int i tk, v], .cons ⟨_, rfl⟩ (.cons ru .nil), ⟨_, hT2, rfl, _, rfl⟩⟩
    have I1 : Inv X pins σ (upd H s.heap.objs.size (.tup [.int (i : Nat), x])) { s with heap := h'', toks := tk + 1 } :=
      I.turnedNew (ch := [e, it]) (fun b ob hb q => (sb.2 b (fun z => hb (by simp [z]))).trans (hk b ob (fun z => hb (by simp [z])) (fun z => hb (by simp [z])) q)) hf (Nat.le_refl _) new
    refine ⟨.ref s.heap.objs.size, _, I1, rfl, ⟨_, x, rfl, I.hok.fresh (Nat.le_refl _), rfl, fun ys hy => by rw [I.tuple_inj hy hq]; exact hx⟩, ⟨⟨v, ?_⟩, hst.1.at fun o q => (sb.2 it (Ne.symm hne)).trans q, hne⟩, fun b hb => ?_⟩
    · rw [show ((i + 1 : Nat) : Int) = (i : Int) + 1 by omega]; exact he'
    · have hb' : b < s.heap.objs.size := by
        rcases (by simpa using hb : b = e ∨ b = it) with z | z
        · rw [z]; exact hel
        · rw [z]; exact hil
      rw [upd_ne (Nat.ne_of_lt hb')]
      exact (hf b hb).1
  done := by
    intro X hP hw hK hc i pins s σ H E I hf st hg
    subst hP hw hK
    obtain ⟨⟨old, he⟩, hit, hne⟩ := st
    obtain ⟨xs, hq, hx⟩ := hg
    obtain ⟨its, rv, p, hz⟩ := I.tuple hq
    obtain ⟨f0, f1, f2, f3, f4, f5⟩ := hf it (by simp)
    have hl := rv.length
    have Dr := Draws.tuple (prog := X.prog) (w := X.w) (A := X.A.in1) (I.ok.hd hc) it a hai its.toArray
    refine wpAny_pyNext_enum_endD Dr he ⟨?_, p⟩ fun h' eb => ⟨rfl, I.turned (t' := s.toks) (fun b o hb q => eb b o hb q) f0 f1 f3 f4 f5⟩
    have : its.toArray.size = i := by rw [List.size_toArray]; omega
    rw [this]; exact hit
  self := fun A i s Q E st h => let ⟨⟨_, he⟩, _⟩ := st; wpAny_pyIter_enum he h
/-! ### the rule: a list or a tuple -/
section
variable {X : Cx} {g : Gm}
def iEnumT (K : PySem.W.Frag) (ta : TA) : TI := fun σ H R => ta σ H fun vs H1 => ∃ a xs, vs = [.ref a] ∧ SqT K H1 a xs ∧ R (IteT K a) H1
theorem pi_enumT {e : Expr} {ta : TA} {p pos tpos : Pos} {elts : List Expr} {kk : Nat} (hg : Gl X "enumerate") (hm : X.mg "enumerate" = none) (ha : PA X [e] ta) (hs : starEach [e] X.env = [(false, eval e X.env)]) :
    PI X (.Tuple elts kk tpos) (.Call (.Name "enumerate" p) [e] [] pos) (iEnumT X.K ta) := by
  refine ⟨fun pins s σ H R I h => ?_⟩
  refine Call_ (ld_blt I hg hm boot_enumerate (PyProof.Rows.callWith_type1 (thn (ha.run pos pins s σ H _ I h) fun us s1 ⟨vs, H1, I1, r1, q1⟩ => ?_) hs rfl))
  obtain ⟨a, xs, rfl, hq, q⟩ := q1
  obtain ⟨u, rfl, ru⟩ := vals1 r1
  obtain rfl : u = Value.ref a := ru
  obtain ⟨its, rv, p', hz⟩ := I1.tuple hq
  have hla : a < s1.heap.objs.size := by obtain ⟨o, ho, _⟩ := p'; exact Heap.lt_size ho
  refine call_enumT p' fun h' he hit hsz hk => wpAny_pyIter_enum he ?_
  have I2 : Inv X pins σ H1 { s1 with heap := h' } := I1.kept (t' := s1.toks) hk
  refine ⟨s1.heap.objs.size + 1, [s1.heap.objs.size + 1, s1.heap.objs.size], _, _, H1, rfl, I2, turn_enumT a (s1.heap.objs.size + 1) s1.heap.objs.size (fun x => by rw [← x] at hla; exact absurd hla (by simp)) (Nat.ne_of_lt hla), ⟨⟨.none, he⟩, hit, Nat.succ_ne_self _⟩, fun b hb => ?_, q⟩
  have hle : s1.heap.objs.size ≤ b := by
    rcases (by simpa using hb : b = s1.heap.objs.size + 1 ∨ b = s1.heap.objs.size) with z | z
    · rw [z]; exact Nat.le_add_right _ _
    · rw [z]; exact Nat.le_refl _
  exact I1.fpOk hle (I1.hok.fresh hle)
/-- the pairs -/
def enumD (n : Nat) : List D → List D
  | [] => []
  | x :: r => .tup [.int (n : Nat), x] :: enumD (n + 1) r
theorem enumD_get : ∀ (n : Nat) (xs : List D) (i : Nat), (enumD n xs)[i]? = (xs[i]?).map fun x => .tup [.int ((n + i : Nat) : Int), x]
  | _, [], _ => by simp [enumD]
  | n, x :: r, 0 => by simp [enumD]
  | n, x :: r, i + 1 => by
    rw [enumD, List.getElem?_cons_succ, enumD_get (n + 1) r i, List.getElem?_cons_succ]
    have : n + 1 + i = n + (i + 1) := by omega
    rw [this]
theorem enumD_length : ∀ (n : Nat) (xs : List D), (enumD n xs).length = xs.length
  | _, [] => rfl
  | n, x :: r => by rw [enumD, List.length_cons, enumD_length (n + 1) r, List.length_cons]
/-- enumerate of a frozen list or tuple -/
def enumA (a : A) : Option (List A × Option Nat) := match a with
  | .d (.lst xs) => some ((enumD 0 xs).map .d, none)
  | .d (.tup xs) => some ((enumD 0 xs).map .d, none)
  | _ => none
theorem iterJ_pairs {K : PySem.W.Frag} {z : Zn} {h : Hh} {J : L2.It} {S : Hp → Prop} {xs : List D} {vs : List V} (wk : Walk J vs.length S (YPair (fun i => some (.int (i : Nat))) (fun i => vs[i]?))) (hS : ∀ z2, Ext z z2 → S z2.H) (l : RelL K g z xs vs) : IterJ K g J ((enumD 0 xs).map .d) none h z := by
  refine ⟨S, YPair (fun i => some (.int (i : Nat))) (fun i => vs[i]?), ?_, fun z2 h2 ez _ _ => hS z2 ez, fun i z2 h2 x H' hi ez c2 _ y => ?_⟩
  · rw [List.length_map, enumD_length, l.length]
    exact wk
  · obtain ⟨T, u, v, rfl, hT, rfl, hu, hv⟩ := y
    cases hu
    rw [List.length_map, enumD_length] at hi
    have hx : xs[i]? = some xs[i] := List.getElem?_eq_getElem hi
    obtain ⟨v', hv', rv⟩ := l.get hx
    have hv : vs[i]? = some v := hv
    rw [hv] at hv'; cases hv'
    refine ⟨z2.frz T (.tup [.int (i : Nat), v]), .d (.tup [.int (i : Nat), xs[i]]), rfl, Ext.frozen hT, c2.frozen hT, ?_, ?_⟩
    · rw [List.getElem?_map, enumD_get, hx]
      simp
    · exact RelD.tup (.inr rfl) upd_same (.cons (.int _) (.cons ((RelD.mono ez rv).mono (Ext.frozen hT)) .nil)) rfl
theorem ai_enum {e : Expr} {f : Sl → Hh → Out A} {p pos tpos : Pos} {elts : List Expr} {kk : Nat} (hg : Gl X "enumerate") (hm : X.mg "enumerate" = none) (he : AE g X e f) (hs : starEach [e] X.env = [(false, eval e X.env)]) :
    AI g X (.Tuple elts kk tpos) (.Call (.Name "enumerate" p) [e] [] pos) (fun s h => (f s h).bind fun a h1 => opt (enumA a) h1) := by
  intro W tk
  have ha := pa_cons (he W tk) pa_nil (by rw [hs]; rfl)
  refine PI.impM (PI.orM (pi_enum hg hm ha hs) (pi_enumT hg hm ha hs)) fun σ H R ⟨s, h, z, hz, c, rs, w⟩ => ?_
  dsimp only at w
  cases ef : f s h with
  | no => rw [ef] at w; exact w.elim
  | ex x h' =>
    rw [ef] at w
    refine .inl ⟨s, h, z, hz, c, rs, ?_⟩
    rw [ef]; exact w
  | ok a h1 =>
    rw [ef] at w
    obtain ⟨q, eq, hq⟩ := opt_wp (show (opt (enumA a) h1).wp _ _ from w)
    unfold enumA at eq
    split at eq
    · cases eq
      refine .inl ⟨s, h, z, hz, c, rs, ?_⟩
      rw [ef]
      intro v z1 e1 c1 r1
      cases r1 with
      | @lst pp xs vs f e l => exact ⟨pp, vs, rfl, .of e, hq _ z1 e1 c1 (iterJ_pairs walk_enum (fun z2 ez => .of (ez.keep f e rfl)) l)⟩
    · cases eq
      refine .inr ⟨s, h, z, hz, c, rs, ?_⟩
      rw [ef]
      intro v z1 e1 c1 r1
      obtain ⟨pp, vs, rfl, st, l⟩ := RelD.tup_st r1
      refine ⟨pp, vs, rfl, st z1 (Ext.refl z1), hq _ z1 e1 c1 (iterJ_pairs (S := fun H => SqT X.K H pp vs) ⟨fun i _ hi q => ⟨vs, vs[i], q, by simp [hi]⟩, fun _ q => ⟨vs, q, rfl⟩, fun i H v H' _ q y => ?_⟩ (fun z2 ez => st z2 ez) l)⟩
      obtain ⟨T, x, h1, h2, h3, h4⟩ := y
      exact ⟨T, .int (i : Nat), x, h1, h2, h3, rfl, h4 vs q⟩
    · cases eq
end
end MP
end S_MQk
section S_MQl
/-! MQl: list(range(..)), tuple(range(..)). -/
namespace MP
open PySem L2
section
variable {X : Cx} {g : Gm} {K : PySem.W.Frag} {z : Zn}
def rngN (tp mu : Bool) (a b : Int) (h : Hh) : Option (A × Hh) := if -(2 ^ 62) ≤ a ∧ a < 2 ^ 62 ∧ -(2 ^ 62) ≤ b ∧ b < 2 ^ 62 ∧ (b - a).toNat ≤ 2 ^ 24 then (if tp then some (.d (.tup ((List.range (b - a).toNat).map fun i => .int (a + (i : Nat)))), h) else newL mu (rngL a (b - a).toNat) h) else none
theorem rng_rel (a b : Int) : RelL K g z ((List.range (b - a).toNat).map fun i => D.int (a + (i : Nat))) (rgV a b) := by
  unfold rgV
  generalize List.range (b - a).toNat = l
  induction l with
  | nil => exact .nil
  | cons x r ih => exact .cons (.int _) ih
theorem rng_turns (a b : Int) : turnsD ((List.range (b - a).toNat).map fun i => D.int (a + (i : Nat))) = false := by
  generalize List.range (b - a).toNat = l
  cases l <;> rfl
theorem rng_relA (a b : Int) : RelAs K g z (rngL a (b - a).toNat) (rgV a b) := by
  have := RelAs.ofL (rng_rel (K := K) (g := g) (z := z) a b)
  rw [List.map_map] at this
  exact this
theorem rngN_ok {tp mu : Bool} {a b : Int} {h : Hh} {r : A × Hh} {Q : VK} (c : Cn K g z h) (e : rngN tp mu a b h = some r) (q : okK K g z Q r.1 r.2) : RgOk a b ∧ ∀ p, z.H p = none → Q (.ref p) (upd z.H p (if tp then .tup (rgV a b) else .lst (rgV a b))) := by
  unfold rngN at e
  split at e
  · rename_i hr
    refine ⟨hr, fun p hp => ?_⟩
    cases tp with
    | true =>
      rw [if_pos rfl] at e ⊢
      cases e
      exact okK.frozen q c hp fun z' ez f e => .tup f e (rng_rel a b) (rng_turns a b)
    | false =>
      rw [if_neg (by decide)] at e ⊢
      exact okK.list e q c (rng_relA a b) hp
  · cases e
def lrngF (tp mu : Bool) (fl : Sl → Hh → Out (Option Int)) (fh : Sl → Hh → Out A) : Sl → Hh → Out A := fun s h => (fl s h).bind fun l h1 => (fh s h1).bind fun x h2 => (opt (intA x) h2).bind fun n h2 => optH (rngN tp mu (l.getD 0) n h2)
theorem prg_lift1 {W : WX} {tp mu : Bool} {fh : Sl → Hh → Out A} {σ : St} {H : Hp} {Q : VK} (hw : liftE X.K g W (lrngF tp mu (fun _ h => .ok none h) fh) σ H Q) : tRg1 (liftE X.K g W fh) σ H fun a b H1 => RgOk a b ∧ ∀ q, H1 q = none → Q (.ref q) (upd H1 q (if tp then .tup (rgV a b) else .lst (rgV a b))) := by
  obtain ⟨s, h, z, hz, c, rs, w⟩ := hw
  have w : ((fh s h).bind fun x h2 => (opt (intA x) h2).bind fun n h2 => optH (rngN tp mu 0 n h2)).wp (okK X.K g z Q) (exK X.K g z σ W) := w
  refine ⟨s, h, z, hz, c, rs, Out.wp_mono (Out.wp_bind w) (fun x h1 w1 v z1 e1 c1 r1 => ?_) fun _ _ q => q⟩
  obtain ⟨n, en, w2⟩ := opt_wp (Out.wp_bind w1)
  obtain ⟨r, er, q⟩ := optH_wp w2
  unfold intA at en
  split at en
  · cases en
    cases r1
    exact ⟨_, rfl, rngN_ok c1 er (q.ext e1)⟩
  · cases en
theorem prg_lift2 {W : WX} {tp mu : Bool} {fl fh : Sl → Hh → Out A} {σ : St} {H : Hp} {Q : VK} (hw : liftE X.K g W (lrngF tp mu (fun s h => (fl s h).bind fun a h1 => (opt (intA a) h1).bind fun i h1 => .ok (some i) h1) fh) σ H Q) : tRg2 (liftE X.K g W fl) (liftE X.K g W fh) σ H fun a b H1 => RgOk a b ∧ ∀ q, H1 q = none → Q (.ref q) (upd H1 q (if tp then .tup (rgV a b) else .lst (rgV a b))) := by
  obtain ⟨s, h, z, hz, c, rs, w⟩ := hw
  refine ⟨s, h, z, hz, c, rs, Out.wp_mono (Out.wp_bind (Out.wp_bind w)) (fun x h1 w1 v z1 e1 c1 r1 => ?_) fun _ _ q => q⟩
  obtain ⟨m, em, w2⟩ := opt_wp (Out.wp_bind w1)
  have w2 : ((fh s h1).bind fun x h2 => (opt (intA x) h2).bind fun n h2 => optH (rngN tp mu m n h2)).wp (okK X.K g z Q) (exK X.K g z σ W) := w2
  refine ⟨s, h1, z1, rfl, c1, rs.mono e1, Out.wp_mono (Out.wp_bind w2) (fun y h2 w3 u z2 e2 c2 r2 => ?_) fun _ _ q => q.ext e1⟩
  obtain ⟨n, en, w4⟩ := opt_wp (Out.wp_bind w3)
  obtain ⟨r, er, q⟩ := optH_wp w4
  unfold intA at em en
  split at em
  · cases em
    split at en
    · cases en
      cases r1
      cases r2
      exact ⟨_, _, rfl, rfl, rngN_ok c2 er (q.ext (e1.trans e2))⟩
    · cases en
  · cases em
theorem ae_lrng {tp : Bool} (mu : Bool) {e : Expr} {W : WX} {p pos : Pos} {te : St → Hp → (Int → Int → Hp → Prop) → Prop} {f : Sl → Hh → Out A} (hc : X.calm = true) (hg : Gl X (if tp then "tuple" else "list")) (hm : X.mg (if tp then "tuple" else "list") = none) (he : PRg X e te) (na : isStar e = false)
    (hl : ∀ σ H Q, liftE X.K g W f σ H Q → te σ H fun a b H1 => RgOk a b ∧ ∀ q, H1 q = none → Q (.ref q) (upd H1 q (if tp then .tup (rgV a b) else .lst (rgV a b)))) : PE X (.Call (.Name (if tp then "tuple" else "list") p) [e] [] pos) (liftE X.K g W f) := by
  have na' : starEach [e] X.env = (false, eval e X.env) :: starEach [] X.env := star_cons na
  cases tp with
  | true => exact (pe_tupRg hc hg hm he na').impM fun σ H Q h => hl σ H Q h
  | false => exact (pe_listRg hc hg hm he na').impM fun σ H Q h => hl σ H Q h
end
end MP
end S_MQl
section S_MQm
/-! MQm: repr of plain data. -/
namespace MP
open PySem L2 PySem.SeqAt
mutual
theorem Sh.reads {h : Heap} : ∀ {d : D} {u : Value}, Sh h d u → ∃ as, Reads h u d.toP as
  | _, _, .non => ⟨[], .none⟩
  | _, _, .bl b => ⟨[], .bool b⟩
  | _, _, .int i t => ⟨[], .int i t⟩
  | _, _, .str x t => ⟨[], .str x t⟩
  | _, _, .tup ⟨o, e, c, n, dt⟩ l => by
    obtain ⟨as, r⟩ := ShL.reads l
    exact ⟨_, .tuple e c dt (by simpa [D.toP] using r)⟩
  | _, _, .lst ⟨o, e, c, n, dt⟩ l => by
    obtain ⟨as, r⟩ := ShL.reads l
    exact ⟨_, .list e c dt (by simpa [D.toP] using r)⟩
theorem ShL.reads {h : Heap} : ∀ {ds : List D} {us : List Value}, ShL h ds us → ∃ as, ReadsAll h us (toPL ds) as
  | _, _, .nil => ⟨[], .nil⟩
  | _, _, .cons a b => by
    obtain ⟨x, r1⟩ := Sh.reads a
    obtain ⟨y, r2⟩ := ShL.reads b
    exact ⟨_, .cons r1 r2⟩
end
mutual
theorem toP_nodict : ∀ d : D, d.toP.hasDict = false
  | .non => rfl
  | .bl _ => rfl
  | .int _ => rfl
  | .str _ => rfl
  | .tup xs => by simp [D.toP, PyData.hasDict, toPL_nodict xs]
  | .lst xs => by simp [D.toP, PyData.hasDict, toPL_nodict xs]
  | .dk _ => rfl
  | .dt _ => rfl
  | .obj _ _ => rfl
  | .fn _ => rfl
  | .cls _ => rfl
  | .scr _ => rfl
theorem toPL_nodict : ∀ ds : List D, PyData.hasDictAll (toPL ds) = false
  | [] => rfl
  | d :: r => by simp [toPL, PyData.hasDictAll, toP_nodict d, toPL_nodict r]
end
section
variable {g : Gm} {X : Cx}
def seqD : D → Bool
  | .tup _ => true
  | .lst _ => true
  | _ => false
/-- repr of a list, a tuple, a number -/
def reprA : BF := fun as h => match as with
  | [.d (.int i)] => if i.natAbs.log2 < 1920 then some (.d (.str (toString i)), h) else none
  | [a] => match asP a h with
    | some d => if seqD d = true ∧ d.toP.showable = true ∧ d.toP.depth ≤ 64 ∧ d.toP.shown.length ≤ sizeLine then some (.d (.str d.toP.shown), h) else none
    | none => none
  | _ => none
theorem cr_reprA (hgd : X.A.guards = some []) (hu : X.A.units + 70 < cLine) : CallR X (.builtin "repr") (liftC X.K g reprA) := by
  intro pins s σ H xs us Q I rv ⟨as, h, z, r, hz, c, ra, e, q⟩
  subst hz
  unfold reprA at e
  split at e
  · split at e
    · cases e
      obtain ⟨v, rfl, r1⟩ := ra.one
      cases r1
      exact SkE.call_repr_int pins s σ z.H _ us Q I rv ⟨_, rfl, by assumption, q.same c (.str _)⟩
    · cases e
  · split at e
    · rename_i a _ _ d ed
      split at e
      · rename_i hd
        cases e
        obtain ⟨v, rfl, r1⟩ := ra.one
        obtain ⟨u, rfl, ru⟩ := vals1 rv
        have sh := asP_sh I c ed r1 ru
        obtain ⟨as', rd⟩ := sh.reads
        have hr : ∃ p, u = .ref p := by
          cases sh <;> first | exact ⟨_, rfl⟩ | exact absurd hd.1 (by simp [seqD])
        obtain ⟨p, rfl⟩ := hr
        refine repr_of_reads' rd hd.2.1 (fun x => by rw [toP_nodict] at x; cases x) hgd (by have := hd.2.2.1; omega) (fun _ _ e => e) (fun h' u' tk hk => ?_) hd.2.2.2
        exact ⟨.str _, z.H, I.kept hk, ⟨_, rfl⟩, q.same c (.str _)⟩
      · cases e
    · cases e
  · cases e
end
end MP
end S_MQm
section S_MPz
/-! MPz: tables written out, dict(..) of pairs. -/
namespace MP
open PySem L2
section
variable {g : Gm} {X : Cx} {pos : Pos} {K : PySem.W.Frag} {z z0 : Zn} {h : Hh} {Q : VK} {p : Addr} {o : HO}
/-- a thing that is there and none of ours becomes one that changes -/
theorem okK.adoptM {ob : O} (e0 : Ext z0 z) (hn : z0.H p = none) (c : Cn K g z h) (hp : z.H p = some o) (nr : p ∉ z.rho) (nf : ¬ z.F p) (ro : RelO K g { z with rho := z.rho ++ [p] } ob p) (q : okK K g z0 Q (.ref h.length) (h ++ [ob])) : Q (.ref p) z.H := by
  have ew : ExtW z { z with rho := z.rho ++ [p] } := ⟨⟨[p], rfl⟩, fun _ h => h, fun _ _ _ h => h⟩
  have hl : z.rho.length = h.length := c.len
  refine q _ { z with rho := z.rho ++ [p] } ⟨?_, e0.fz, e0.rx, e0.st, e0.fn, e0.al⟩ ⟨by simp [hl], ?_, fun r hr => ?_, c.ft, fun i o' r h1 h2 => ?_⟩ ⟨p, ?_, rfl⟩
  · obtain ⟨t, et, ft⟩ := e0.pre
    refine ⟨t ++ [p], by show z.rho ++ [p] = _; rw [et, List.append_assoc], fun r hr => (List.mem_append.mp hr).elim (ft r) fun hm => ?_⟩
    rw [List.mem_singleton.mp hm]; exact hn
  · exact List.nodup_append.mpr ⟨c.nd, by simp, fun a ha b hb e => nr (by rw [List.mem_singleton.mp hb] at e; exact e ▸ ha)⟩
  · exact (List.mem_append.mp hr).elim (c.rt r) fun hm => by rw [List.mem_singleton.mp hm]; exact ⟨_, hp⟩
  · by_cases hi : i < h.length
    · rw [List.getElem?_append_left hi] at h1
      have h3 : z.rho[i]? = some r := by rw [← h2]; exact (List.getElem?_append_left (by rw [hl]; exact hi)).symm
      by_cases hd : o' = .dead
      · rw [hd]; trivial
      · exact (c.ob i o' r h1 h3).monoW ew ((c.ob i o' r h1 h3).nf hd) rfl
    · have hz : i = h.length := by
        have := (List.getElem?_eq_some_iff.mp h1).1
        rw [List.length_append, List.length_singleton] at this; omega
      subst hz
      have e1 : o' = ob := by rw [List.getElem?_append_right (Nat.le_refl _), Nat.sub_self] at h1; simpa using h1.symm
      have h2' : (z.rho ++ [p])[h.length]? = some r := h2
      have e2 : r = p := by rw [List.getElem?_append_right (by rw [hl]; exact Nat.le_refl _), hl, Nat.sub_self] at h2'; simpa using h2'.symm
      rw [e1, e2]; exact ro
  · show (z.rho ++ [p])[h.length]? = some p
    rw [← hl]; simp
/-- .. one that stays -/
theorem okK.adoptF {x : D} (e0 : Ext z0 z) (hn : z0.H p = none) (c : Cn K g z h) (hp : z.H p = some o) (nr : p ∉ z.rho) (nf : ¬ z.F p) (rd : RelD K g { z with F := fun r => z.F r ∨ r = p } x (.ref p)) (q : okK K g z0 Q (.d x) h) : Q (.ref p) z.H := by
  have ew : ExtW z { z with F := fun r => z.F r ∨ r = p } := ⟨⟨[], by simp⟩, fun _ h => .inl h, fun _ _ _ h => h⟩
  refine q _ { z with F := fun r => z.F r ∨ r = p } ⟨e0.pre, fun r hr => .inl (e0.fz r hr), e0.rx, e0.st, fun r hr => hr.elim (e0.fn r) fun e => .inr (.inl (e ▸ hn)), e0.al⟩ ⟨c.len, c.nd, c.rt, fun r hr => hr.elim (c.ft r) fun e => ⟨_, e ▸ hp⟩, fun i o' r h1 h2 => ?_⟩ rd
  by_cases hd : o' = .dead
  · rw [hd]; trivial
  · exact (c.ob i o' r h1 h2).monoW ew (fun e => e.elim ((c.ob i o' r h1 h2).nf hd) fun e => nr (e ▸ List.mem_of_getElem? h2)) rfl

/-! ### {k: v, ..} -/
abbrev SF := Sl → Hh → Out A
def evPr : List (SF × SF) → Sl → Hh → Out (List (A × A))
  | [], _, h => .ok [] h
  | (f, k) :: r, s, h => (f s h).bind fun a h1 => (k s h1).bind fun b h2 => (evPr r s h2).bind fun q h3 => .ok ((a, b) :: q) h3
/-- how pairs lie -/
inductive RelPs (K : PySem.W.Frag) (g : Gm) (z : Zn) : List (A × A) → List (V × V) → Prop
  | nil : RelPs K g z [] []
  | cons {a b : A} {v w : V} {ps : List (A × A)} {vs : List (V × V)} : RelA K g z a v → RelA K g z b w → RelPs K g z ps vs → RelPs K g z ((a, b) :: ps) ((v, w) :: vs)
theorem pairs_lift {W : WX} {σ : St} : ∀ (fps : List (SF × SF)) {s : Sl} {h : Hh} {z : Zn} {R : List (V × V) → Hp → Prop}, Cn K g z h → RelSl K g z s σ →
    (evPr fps s h).wp (fun ps h' => ∀ vs z', Ext z z' → Cn K g z' h' → RelPs K g z' ps vs → R vs z'.H) (exK K g z σ W) → tPairs (fps.map fun q => (liftE K g W q.1, liftE K g W q.2)) σ z.H R
  | [], s, h, z, R, c, rs, w => w [] z (Ext.refl z) c .nil
  | (f, k) :: r, s, h, z, R, c, rs, w => by
    refine ⟨s, h, z, rfl, c, rs, Out.wp_mono (Out.wp_bind w) (fun a h1 w1 v z1 e1 c1 r1 => ?_) fun _ _ q => q⟩
    refine ⟨s, h1, z1, rfl, c1, rs.mono e1, Out.wp_mono (Out.wp_bind w1) (fun b h2 w2 u z2 e2 c2 r2 => ?_) fun _ _ q => q.ext e1⟩
    refine pairs_lift r c2 (rs.mono (e1.trans e2)) (Out.wp_mono (Out.wp_bind w2) (fun q h3 w3 vs z3 e3 c3 r3 => ?_) fun _ _ q => q.ext (e1.trans e2))
    exact w3 _ z3 ((e1.trans e2).trans e3) c3 (.cons (r1.mono (e2.trans e3)) (r2.mono e3) r3)
/-- pairs whose first ones are keys -/
def keyP : List (A × A) → Option (List (Key × A))
  | [] => some []
  | (.d k, v) :: r => match keyD k, keyP r with
    | some k, some q => some ((k, v) :: q)
    | _, _ => none
  | _ => none
/-- a new table of unlike keys -/
def newD (mu : Bool) (kvs : List (Key × A)) (h : Hh) : Option (A × Hh) :=
  if kvs.length ≤ 15 ∧ (kvs.map (·.1)).Nodup then (if mu then some (.ref h.length, h ++ [.dk kvs]) else (allD (kvs.map (·.2))).map fun ds => (.d (.dk ((kvs.map (·.1)).zip ds)), h)) else none
def dispF (mu : Bool) (fps : List (SF × SF)) : SF := fun s h => (evPr fps s h).bind fun ps h1 => match keyP ps with
  | some kvs => optH (newD mu kvs h1)
  | none => .no
theorem keyP_rel {z : Zn} : ∀ {ps : List (A × A)} {kvs : List (Key × A)} {vs : List (V × V)}, keyP ps = some kvs → RelPs K g z ps vs → ∃ ws : List V, vs = ((kvs.map (·.1)).zip ws).map (fun kv => (kV kv.1, kv.2)) ∧ RelAs K g z (kvs.map (·.2)) ws
  | [], kvs, _, e, .nil => by cases e; exact ⟨[], rfl, .nil⟩
  | (a, b) :: r, kvs, _, e, .cons (v := v) (w := w) ra rb rr => by
    cases a with
    | ref i => cases e
    | d k =>
      rw [keyP] at e
      cases e1 : keyD k with
      | none => rw [e1] at e; cases e
      | some q =>
        cases e2 : keyP r with
        | none => rw [e1, e2] at e; cases e
        | some kq =>
          rw [e1, e2] at e; cases e
          obtain ⟨ws, h1, h2⟩ := keyP_rel e2 rr
          refine ⟨w :: ws, ?_, .cons rb h2⟩
          have hk : v = kV q := by
            cases k <;> (first | (cases e1; cases ra; rfl) | cases e1)
          rw [h1, hk]; rfl
theorem mergeK_new : ∀ (more kvs : List (Key × V)), ((kvs ++ more).map (·.1)).Nodup → mergeK kvs more = kvs ++ more
  | [], kvs, _ => by rw [List.append_nil]; rfl
  | q :: r, kvs, hn => by
    have e : putK kvs q.1 q.2 = kvs ++ [q] := by
      have hq : ∀ kv ∈ kvs, kv.1 ≠ q.1 := fun kv hkv e => by
        rw [List.map_append, List.nodup_append] at hn
        exact hn.2.2 kv.1 (List.mem_map_of_mem hkv) q.1 (by simp) e
      unfold putK
      have : (kvs.any fun kv => decide (kv.1 = q.1)) = false := by
        rw [List.any_eq_false]; intro kv hkv; simpa using hq kv hkv
      simp [this]
    show mergeK (putK kvs q.1 q.2) r = _
    rw [e, mergeK_new r (kvs ++ [q]) (by simpa using hn)]; simp
def APs (g : Gm) (X : Cx) (pos : Pos) (keys : List (Option Expr)) (values : List Expr) (fps : List (SF × SF)) : Prop := ∀ W, Takes X W → PPs X pos keys values (fps.map fun q => (liftE X.K g W q.1, liftE X.K g W q.2))
theorem aps_nil : APs g X pos [] [] [] := fun W tk => pps_nil
theorem aps_cons {k v : Expr} {ks : List (Option Expr)} {vs : List Expr} {f1 f2 : SF} {r : List (SF × SF)} (h1 : AE g X k f1) (h2 : AE g X v f2) (h3 : APs g X pos ks vs r) : APs g X pos (some k :: ks) (v :: vs) ((f1, f2) :: r) := fun W tk => pps_cons (h1 W tk) (h2 W tk) (h3 W tk)
theorem ae_disp {mu : Bool} {keys : List (Option Expr)} {values : List Expr} {fps : List (SF × SF)} (ha : APs g X pos keys values fps) (hall : keys.all (·.isSome) = true) (hl : keys.length = values.length) (h0 : keys ≠ []) (h15 : keys.length ≤ 15) : AE g X (.Dict keys values pos) (dispF mu fps) := by
  intro W tk
  refine (pe_disp (ha W tk) hall hl h0 h15).impM fun σ H Q ⟨s, h, z, hz, c, rs, w⟩ => ?_
  subst hz
  intro p hp
  have ej : Ext z (z.upd p (.dK [])) := Ext.junk hp
  have nr : p ∉ z.rho := fun hm => by obtain ⟨u, e⟩ := c.rt p hm; rw [hp] at e; cases e
  have nf : ¬ z.F p := fun hm => by obtain ⟨u, e⟩ := c.ft p hm; rw [hp] at e; cases e
  refine pairs_lift fps (z := z.upd p (.dK [])) (c.junk hp) (rs.mono ej) ?_
  refine Out.wp_mono (Out.wp_bind w) (fun ps h1 w1 vs z1 e1 c1 r1 => ?_) fun _ _ q => q.ext ej
  obtain ⟨a1, a2, a3⟩ := e1.alien upd_same nr nf
  cases ek : keyP ps with
  | none => rw [ek] at w1; exact w1.elim
  | some kvs =>
    rw [ek] at w1
    obtain ⟨r, er, q⟩ := optH_wp w1
    obtain ⟨ws, ev, rw'⟩ := keyP_rel ek r1
    have hlw : kvs.length = ws.length := by have := rw'.length; simpa using this
    have hk : (((kvs.map (·.1)).zip ws).map (·.1)) = kvs.map (·.1) := by rw [List.map_fst_zip]; simp [hlw]
    unfold newD at er
    split at er
    · rename_i hc
      refine ⟨a1, (kvs.map (·.1)).zip ws, ev, by simp [hlw]; omega, ?_⟩
      rw [mergeK_new _ [] (by rw [List.nil_append, hk]; exact hc.2), List.nil_append]
      have e0 : Ext z (z1.upd p (.dK ((kvs.map (·.1)).zip ws))) := (ej.trans e1).over hp
      have c2 : Cn X.K g (z1.upd p (.dK ((kvs.map (·.1)).zip ws))) h1 := c1.junkW a2 a3
      have r2 : RelAs X.K g (z1.upd p (.dK ((kvs.map (·.1)).zip ws))) (kvs.map (·.2)) ws := RelAs.monoW (ExtW.junkW a3) rw'
      split at er
      · cases er
        have ew : ExtW (z1.upd p (.dK ((kvs.map (·.1)).zip ws))) { z1.upd p (.dK ((kvs.map (·.1)).zip ws)) with rho := z1.rho ++ [p] } := ⟨⟨[p], rfl⟩, fun _ h => h, fun _ _ _ h => h⟩
        have ro : RelO X.K g { z1.upd p (.dK ((kvs.map (·.1)).zip ws)) with rho := z1.rho ++ [p] } (.dk kvs) p := ⟨a3, ws, upd_same, RelAs.monoW ew r2⟩
        exact okK.adoptM e0 hp c2 upd_same a2 a3 ro q
      · obtain ⟨ds, hd, rfl⟩ := map_some er
        rw [allD_eq hd] at r2
        have r3 := RelL.ofAs r2
        have ew : ExtW (z1.upd p (.dK ((kvs.map (·.1)).zip ws))) { z1.upd p (.dK ((kvs.map (·.1)).zip ws)) with F := fun r => z1.F r ∨ r = p } := ⟨⟨[], by simp⟩, fun _ h => .inl h, fun _ _ _ h => h⟩
        have rd : RelD X.K g { z1.upd p (.dK ((kvs.map (·.1)).zip ws)) with F := fun r => z1.F r ∨ r = p } (.dk ((kvs.map (·.1)).zip ds)) (.ref p) := .dk (.inr rfl) (.of upd_same) (by simpa using hlw) (RelL.monoW ew r3)
        exact okK.adoptF e0 hp c2 upd_same a2 a3 rd q
    · cases er

/-! ### count -/
def countM : MF := fun a as h => match as with
  | [.d (.int k)] => match a with
    | .d (.tup xs) => (intsD xs).map fun ns => (.d (.int (ns.count k : Nat)), h)
    | a => (intsA a h).map fun ns => (.d (.int (ns.count k : Nat)), h)
  | _ => none
end
end MP
end S_MPz
section S_MPzr
/-! MPzr: t[::-1] of a tuple. -/
namespace HT
open PySem PySem.Spec PyProof.Rows L2
section
variable {prog : Program} {w : World} {A : Around} {E : Value → Shared → Prop} {s : Shared}
theorem sliceApplied_rev {sl : Addr} {vl vu vs : Value} {n : Nat} {Q : Int × Int × Nat → Shared → Prop} (hs : s.heap.IsSliceOf sl vl vu vs) (pl : IsPart vl none) (pu : IsPart vu none) (ps : IsPart vs (some (-1)))
    (hq : Q ((n : Int) - 1, -1, n) s) : wpAny (model prog w) A (Builtin.Slice.sliceApplied (.ref sl) (pure (n : Int))) Q E s := by
  obtain ⟨os, h1, h2, h3⟩ := id hs
  unfold Builtin.Slice.sliceApplied Builtin.Slice.sliceFields
  refine wpAny_bind (wpAny_bind (wpAny_field h1 h3 (x := vl) rfl (wpAny_bind (wpAny_field h1 h3 (x := vu) rfl (wpAny_bind (wpAny_field h1 h3 (x := vs) rfl (wpAny_pure ?_)))))))
  refine wpAny_bind (slicePart_ ps ?_)
  show wpAny _ _ (if ((-1 : Int) == 0) = true then _ else _) _ _ s
  rw [if_neg (show ¬ ((-1 : Int) == 0) = true by decide)]
  refine wpAny_bind (slicePart_ pl (wpAny_bind (slicePart_ pu (wpAny_bind (wpAny_pure ?_)))))
  have e1 : Builtin.Slice.sliceAdjust none none (-1) (n : Int) = ((n : Int) - 1, -1) := rfl
  have e2 : Builtin.Slice.slicePlaces ((n : Int) - 1) (-1) (-1) = n := by
    unfold Builtin.Slice.slicePlaces
    rw [if_neg (show ¬ (-1 : Int) > 0 by decide)]
    by_cases hn : (n : Int) - 1 > -1
    · rw [if_pos hn]
      have : (((n : Int) - 1 - -1 - 1) / (- -1) + 1) = (n : Int) := by
        rw [show (- -1 : Int) = 1 from rfl, Int.ediv_one]; omega
      rw [this]; simp
    · rw [if_neg hn]
      have : n = 0 := by omega
      rw [this]; rfl
  show wpAny _ _ (match Builtin.Slice.sliceAdjust none none (-1) (n : Int) with | (lo, hi) => pure (lo, (-1 : Int), Builtin.Slice.slicePlaces lo hi (-1))) _ _ s
  rw [e1]
  show wpAny _ _ (pure ((n : Int) - 1, (-1 : Int), Builtin.Slice.slicePlaces ((n : Int) - 1) (-1) (-1))) _ _ s
  rw [e2]
  exact wpAny_pure hq
theorem pick_rev (xs : Array Value) : ((List.range xs.size).filterMap fun (m : Nat) => xs[((xs.size : Int) - 1 + (m : Int) * -1).toNat]?).toArray = xs.toList.reverse.toArray := by
  congr 1
  have key : ∀ k, k ≤ xs.size → (List.range k).filterMap (fun (m : Nat) => xs[((xs.size : Int) - 1 + (m : Int) * -1).toNat]?) = xs.toList.reverse.take k := by
    intro k
    induction k with
    | zero => intro _; simp
    | succ k ih =>
      intro hk
      have e : ((xs.size : Int) - 1 + (k : Int) * -1).toNat = xs.size - 1 - k := by omega
      have hlt : xs.size - 1 - k < xs.size := by omega
      rw [List.range_succ, List.filterMap_append, ih (by omega), List.take_add_one]
      congr 1
      have h2 : xs.toList.reverse[k]? = some xs[xs.size - 1 - k] := by
        rw [List.getElem?_reverse (by simp; omega)]
        simp [hlt]
      rw [h2]
      simp only [List.filterMap_cons, List.filterMap_nil, e, Array.getElem?_eq_getElem hlt]
      rfl
  rw [key _ (Nat.le_refl _), List.take_of_length_le (by simp)]
theorem getItem_tuple_rev {t sl : Addr} {items : Array Value} {vl vu vs : Value} {Q : Value → Shared → Prop} (ht : IsTup s.heap t items) (hs : s.heap.IsSliceOf sl vl vu vs) (pl : IsPart vl none) (pu : IsPart vu none) (ps : IsPart vs (some (-1)))
    (hq : Q (.ref s.heap.objs.size) { s with heap := s.heap.push { cls := .type "tuple", data := .seq items.toList.reverse.toArray } }) (hsz : items.size ≤ sizeLine) : wpAny (model prog w) A (getItem (.ref t) (.ref sl)) Q E s := by
  have hk : sizeOk (.seq items.toList.reverse.toArray) := by
    show items.toList.reverse.toArray.size ≤ sizeLine
    simpa using hsz
  obtain ⟨os, h1, h2, h3⟩ := id hs
  have hT : s.TypeIs (.ref sl) "slice" := ⟨os, h1, h2⟩
  unfold getItem
  try (with_reducible refine wpAny_holding ?_)
  first | (refine wpAny_bind (wpAny_pure ?_)) | skip
  refine wpAny_bind (wpAny_sequenceKey ht.typeIs (by decide) (wpAny_bind (wpAny_callSpecial?_slot (name := Str.ofString "__getitem__") ht.typeIs PyProof.Rows.slot_tuple_getitem (wpAny_call_entry PyProof.Rows.slot_tuple_getitem ht.typeIs entry_tuple_getitem ?_ (args_tuple_getitem _ _)))))
  show wpAny _ _ (Builtin.Tuple.tupleItemsOf (.ref t) >>= fun xs => _) _ _ s
  refine wpAny_bind (tupleItemsOf_ ht (wpAny_bind (wpAny_typeOf hT ?_)))
  rw [if_pos (by decide)]
  refine wpAny_bind (sliceApplied_rev hs pl pu ps ?_)
  have hno : ¬ ((((items.size : Int) - 1) == 0 && (-1 : Int) == 1 && items.size == items.size) = true) := by simp
  show wpAny _ _ (if (((items.size : Int) - 1) == 0 && (-1 : Int) == 1 && items.size == items.size) = true then _ else _) _ _ s
  rw [if_neg hno, pick_rev]
  first
    | exact wpAny_bind (m := Builtin.Tuple.tupleExact _) (wpAny_newObj_type (wpAny_pure ⟨_, rfl, wpAny_pure hq⟩) hk)
    | exact wpAny_bind (m := Builtin.Tuple.tupleExact _) (wpAny_newObj_type (wpAny_bind (wpAny_pure (wpAny_pure ⟨_, rfl, wpAny_pure hq⟩))) hk)
    | exact wpAny_bind (wpAny_bind (m := Builtin.Tuple.tupleExact _) (wpAny_newObj_type (wpAny_pure (wpAny_pure ⟨_, rfl, wpAny_pure hq⟩)) hk))
    | exact wpAny_bind (wpAny_bind (m := Builtin.Tuple.tupleExact _) (wpAny_newObj_type (wpAny_pure ⟨_, rfl, wpAny_pure hq⟩) hk))
end
end HT
namespace L2
open PySem PySem.Spec PyProof.Rows
variable {X : Cx}
def tRevT (K : PySem.W.Frag) (te : TE) : TE := fun σ H Q => te σ H fun x H1 => ∃ a xs, x = .ref a ∧ SqT K H1 a xs ∧ ∀ p, H1 p = none → Q (.ref p) (upd H1 p (.tup xs.reverse))
theorem pe_revT {e : Expr} {te : TE} {k : Nat} {p1 p2 p3 pos : Pos} (he : PE X e te) : PE X (.Subscript e (.Slice none none (some (.UnaryOp .USub (.Constant (.int 1) k p1) p2)) p3) pos) (tRevT X.K te) := by
  refine ⟨fun pins s σ H Q I hh => Subscript_ (thn (he.run pins s σ H _ I hh) fun v s1 ⟨x, H1, I1, r1, a, xs, ex, hx, q⟩ => ?_)⟩
  subst ex
  cases r1
  have ho : PO X (some (.UnaryOp .USub (.Constant (.int 1) k p1) p2)) (tPart (tUn (rU fun i => .int (-i)) (tC (.int 1)))) := po_some (pe_un un_neg pe_int)
  refine wpAny_Slice (thn (po_none.run pins s1 σ H1 (fun o H2 => o = none ∧ H2 = H1) I1 ⟨rfl, rfl⟩) fun vl s2 ⟨l, H2, I2, pl, el, e2⟩ => thn (po_none.run pins s2 σ H2 (fun o H3 => o = none ∧ H3 = H2) I2 ⟨rfl, rfl⟩) fun vu s3 ⟨u, H3, I3, pu, eu, e3⟩ => ?_)
  subst el e2 eu e3
  refine thn (ho.run pins s3 σ _ (fun o H4 => o = some (-1) ∧ H4 = _) I3 ⟨1, rfl, -1, rfl, rfl, rfl⟩) fun vs s4 ⟨o, H4, I4, ps, eo, e4⟩ => ?_
  subst eo e4
  have I5 : Inv X pins σ _ { s4 with heap := s4.heap.push { cls := .type "slice", data := .fields #[vl, vu, vs] } } := I4.kept (t' := s4.toks) (fun b ob => Heap.get?_push_of_some _)
  obtain ⟨its, r, ht, hz⟩ := I5.tuple hx
  have hl := r.length
  show wpAny (model X.prog X.w) X.A (subscriptTail e (.Slice none none (some (.UnaryOp .USub (.Constant (.int 1) k p1) p2)) p3) (.ref a) (.ref s4.heap.objs.size)) _ X.xe _
  refine tail_any (ops := [.ref a, .ref s4.heap.objs.size]) ht.typeIs PyProof.Rows.slot_tuple_getitem.lookup (HT.getItem_tuple_rev ht (Heap.IsSliceOf.new _ vl vu vs) pl pu ps ?_ (by rw [List.size_toArray]; omega)) (by with_unfolding_all rfl)
  refine ⟨.ref _, _, I5.laid (t' := s4.toks) (o := .tup xs.reverse) (fun b ob => Heap.get?_push_of_some _) (Nat.le_refl _) ?_, rfl, q _ (I5.hok.fresh (Nat.le_refl _))⟩
  exact ⟨by rw [List.length_reverse]; exact hz, _, r.reverse, IsTup.new _ _⟩
end L2
namespace MP
open PySem L2
section
variable {g : Gm} {X : Cx} {pos : Pos}
def revA : A → Option A
  | .d (.tup xs) => if turnsD xs.reverse = false then some (.d (.tup xs.reverse)) else none
  | _ => none
theorem RelL.reverse {K : PySem.W.Frag} {z : Zn} {a : List D} {v : List V} (r : RelL K g z a v) : RelL K g z a.reverse v.reverse := by
  induction a generalizing v with
  | nil => cases r; exact .nil
  | cons x xs ih =>
    cases r with
    | cons r1 r2 => rw [List.reverse_cons, List.reverse_cons]; exact (ih r2).append (.cons r1 .nil)
theorem ae_rev {a : Expr} {k : Nat} {p1 p2 p3 : Pos} {fa : Sl → Hh → Out A} (ha : AE g X a fa) : AE g X (.Subscript a (.Slice none none (some (.UnaryOp .USub (.Constant (.int 1) k p1) p2)) p3) pos) (fun s h => (fa s h).bind fun x h1 => opt (revA x) h1) := by
  intro W tk
  refine (pe_revT (ha W tk)).impM fun σ H Q ⟨s, h, z, hz, c, rs, w⟩ => ?_
  refine ⟨s, h, z, hz, c, rs, Out.wp_mono (Out.wp_bind w) (fun x h1 w1 v z1 e1 c1 r1 => ?_) fun _ _ q => q⟩
  obtain ⟨y, ey, q⟩ := opt_wp w1
  unfold revA at ey
  split at ey
  · split at ey
    · rename_i ht
      cases ey
      obtain ⟨p, vs, rfl, sq, l⟩ := RelD.tup_inv r1
      refine ⟨p, vs, rfl, sq, fun p' hp => ?_⟩
      exact (q.ext e1).frozen c1 hp fun z' ez f e => .tup f e (l.reverse.mono ez) ht
    · cases ey
  · cases ey
end
end MP
end S_MPzr
section S_MPzt
/-! MPzt: try: .. except X: .., where nothing is raised. -/
namespace MP
open PySem L2
section
variable {g : Gm} {X : Cx} {pos pos' np : Pos}
def noEx : OS → OS
  | .ex _ _ _ => .no
  | o => o
/-- the frame's own context -/
structure Fro (X : Cx) : Prop where
  po : PassesOwn (model X.prog X.w) X.A X.env X.xe
  st : X.stack = X.env :: X.outer
  fr : X.env.frame = some X.env.locals
theorem as_try {x : Str} {c : Value} {body suite : List Stmt} {b₀ : Stmt} {fb : Sl → Hh → OS} (hs : X.stack = X.env :: X.outer) (hf : X.env.frame = some X.env.locals) (hc : Names X x c)
    (hb : ∀ (pn : List (Addr × Obj)) (xe : Value → Shared → Prop), PassesOwn (model X.prog X.w) X.A X.env xe → ASs g (X.tr pn xe) body fb) :
    AS g X (.Try body [.ExceptHandler (some (.Name x np)) none (b₀ :: suite) pos'] [] [] pos) (fun s h => noEx (fb s h)) := by
  intro W tk
  refine (ps_try_only (tb := fun W' => liftS X.K g W' fb) (ts := fun _ _ _ _ _ _ => False) (Wout := W) hs hf hc tk (fun W' pn xe tk' hp' => hb pn xe hp' W' tk') (fun a oe cls d pn _ _ => ⟨fun pins s σ H D I h => h.elim⟩)).impM fun D σ H ⟨s, h, z, hz, c, rs, w⟩ => ⟨s, h, z, hz, c, rs, ?_⟩
  dsimp only at w
  cases e : fb s h <;> rw [e] at w
  · exact w
  · exact w
  · exact w
  · exact w
  · exact w.elim
  · exact w.elim
end
end MP
end S_MPzt
section S_MPzd
/-! MPzd: {k: v for target in iter if ..}, keys ints or texts. -/
namespace L2
open PySem PySem.Spec PyProof.Rows
section
variable {J : It} {n : Nat} {G : Hp → Prop} {Y : Nat → Hp → V → Hp → Prop}
theorem dc_it (w : Walk J n G Y) {g : TG} {tt : TT} {tk tv : TE} {vs : List Nat} {σ : St} {H1 : Hp} {D : Addr} {Qd : Hp → Prop} (Pv : Nat → Hp → Prop) (h0 : Pv 0 (upd H1 D (.dK []))) (hG : ∀ i H, i ≤ n → Pv i H → G H)
    (hs : ∀ i x H H', i < n → Pv i H → Y i H x H' → g x (wipe σ vs) H' fun σ2 H2 => wipe σ2 vs = wipe σ vs ∧ tt σ2 H2 fun b H3 => if b = true then tk σ2 H3 fun y H4 => tv σ2 H4 fun z H5 => ∃ kvs k, y = kV k ∧ H5 D = some (.dK kvs) ∧ kvs.length < sizeLine ∧ Pv (i + 1) (upd H5 D (.dK (putK kvs k z))) else Pv (i + 1) H3) (hd : ∀ H, Pv n H → Qd H) :
    ∃ W : Nat → Nat → Hp → Prop, (∃ m, W 0 m (upd H1 D (.dK []))) ∧ ∀ i m H, W i m H → (J.stop i H ∧ Qd H) ∨ (J.go i H ∧ ∃ Nx : Hp → Prop, (∀ H', Nx H' → ∃ m', m' < m ∧ W (i + 1) m' H') ∧ ∀ x H', J.yld i H x H' → g x (wipe σ vs) H' fun σ2 H2 => wipe σ2 vs = wipe σ vs ∧ tt σ2 H2 fun b H3 =>
        if b = true then tk σ2 H3 fun y H4 => tv σ2 H4 fun z H5 => ∃ kvs k, y = kV k ∧ H5 D = some (.dK kvs) ∧ kvs.length < sizeLine ∧ Nx (upd H5 D (.dK (putK kvs k z))) else Nx H3) := by
  refine ⟨fun i m H => (m = n - i ∧ i ≤ n) ∧ Pv i H, ⟨n, ⟨rfl, Nat.zero_le _⟩, h0⟩, fun i m H ⟨⟨em, hi⟩, p⟩ => ?_⟩
  have q := hG i H hi p
  rcases Nat.lt_or_ge i n with hlt | hge
  · exact .inr ⟨w.goes i H hlt q, Pv (i + 1), fun H' p' => ⟨n - (i + 1), by omega, ⟨rfl, hlt⟩, p'⟩, fun x H' y => hs i x H H' hlt p (w.yields i H x H' hlt q y)⟩
  · obtain rfl : i = n := by omega
    exact .inl ⟨w.stops H q, hd H p⟩
end
end L2
namespace MP
open PySem L2
section
variable {g : Gm} {X : Cx} {pos : Pos}
/-- a turn -/
def turnD2 (ft : A → Sl → Option Sl) (ff : Sl → Hh → Out Bool) (fk fv : Sl → Hh → Out A) (s : Sl) (x : A) (h : Hh) : Out (Option (A × A)) := match ft x s with
  | none => .no
  | some s2 => (ff s2 h).bind fun k h1 => if k = true then (fk s2 h1).bind fun a h2 => (fv s2 h2).bind fun b h3 => .ok (some (a, b)) h3 else .ok none h1
open Classical in
noncomputable def loopD (fe : A → Hh → Out (Option (A × A))) (m : Option Nat) (h0 : Hh) : List A → List (Key × A) → Hh → Out (List (Key × A))
  | [], tab, h => .ok tab h
  | x :: r, tab, h => match fe x h with
    | .ok none h' => if keepO m h0 h' then loopD fe m h0 r tab h' else .no
    | .ok (some (.d k, v)) h' => match keyD k with
      | some k => if keepO m h0 h' ∧ tab.length < sizeLine then loopD fe m h0 r (put tab k v) h' else .no
      | none => .no
    | _ => .no
/-- a new table -/
def newT (mu : Bool) (tab : List (Key × A)) (h : Hh) : Option (A × Hh) := if mu then some (.ref h.length, h ++ [.dk tab]) else (allD (tab.map (·.2))).map fun ds => (.d (.dk ((tab.map (·.1)).zip ds)), h)
noncomputable def dcompF (mu : Bool) (fi : Sl → Hh → Out (List A × Option Nat)) (ft : A → Sl → Option Sl) (ff : Sl → Hh → Out Bool) (fk fv : Sl → Hh → Out A) (own : List Nat) : Sl → Hh → Out A := fun s h =>
  (fi s h).bind fun p h1 => (loopD (turnD2 ft ff fk fv (wipeS s own)) p.2 h1 p.1 [] h1).bind fun tab h2 => optH (newT mu tab h2)
theorem loopD_ex {fe : A → Hh → Out (Option (A × A))} {m : Option Nat} {h0 : Hh} : ∀ {xs : List A} {tab : List (Key × A)} {h : Hh} {e : D} {h' : Hh}, loopD fe m h0 xs tab h ≠ .ex e h'
  | [], tab, h, e, h', q => by cases q
  | x :: r, tab, h, e, h', q => by
    rw [loopD] at q
    split at q
    · split at q
      · exact loopD_ex q
      · cases q
    · split at q
      · split at q
        · exact loopD_ex q
        · cases q
      · cases q
    · cases q
theorem dc_lift {mu : Bool} {fi : Sl → Hh → Out (List A × Option Nat)} {is : List Nat} {ft : A → Sl → Option Sl} {ff : Sl → Hh → Out Bool} {fk fv : Sl → Hh → Out A} {own : List Nat} {W : WX} {σ : St} {H : Hp} {Q : VK} (hsub : ∀ i ∈ is, i ∈ own)
    (hw : liftE X.K g W (dcompF mu fi ft ff fk fv own) σ H Q) :
    tDc (liftI X.K g W fi) (liftG X.K g is ft) (liftT X.K g (fun _ _ _ _ => False) ff) (liftE X.K g (fun _ _ _ _ => False) fk) (liftE X.K g (fun _ _ _ _ => False) fv) own σ H Q := by
  obtain ⟨s, h, z, hz, c, rs, w⟩ := hw
  unfold dcompF at w
  refine ⟨s, h, z, hz, c, rs, Out.wp_mono (Out.wp_bind w) (fun p h1 w1 J z1 e1 c1 ij => ?_) fun _ _ q => q⟩
  obtain ⟨xs, m⟩ := p
  obtain ⟨G, Y, wk, hG, hY⟩ := ij
  intro Dd hD
  have w1' := Out.wp_mono w1 (fun _ _ q => okK.ext e1 q) fun _ _ q => exK.ext e1 q
  dsimp only at w1'
  have nD : Dd ∉ z1.rho := fun hm => by obtain ⟨o, e⟩ := c1.rt Dd hm; rw [hD] at e; cases e
  let P : Nat → Hp → Prop := fun i H' => ∃ (h' : Hh) (z' : Zn) (tab : List (Key × A)) (vs : List V), z'.H = H' ∧ Ext z1 z' ∧ Cn X.K g z' h' ∧ keepO m h1 h' ∧ z'.H Dd = some (.dK ((tab.map (·.1)).zip vs)) ∧ Dd ∉ z'.rho ∧ ¬ z'.F Dd ∧ RelAs X.K g z' (tab.map (·.2)) vs ∧
    ((loopD (turnD2 ft ff fk fv (wipeS s own)) m h1 (xs.drop i) tab h').bind fun tab h2 => optH (newT mu tab h2)).wp (okK X.K g z1 Q) (exK X.K g z1 σ W)
  refine dc_it (g := liftG X.K g is ft) (tt := liftT X.K g (fun _ _ _ _ => False) ff) (tk := liftE X.K g (fun _ _ _ _ => False) fk) (tv := liftE X.K g (fun _ _ _ _ => False) fv) wk P ?_ ?_ ?_ ?_
  · exact ⟨h1, z1.upd Dd (.dK []), [], [], rfl, Ext.junk hD, c1.junk hD, keepO_refl m h1, upd_same, nD, c1.nF hD, .nil, by rw [List.drop_zero]; exact w1'⟩
  · rintro i H' hi ⟨h', z', tab, vs, rfl, e', c', k', _⟩
    exact hG z' h' e' c' k'
  · rintro i x H' H2 hlt ⟨h', z', tab, vs, rfl, e', c', k', hv, nr, nf, ra, w'⟩ y
    obtain ⟨z3, a, rfl, e3, c3, ea, rx⟩ := hY i z' h' x H2 hlt e' c' k' y
    have hd : xs.drop i = a :: xs.drop (i + 1) := by
      rw [List.drop_eq_getElem_cons hlt]
      congr 1
      rw [List.getElem?_eq_getElem hlt] at ea
      exact Option.some.inj ea
    rw [hd, loopD] at w'
    have rw0 : RelSl X.K g z3 (wipeS s own) (L2.wipe σ own) := ((rs.mono e1).mono (e'.trans e3)).wipe own
    unfold turnD2 at w'
    cases eft : ft a (wipeS s own) with
    | none => rw [eft] at w'; exact w'.elim
    | some s2 =>
    rw [eft] at w'
    dsimp only at w'
    refine ⟨a, _, s2, z3, rfl, rx, rw0, eft, fun σ1 rs1 tc => ⟨wipe_eq_of tc hsub, s2, h', z3, rfl, c3, rs1, ?_⟩⟩
    have k3 := e3.alien hv nr nf
    cases eff : ff s2 h' with
    | no => rw [eff] at w'; exact w'.elim
    | ex e h4 => rw [eff] at w'; exact w'.elim
    | ok k h4 =>
    rw [eff, Out.bind_ok] at w'
    intro z4 e4 c4
    have k4 := e4.alien k3.1 k3.2.1 k3.2.2
    cases k with
    | false =>
      rw [if_neg (by decide)] at w' ⊢
      dsimp only at w'
      split at w'
      · rename_i hk
        exact ⟨h4, z4, tab, vs, rfl, (e'.trans e3).trans e4, c4, hk, k4.1, k4.2.1, k4.2.2, ra.mono (e3.trans e4), w'⟩
      · exact w'.elim
    | true =>
      rw [if_pos rfl] at w' ⊢
      refine ⟨s2, h4, z4, rfl, c4, rs1.mono e4, ?_⟩
      cases efk : fk s2 h4 with
      | no => rw [efk] at w'; exact w'.elim
      | ex e h5 => rw [efk] at w'; exact w'.elim
      | ok ak h5 =>
      rw [efk, Out.bind_ok] at w'
      intro vk z5 e5 c5 r5
      have k5 := e5.alien k4.1 k4.2.1 k4.2.2
      refine ⟨s2, h5, z5, rfl, c5, rs1.mono (e4.trans e5), ?_⟩
      cases efv : fv s2 h5 with
      | no => rw [efv] at w'; exact w'.elim
      | ex e h6 => rw [efv] at w'; exact w'.elim
      | ok av h6 =>
      rw [efv, Out.bind_ok] at w'
      intro vv z6 e6 c6 r6
      have k6 := e6.alien k5.1 k5.2.1 k5.2.2
      cases ak with
      | ref j => exact w'.elim
      | d kd =>
      dsimp only at w'
      cases ekk : keyD kd with
      | none => rw [ekk] at w'; exact w'.elim
      | some kk =>
      rw [ekk] at w'
      dsimp only at w'
      split at w'
      · rename_i hk
        have hvk : vk = kV kk := by
          cases kd <;> (first | (cases ekk; cases r5; rfl) | cases ekk)
        have ra6 : RelAs X.K g z6 (tab.map (·.2)) vs := ra.mono (((e3.trans e4).trans e5).trans e6)
        obtain ⟨vs', p1, p2⟩ := put_rel (k := kk) r6 ra6
        have ew : ExtW z6 (z6.upd Dd (.dK (((put tab kk av).map (·.1)).zip vs'))) := ExtW.junkW k6.2.2
        refine ⟨(tab.map (·.1)).zip vs, kk, hvk, k6.1, by rw [put_len ra6]; exact hk.2, ?_⟩
        rw [p1]
        exact ⟨h6, z6.upd Dd (.dK (((put tab kk av).map (·.1)).zip vs')), put tab kk av, vs', rfl, ((((e'.trans e3).trans e4).trans e5).trans e6).over hD, c6.junkW k6.2.1 k6.2.2, hk.1, upd_same, k6.2.1, k6.2.2, RelAs.monoW ew p2, w'⟩
      · exact w'.elim
  · rintro H' ⟨h', z', tab, vs, rfl, e', c', k', hv, nr, nf, ra, w'⟩
    rw [List.drop_length, loopD, Out.bind_ok] at w'
    obtain ⟨r, er, q⟩ := optH_wp w'
    unfold newT at er
    split at er
    · cases er
      have ew : ExtW z' { z' with rho := z'.rho ++ [Dd] } := ⟨⟨[Dd], rfl⟩, fun _ h => h, fun _ _ _ h => h⟩
      have ro : RelO X.K g { z' with rho := z'.rho ++ [Dd] } (.dk tab) Dd := ⟨nf, vs, hv, RelAs.monoW ew ra⟩
      exact okK.adoptM e' hD c' hv nr nf ro q
    · obtain ⟨ds, hd, rfl⟩ := map_some er
      rw [allD_eq hd] at ra
      have hlw : (tab.map (·.1)).length = vs.length := by have := ra.length; have h2 := congrArg List.length (allD_eq hd); simp at *; omega
      have ew : ExtW z' { z' with F := fun r => z'.F r ∨ r = Dd } := ⟨⟨[], by simp⟩, fun _ h => .inl h, fun _ _ _ h => h⟩
      have rd : RelD X.K g { z' with F := fun r => z'.F r ∨ r = Dd } (.dk ((tab.map (·.1)).zip ds)) (.ref Dd) := .dk (.inr rfl) (.of hv) hlw (RelL.monoW ew (RelL.ofAs ra))
      exact okK.adoptF e' hD c' hv nr nf rd q
theorem ae_dc {mu : Bool} {kx vx tg iter : Expr} {ifs : List Expr} {scope : Scope} {own : List (Str × Nat)} {fi : Sl → Hh → Out (List A × Option Nat)} {is : List Nat} {ft : A → Sl → Option Sl} {ff : Sl → Hh → Out Bool} {fk fv : Sl → Hh → Out A} (hc : X.calm = true) (hN : X.N.Nodup) (hi : AI g X tg iter fi) (ok : BlkOk X.N X.env.scope scope own) (hsub : ∀ i ∈ is, i ∈ own.map (·.2))
    (hg : ∀ (s : Shared) (H : Hp) (C : Addr) (cl : List (Str × Addr)) (fp : List Addr), AG g (X.blk s H scope (compEnvC scope cl C X.env) fp) tg is ft)
    (ht : ∀ (s : Shared) (H : Hp) (C : Addr) (cl : List (Str × Addr)) (fp : List Addr), PTs (X.blk s H scope (compEnvC scope cl C X.env) fp) ifs (liftT X.K g (fun _ _ _ _ => False) ff))
    (hk : ∀ (s : Shared) (H : Hp) (C : Addr) (cl : List (Str × Addr)) (fp : List Addr), AE g (X.blk s H scope (compEnvC scope cl C X.env) fp) kx fk)
    (hv : ∀ (s : Shared) (H : Hp) (C : Addr) (cl : List (Str × Addr)) (fp : List Addr), AE g (X.blk s H scope (compEnvC scope cl C X.env) fp) vx fv) (hs : ∀ x, foldedSetIterable iter X.env x = pure x) :
    AE g X (.DictComp kx vx [⟨tg, iter, ifs, 0⟩] scope pos) (dcompF mu fi ft ff fk fv (own.map (·.2))) := by
  intro W tk
  exact (pe_dc (g := liftG X.K g is ft) (tt := liftT X.K g (fun _ _ _ _ => False) ff) (tk := liftE X.K g (fun _ _ _ _ => False) fk) (tv := liftE X.K g (fun _ _ _ _ => False) fv) hc hN (hi W tk) ok hg ht (fun s H C cl fp => hk s H C cl fp _ takesF) (fun s H C cl fp => hv s H C cl fp _ takesF) hs).impM fun σ H Q hw => dc_lift hsub hw
end
end MP
end S_MPzd
section S_MPcm
/-! MPcm: C.m(..), m a classmethod; cls(..) where cls is a local. -/
namespace MP
open PySem L2
section
variable {g : Gm} {X : Cx} {pos apos p : Pos} {K : PySem.W.Frag} {z : Zn} {h : Hh}
/-- a local that holds a class is called -/
def makeV (fo : Sl → Hh → Out A) (c : Nat) (mk : Sl → Hh → Out A) (s : Sl) (h : Hh) : Out A := (fo s h).bind fun a h1 => match a with
  | .d (.cls c') => if c' = c then mk s h1 else .no
  | _ => .no
theorem ae_makeV {x : Str} {c f np n : Nat} {mu : Bool} {ks : List Str} {sh : Fill} {fd : FuncData} {ps : List Str} {k : Nat} {C : CallT} {es : List Expr} {kws : List Keyword} {fo : Sl → Hh → Out A} {fs fk : Sl → Hh → Out (List A)} (ho : AE g X (.Name x p) fo) (M : Mk X.K (g.ca c) (g.fa f)) (F : FnG X.prog X.w X.K X.mg X.base (L2.CX X.prog X.w) k (g.fa f) fd ps (spF X.K g C np f)) (hr : Room (k + 1) X.A) (hgd : X.A.guards = some [])
    (hb : BindOk X.K g fd ps (n + 1) ks sh) (ha : AA g X es fs) (hnil : es = [] → fs = fun _ h => .ok [] h) (hkw : AK g X kws fk) (hn : noStar es = true) (hks : kwNames kws = some ks) :
    AE g X (.Call (.Name x p) es kws pos) (makeV fo c (makeF C mu c (g.lay c).length np f n ks.length sh fs fk)) := by
  intro W tk
  refine ⟨fun pins s0 σ H Q I ⟨s, h, z, hz, c0, rs, w⟩ => ?_⟩
  unfold makeV at w
  have w' : liftE X.K g W fo σ H fun v H1 => ∃ a h1 z1, z1.H = H1 ∧ Cn X.K g z1 h1 ∧ RelSl X.K g z1 s σ ∧ RelA X.K g z1 a v ∧ (match a with | .d (.cls c') => if c' = c then makeF C mu c (g.lay c).length np f n ks.length sh fs fk s h1 else .no | _ => .no : Out A).wp (okK X.K g z1 Q) (exK X.K g z1 σ W) :=
    ⟨s, h, z, hz, c0, rs, Out.wp_mono (Out.wp_bind w) (fun a h1 w1 v z1 e1 c1 r1 => ⟨a, h1, z1, rfl, c1, rs.mono e1, r1, Out.wp_mono w1 (fun _ _ q => okK.ext e1 q) fun _ _ q => exK.ext e1 q⟩) fun _ _ q => q⟩
  refine wpAny_Call_Name_kw (thn ((ho W tk).run pins s0 σ H _ I w') fun u s1 ⟨v, H1, I1, rv, a, h1, z1, hz1, c1, rs1, ra, w1⟩ => ?_)
  subst hz1
  split at w1
  · rename_i c'
    split at w1
    · rename_i hc
      subst hc
      cases ra
      obtain rfl : u = Value.ref (g.ca c') := rv
      exact make_with M F hr hgd hb ha hnil hkw hn hks tk I1 ⟨s, h1, z1, rfl, c1, rs1, w1⟩
    · exact w1.elim
  · exact w1.elim
/-- the call of a bound method's record, keywords too -/
theorem callwM {pins : List (Addr × Obj)} {s : Shared} {σ : St} {H : Hp} {q fg : Addr} {self : Value} {first : List Value} {es : List Expr} {kws : List Keyword} {ks : List Str} {t tk : TA} {R : List V → List V → Hp → Prop} {Q : Value → Shared → Prop} (I : Inv X ((q, PySem.W.methodObj (.ref fg) self) :: pins) σ H s) (hf : PySem.W.fnIn X.K fg = true) (hn : noStar es = true) (hks : kwNames kws = some ks) (ha : PA X es t) (h0 : es = [] → ∀ σ H Q, t σ H Q → Q [] H) (hkw : PK X kws tk)
    (h : t σ H fun vs H1 => tk σ H1 fun zs H2 => R vs zs H2)
    (hR : ∀ us ws s2 vs zs H2, Inv X ((q, PySem.W.methodObj (.ref fg) self) :: pins) σ H2 s2 → Vals vs us → Vals zs ws → R vs zs H2 → wpAny (model X.prog X.w) X.A (call (.ref q) (first ++ us) (ks.zip ws)) Q X.xe s2) :
    wpAny (model X.prog X.w) X.A (callWith pos (.ref q) first (backTo pos (starEach es X.env)) (backToKw pos (keywordEach kws X.env))) Q X.xe s := by
  obtain ⟨k1, k2, k3⟩ := kw_facts (pos := pos) (env := X.env) hks
  cases es with
  | nil =>
    refine PySem.W.callWith_of (P := PySem.W.MethP X.K q fg self) (by rw [k3]; rfl) (PySem.W.keeps_M hf) (PyProof.Rows.evalArgs_kw2_nil k1 (thn (hkw.run pos _ s σ H _ I (h0 rfl σ H _ h)) fun ws s2 ⟨zs, H2, I2, rz, q2⟩ => ⟨⟨ClX.pin_at I2, I2.kIn⟩, ?_⟩))
    rw [k2]
    exact hR [] ws s2 [] zs H2 I2 .nil rz q2
  | cons e es =>
    refine PySem.W.callWith_of (P := PySem.W.MethP X.K q fg self) (by rw [noStar_any hn, k3]; rfl) (PySem.W.keeps_M hf) (PyProof.Rows.evalArgs_kw2 k1 (thn (ha.run pos _ s σ H _ I h) fun us s1 ⟨vs, H1, I1, r, q⟩ => ?_) (star_cons (noStar_cons hn).1))
    refine thn (hkw.run pos _ s1 σ H1 _ I1 q) fun ws s2 ⟨zs, H2, I2, rz, q2⟩ => ⟨⟨ClX.pin_at I2, I2.kIn⟩, ?_⟩
    rw [k2]
    exact hR us ws s2 vs zs H2 I2 r rz q2
theorem run_cmW {pins : List (Addr × Obj)} {σ : St} {H : Hp} {s : Shared} {Q : VK} {us us' : List Value} {kw : List (Str × Value)} {vs : List V} {W : WX} {k : Nat} {q f : Addr} {self : Value} {fd : FuncData} {ps : List Str} {sp : Sp} (F : FnG X.prog X.w X.K X.mg X.base (L2.CX X.prog X.w) k f fd ps sp) (hr : Room k X.A) (hgd : X.A.guards = some []) (tk : Takes X W)
    (hb : BindsTo s fd ⟨self :: us, kw⟩ (ps.zip us')) (I : Inv X ((q, PySem.W.methodObj (.ref f) self) :: pins) σ H s) (r : Vals vs us') (h : sp vs H Q (fun cls d H' => W cls d σ H')) : wpAny (model X.prog X.w) X.A (call (.ref q) us kw) (EP X pins σ Q) X.xe s := by
  have z : wpAny (model X.prog X.w) X.A (call (.ref q) us kw) (EP X ((q, PySem.W.methodObj (.ref f) self) :: pins) σ Q) X.xe s := by
    refine wpAny_call (PySem.W.method_call (ClX.pin_at I) (codeAny_mono (F.run X.A X.stack s H ⟨self :: us, kw⟩ us' vs Q _ hr hgd I.env0 hb r h) fun r s' hq => ?_))
    cases r with
    | error e => exact passAt tk σ _ H s e s' I hq
    | ok fl =>
      cases fl with
      | ret u => exact I.after hq
      | next => exact False.elim hq
      | brk => exact False.elim hq
      | cont => exact False.elim hq
  exact thn z fun _ _ y => ClX.unpinE y
def cmethF (C : CallT) (tb : Nat → Option (Nat × Nat × Fill)) (n m : Nat) (fo : Sl → Hh → Out A) (fs fk : Sl → Hh → Out (List A)) (s : Sl) (h : Hh) : Out A := (fo s h).bind fun a h1 => match a with
  | .d (.cls c) => match tb c with
    | some (f, np, sh) => (argF1 n m sh a fs fk s h1).bind (callF C np f)
    | none => .no
  | _ => .no
theorem ae_cmeth {o : Expr} {m : Str} {n : Nat} {ks : List Str} {k : Nat} {C : CallT} {tb : Nat → Option (Nat × Nat × Fill)} {es : List Expr} {kws : List Keyword} {fo : Sl → Hh → Out A} {fs fk : Sl → Hh → Out (List A)} (ho : AE g X o fo)
    (hM : ∀ c f np sh, tb c = some (f, np, sh) → ∃ mc pp, ClX.CRead X.K (g.ca c) mc ∧ ClX.CMet X.K (g.ca c) mc m pp (g.fa f) ∧ ∃ fd ps, FnG X.prog X.w X.K X.mg X.base (L2.CX X.prog X.w) k (g.fa f) fd ps (spF X.K g C np f) ∧ BindOk X.K g fd ps (n + 1) ks sh) (hr : Room k X.A) (hgd : X.A.guards = some [])
    (ha : AA g X es fs) (hnil : es = [] → fs = fun _ h => .ok [] h) (hkw : AK g X kws fk) (hb : notSup o = true) (hn : noStar es = true) (hks : kwNames kws = some ks) (hlen : es.length + kws.length + 1 < 30) (hline : (apos.endLine == pos.line) = true) :
    AE g X (.Call (.Attribute o m apos) es kws pos) (cmethF C tb n ks.length fo fs fk) := by
  intro W tk
  refine ⟨fun pins s0 σ H Q I ⟨s, h, z, hz, c0, rs, w⟩ => ?_⟩
  unfold cmethF at w
  have w' : liftE X.K g W fo σ H fun v H1 => ∃ a h1 z1, z1.H = H1 ∧ Cn X.K g z1 h1 ∧ RelSl X.K g z1 s σ ∧ RelA X.K g z1 a v ∧ (match a with | .d (.cls c) => (match tb c with | some (f, np, sh) => (argF1 n ks.length sh a fs fk s h1).bind (callF C np f) | none => .no) | _ => .no : Out A).wp (okK X.K g z1 Q) (exK X.K g z1 σ W) :=
    ⟨s, h, z, hz, c0, rs, Out.wp_mono (Out.wp_bind w) (fun a h1 w1 v z1 e1 c1 r1 => ⟨a, h1, z1, rfl, c1, rs.mono e1, r1, Out.wp_mono w1 (fun _ _ q => okK.ext e1 q) fun _ _ q => exK.ext e1 q⟩) fun _ _ q => q⟩
  refine PySem.W.methodCall_KW (pl := (do return (← importBound o X.env).getD true)) (thn ((ho W tk).run pins s0 σ H _ I w') fun u s1 ⟨x, H1, I1, rx, a, h1, z1, hz1, c1, rs1, ra, w1⟩ => ?_) (meth_eq hb hn hks hlen hline)
  subst hz1
  split at w1
  · rename_i a c
    cases et : tb c with
    | none => rw [et] at w1; exact w1.elim
    | some t =>
      obtain ⟨f, np, sh⟩ := t
      rw [et] at w1
      have w1 : ((argF1 n ks.length sh (.d (.cls c)) fs fk s h1).bind (callF C np f)).wp (okK X.K g z1 Q) (exK X.K g z1 σ W) := w1
      obtain ⟨mc, pp, cr, cm, fd, ps, F, hbd⟩ := hM c f np sh et
      obtain rfl : x = .ref (g.ca c) := by cases ra; rfl
      obtain rfl : u = Value.ref (g.ca c) := rx
      refine ClX.getmethcm_ok I1 cr cm fun s2 I2 => ?_
      have w' : liftA X.K g W fs σ z1.H fun vs H1 => liftA X.K g W fk σ H1 fun zs H2 => ∃ as bs h2 z2, z2.H = H2 ∧ Cn X.K g z2 h2 ∧ RelA X.K g z2 (.d (.cls c)) (.ref (g.ca c)) ∧ RelAs X.K g z2 as vs ∧ RelAs X.K g z2 bs zs ∧
          ((if as.length = n ∧ bs.length = ks.length then opt (fillA sh (.d (.cls c) :: (as ++ bs))) h2 else .no).bind (callF C np f)).wp (okK X.K g z2 Q) (exK X.K g z2 σ W) := by
        have w2 := Out.wp_bind w1
        unfold argF1 at w2
        refine ⟨s, h1, z1, rfl, c1, rs1, Out.wp_mono (Out.wp_bind w2) (fun as h2 w3 vs z2 e2 c2 r2 => ?_) fun _ _ q => q⟩
        refine ⟨s, h2, z2, rfl, c2, rs1.mono e2, Out.wp_mono (Out.wp_bind w3) (fun bs h3 w4 zs z3 e3 c3 r3 => ?_) fun _ _ q => q.ext e2⟩
        have e23 := e2.trans e3
        refine ⟨as, bs, h3, z3, rfl, c3, ra.mono e23, r2.mono e3, r3, ?_⟩
        split at w4
        · rename_i hl
          rw [if_pos hl]
          cases ef : fillA sh (.d (.cls c) :: (as ++ bs)) with
          | none => rw [ef] at w4; exact w4.elim
          | some as' =>
            rw [ef] at w4
            exact Out.wp_mono (show (callF C np f as' h3).wp _ _ from w4) (fun _ _ q => q.ext e23) fun _ _ q => q.ext e23
        · exact w4.elim
      refine callwM (first := []) I2 cm.fi hn hks (ha W tk) (fun e0 => lift_nil (hnil e0)) (hkw W tk) w' fun us ws s2 vs zs H2 I2 rv rz ⟨as, bs, h2, z2, hz2, c2, ra2, rb, rc, w3⟩ => ?_
      subst hz2
      split at w3
      · rename_i hl
        cases ef : fillA sh (.d (.cls c) :: (as ++ bs)) with
        | none => rw [ef] at w3; exact w3.elim
        | some as' =>
          rw [ef] at w3
          have w4 : (callF C np f as' h2).wp (okK X.K g z2 Q) (exK X.K g z2 σ W) := w3
          unfold callF at w4
          split at w4
          · rename_i hnp
            have rv1 : Vals (V.ref (g.ca c) :: vs) (Value.ref (g.ca c) :: us) := .cons rfl rv
            obtain ⟨us', vs', hbt, rv', hrel⟩ := hbd.to s2 (Value.ref (g.ca c) :: us) ws (.ref (g.ca c) :: vs) zs I2.kIn (by rw [← rv1.length, List.length_cons, ← rb.length]; rw [hl.1]) (by rw [← rz.length, ← rc.length]; exact hl.2) rv1 rz
            have ra' := hrel z2 _ _ (.cons ra2 (rb.append rc)) ef
            exact run_cmW F hr hgd tk hbt I2 rv' ⟨by rw [← ra'.length]; exact hnp, as', h2, z2, rfl, c2, ra', Out.wp_mono w4 (fun _ _ q => q) fun _ _ q => RelSl.ex (s := s) (Ext.refl z2) q⟩
          · exact w4.elim
      · exact w3.elim
  · exact w1.elim
end
end MP
end S_MPcm
section S_MPdt
/-! MPdt: dict(t) of a tuple of pairs (name, thing). -/
namespace MP
open PySem L2
section
variable {g : Gm} {X : Cx} {K : PySem.W.Frag} {z : Zn}
theorem mergeK_nodup : ∀ (more acc : List (Key × V)), ((acc ++ more).map (·.1)).Nodup → mergeK acc more = acc ++ more
  | [], acc, _ => by simp [mergeK]
  | q :: r, acc, h => by
    have h1 : mergeK acc (q :: r) = mergeK (putK acc q.1 q.2) r := rfl
    have h2 : putK acc q.1 q.2 = acc ++ [q] := by
      unfold putK
      rw [if_neg]
      intro he
      rw [List.any_eq_true] at he
      obtain ⟨kv, hm, hk⟩ := he
      have hk := of_decide_eq_true hk
      rw [List.map_append, List.nodup_append] at h
      exact h.2.2 kv.1 (List.mem_map_of_mem hm) q.1 (List.mem_map_of_mem List.mem_cons_self) hk
    rw [h1, h2, mergeK_nodup r (acc ++ [q]) (by simpa using h)]
    simp
theorem call_dictT (hcalm : X.calm = true) : CallR X (.type "dict") (fun xs H Q => ∃ (a : Addr) (o : Obj) (ps : List Addr) (kvs : List (Key × V)), xs = [.ref a] ∧ H a = some (.frz o (.tup (ps.map V.ref))) ∧ o.dict = none ∧ Paired (fun p kv => SqT X.K H p [kV kv.1, kv.2]) ps kvs ∧
    ∀ p, H p = none → Q (.ref p) (upd H p (.dK (mergeK [] kvs)))) := by
  intro pins s σ H xs us Q I r q
  obtain ⟨a, o, ps, kvs, ex, hq, hd, hp, q⟩ := q
  subst ex
  obtain ⟨u, eu, rx⟩ := vals1 r
  subst eu
  cases rx
  obtain ⟨ho, hz, its, rv, o', ho', hc, n, hdat⟩ := (show ObjOk X.prog X.w H s.heap a (.frz o (.tup (ps.map V.ref))) from I.hok a _ hq)
  rw [ho] at ho'
  cases ho'
  have ei := refs_at rv
  subst ei
  rw [List.length_map] at hz
  obtain ⟨prs, rel, hl, hpr⟩ := pairs_of I hp
  let Ts : Nat → Addr := fun j => (ps[j]?).getD 0
  -- the pairs as values
  have ex : ∃ vps : List (Value × Value), vps.length = prs.length ∧ ∀ (j : Nat) (q : Key × Value), prs[j]? = some q → ∃ b u, vps[j]? = some (u, q.2) ∧ ps[j]? = some b ∧ PyProof.Rows.IsTup s.heap b #[u, q.2] ∧ keyIs q.1 u = true := by
    clear rel
    have gen : ∀ (l : List (Key × Value)) (f : Nat → Option Addr), (∀ (j : Nat) (q : Key × Value), l[j]? = some q → ∃ b u, f j = some b ∧ PyProof.Rows.IsTup s.heap b #[u, q.2] ∧ keyIs q.1 u = true) → ∃ vps : List (Value × Value), vps.length = l.length ∧ ∀ (j : Nat) (q : Key × Value), l[j]? = some q → ∃ b u, vps[j]? = some (u, q.2) ∧ f j = some b ∧ PyProof.Rows.IsTup s.heap b #[u, q.2] ∧ keyIs q.1 u = true := by
      intro l
      induction l with
      | nil => intro f _; exact ⟨[], rfl, fun j q e => by simp at e⟩
      | cons x r ih =>
        intro f hf
        obtain ⟨vps, e1, e2⟩ := ih (fun j => f (j + 1)) fun j q e => hf (j + 1) q (by simpa using e)
        obtain ⟨b, u, f1, f2, f3⟩ := hf 0 x rfl
        refine ⟨(u, x.2) :: vps, by simp [e1], fun j q e => ?_⟩
        cases j with
        | zero =>
          have : x = q := by simpa using e
          subst this
          exact ⟨b, u, rfl, f1, f2, f3⟩
        | succ j =>
          obtain ⟨b', u', g1, g2⟩ := e2 j q (by simpa using e)
          exact ⟨b', u', by simpa using g1, g2⟩
    exact gen prs (fun j => ps[j]?) fun j q e => hpr j q e
  obtain ⟨vps, hvl, hv⟩ := ex
  have PA := PairArg.tuple (prog := X.prog) (w := X.w) a (ps.map Value.ref).toArray Ts vps
  refine PySem.call_dict_pairs (knd := mixKind X.prog X.w) (kvs := prs) PA (I.ok.hd hcalm) ⟨⟨o, n, ho, hc, hd, hdat⟩, ?_, fun j k v e => ?_⟩ ⟨by rw [hvl], fun i k v e => ?_⟩ (by rw [hvl, hl]; exact hz) fun h' tk hd' kp => ?_
  · simp [hvl, hl]
  · have hj : j < prs.length := by rw [← hvl]; exact (List.getElem?_eq_some_iff.mp e).1
    obtain ⟨b, u, g1, g2, g3, g4⟩ := hv j prs[j] (List.getElem?_eq_getElem hj)
    rw [e] at g1
    have e1 : k = u := by injection g1 with g1; exact congrArg Prod.fst g1
    have e2 : v = prs[j].2 := by injection g1 with g1; exact congrArg Prod.snd g1
    subst e1 e2
    refine ⟨?_, ?_⟩
    · have : Ts j = b := by show (ps[j]?).getD 0 = b; rw [g2]; rfl
      rw [this]; simp [g2]
    · have : Ts j = b := by show (ps[j]?).getD 0 = b; rw [g2]; rfl
      rw [this]
      exact .inl g3
  · have e : vps[i]? = some (k, v) := e
    have hj : i < prs.length := by rw [← hvl]; exact (List.getElem?_eq_some_iff.mp e).1
    obtain ⟨b, u, g1, g2, g3, g4⟩ := hv i prs[i] (List.getElem?_eq_getElem hj)
    rw [e] at g1
    have e1 : k = u := by injection g1 with g1; exact congrArg Prod.fst g1
    have e2 : v = prs[i].2 := by injection g1 with g1; exact congrArg Prod.snd g1
    subst e1 e2
    exact ⟨prs[i].1, List.getElem?_eq_getElem hj, g4⟩
  · have hm : (s.heap.objs.size == sysModules) = false := beq_eq_false_iff_ne.mpr (Nat.ne_of_gt I.big)
    have hlen : (mergeK [] kvs).length ≤ sizeLine := by
      refine Nat.le_trans (length_mergeK kvs []) ?_
      rw [List.length_nil, Nat.zero_add, rel.length, hl]
      exact hz
    exact ⟨.ref s.heap.objs.size, upd H s.heap.objs.size (.dK (mergeK [] kvs)), I.laid (t' := tk) (fun b ob e => kp b ob (by simp) e) (Nat.le_refl _) (show ObjOk X.prog X.w _ _ _ (.dK (mergeK [] kvs)) from ⟨hlen, hm, merged [] prs, KV.merge rel .nil, hd'⟩), rfl, q _ (I.hok.fresh (Nat.le_refl _))⟩
def pairsK : List D → Option (List (Key × D))
  | [] => some []
  | .tup [.str x, v] :: r => (pairsK r).map fun q => (.inr x, v) :: q
  | _ => none
def dictA : BF := fun as h => match as with
  | [.d (.tup xs)] => if turnsD xs = true then (match pairsK xs with
    | some kvs => if (kvs.map (·.1)).Nodup then some (.d (.dk kvs), h) else none
    | none => none) else none
  | _ => none
theorem pairsK_rel : ∀ {xs : List D} {kvs : List (Key × D)} {vs : List V}, pairsK xs = some kvs → RelL K g z xs vs → ∃ (ps : List Addr) (ws : List V), vs = ps.map V.ref ∧ ws.length = kvs.length ∧ RelL K g z (kvs.map (·.2)) ws ∧ Paired (fun p kv => SqT K z.H p [kV kv.1, kv.2]) ps ((kvs.map (·.1)).zip ws)
  | [], kvs, vs, e, r => by
    rw [pairsK] at e
    cases e; cases r
    exact ⟨[], [], rfl, rfl, .nil, .nil⟩
  | x :: xs, kvs, vs, e, r => by
    cases r with
    | cons r1 r2 =>
      unfold pairsK at e
      split at e
      · rename_i e1; cases e1
      · rename_i y v r' e1
        cases e1
        obtain ⟨kr, hr, rfl⟩ := map_some e
        obtain ⟨ps, ws, rfl, hl, h3, h4⟩ := pairsK_rel hr r2
        obtain ⟨p, vs', rfl, sq, l⟩ := RelD.tup_inv r1
        cases l with
        | cons l1 l2 =>
          cases l1
          cases l2 with
          | cons l3 l4 =>
            cases l4
            rename_i w
            exact ⟨p :: ps, w :: ws, rfl, by simp [hl], .cons l3 h3, .cons sq h4⟩
      · cases e
theorem cr_dictA (hcalm : X.calm = true) : CallR X (.type "dict") (liftC X.K g dictA) := by
  intro pins s σ H xs us Q I rv ⟨as, h, z, r, hz, c, ra, e, q⟩
  subst hz
  unfold dictA at e
  split at e
  · rename_i xs
    split at e
    · rename_i ht
      split at e
      · rename_i kvs hk
        split at e
        · rename_i hn
          cases e
          obtain ⟨v, rfl, r1⟩ := ra.one
          cases r1 with
          | tup f x l t => rw [ht] at t; cases t
          | tupK => cases ht
          | tupF f x d l t =>
            obtain ⟨ps, ws, rfl, hl, h3, h4⟩ := pairsK_rel hk l
            have hm : mergeK [] ((kvs.map (·.1)).zip ws) = (kvs.map (·.1)).zip ws := by
              have := mergeK_nodup ((kvs.map (·.1)).zip ws) [] (by
                rw [List.nil_append, List.map_fst_zip (by simp [hl])]; exact hn)
              rwa [List.nil_append] at this
            refine call_dictT hcalm pins s σ z.H _ us Q I rv ⟨_, _, ps, (kvs.map (·.1)).zip ws, rfl, x, d, h4, fun p hp => ?_⟩
            rw [hm]
            have ek : kvs = (kvs.map (·.1)).zip (kvs.map (·.2)) := (zip_fst_snd kvs).symm
            refine okK.frozen q c hp fun z' ez f e => ?_
            rw [ek]
            exact .dk f (.of e) (by simp [hl]) (h3.mono ez)
        · cases e
      · cases e
    · cases e
  · cases e
end
end MP
end S_MPdt
section S_MPx
/-! MPx: the abstract language and what it means. -/
namespace MP
open PySem L2

/-! ### the language -/
mutual
inductive Tg where
  | name (i : Nat)
  | tup (ts : Tgs)
inductive Tgs where
  | nil
  | cons (t : Tg) (r : Tgs)
end
inductive Bi where
  | len | abs | min | max | sum | int | str | bool | list (mu : Bool) | tuple | sorted (mu : Bool) | all | any | divmod | repr | dict
  deriving DecidableEq
inductive Mt where
  | append | insert | pop | extend | join | split (mu : Bool)
  deriving DecidableEq
mutual
inductive E where
  | k (x : D)
  | glo (x : Str)
  | var (i : Nat)
  | bin (o : BOp) (a b : E)
  | neg (a : E)
  | cmp (o : COp) (a b : E)
  | chain (o p : COp) (a b c : E)
  | bop (an : Bool) (es : Es)
  | not (a : E)
  | ite (c a b : E)
  | tup (es : Es)
  | lst (mu : Bool) (es : Es)
  | sub (a b : E)
  | slice (a : E) (lo hi : Eo)
  | attr (a : E) (f : Str)
  | call (f : Nat) (ks : List Str) (es kw : Es)
  | make (c : Nat) (ks : List Str) (es kw : Es)
  | meth (a : E) (m : Str) (ks : List Str) (es kw : Es)
  | bi (b : Bi) (es : Es)
  | isi (a : E) (t : Kd)
  | bm (m : Mt) (a : E) (es : Es)
  | comp (mu : Bool) (e : E) (own : List Nat) (t : Tg) (it : It) (c : Eo)
  | inG (ne : Bool) (a : E) (x : Str)
  | subG (x : Str) (a : E)
  | lrng (tp mu : Bool) (lo : Eo) (hi : E)
  | rev (a : E)
  | dct (mu : Bool) (ps : Eps)
  | dcomp (mu : Bool) (k v : E) (own : List Nat) (t : Tg) (it : It) (c : Eo)
  | gcl (c : Nat)
  | cmeth (a : E) (m : Str) (ks : List Str) (es kw : Es)
  | makeV (a : E) (c : Nat) (ks : List Str) (es kw : Es)
inductive Es where
  | nil
  | cons (e : E) (r : Es)
  | star (e : E) (r : Es)
inductive Eo where
  | none
  | some (e : E)
inductive Eps where
  | nil
  | cons (k v : E) (r : Eps)
inductive It where
  | val (e : E)
  | rng (es : Es)
  | enum (e : E)
end
mutual
inductive Lv where
  | tg (t : Tg)
  | sub (o i : E)
  | tup (ls : Lvs)
inductive Lvs where
  | nil
  | cons (l : Lv) (r : Lvs)
end
mutual
inductive S where
  | asg (l : Lv) (e : E)
  | par (is : List Nat) (es : Es)
  | fld (o : E) (f : Str) (e : E)
  | expr (e : E)
  | ret (e : E)
  | retn
  | ifs (c : E) (a b : Ss)
  | for_ (t : Tg) (it : It) (b : Ss)
  | while_ (c : E) (b : Ss)
  | stop
  | try_ (b : Ss) (x : Str)
  | pass
  | brk
  | cont
inductive Ss where
  | nil
  | cons (a : S) (r : Ss)
end
structure Fn where
  np : Nat
  ns : Nat
  body : Ss
  keep : Bool := false
structure Cl where
  init : Nat
  mu : Bool
structure Tab where
  fn : Nat → Option Fn
  cl : Nat → Option Cl
  np : Nat → Nat
  glo : Str → Option D
  gt : Str → Option (List D)
  gd : Str → Option (List (Str × Int))
  prop : Nat → Str → Option Nat
  meth : Nat → Str → Option Nat
  cmeth : Nat → Str → Option Nat
  len : Nat → Option Nat
  str : Nat → Option Nat
  bool : Nat → Option Nat
  eq : Nat → Option Nat
  lay : Nat → List Str
  shape : Nat → Nat → List Str → Option Fill
  isi : Kd → Kd → Option Bool
  kinds : List Kd

/-! ### targets -/
def Tgs.len : Tgs → Nat
  | .nil => 0
  | .cons _ r => r.len + 1
mutual
def Tg.set : Tg → A → Sl → Option Sl
  | .name i, a, s => some (s.set i (some a))
  | .tup ts, a, s => match a with
    | .d (.tup xs) => if xs.length = ts.len then Tgs.set ts (xs.map .d) s else none
    | _ => none
def Tgs.set : Tgs → List A → Sl → Option Sl
  | .nil, as, s => match as with
    | [] => some s
    | _ => none
  | .cons t r, as, s => match as with
    | a :: q => (Tg.set t a s).bind fun s' => Tgs.set r q s'
    | [] => none
end
mutual
def Tg.is : Tg → List Nat
  | .name i => [i]
  | .tup ts => ts.is
def Tgs.is : Tgs → List Nat
  | .nil => []
  | .cons t r => t.is ++ r.is
end

/-! ### what expressions mean -/
def biF (T : Tab) (C : CallT) : Bi → BF
  | .len => lenO C T.len
  | .abs => absA
  | .min => minA
  | .max => maxA
  | .sum => sumA
  | .int => intTA
  | .str => strO C T.str
  | .bool => boolO C T.bool
  | .list mu => listA mu
  | .tuple => tupleA
  | .sorted mu => sortedA mu
  | .all => allA
  | .any => anyA
  | .divmod => divmodA
  | .repr => reprA
  | .dict => dictA
def Mt.ty : Mt → String
  | .join => "str"
  | .split _ => "str"
  | _ => "list"
def mtF : Mt → MF
  | .append => appendM
  | .insert => insertM
  | .pop => popM
  | .extend => extendM
  | .join => joinM
  | .split mu => splitM mu
def Es.len : Es → Nat
  | .nil => 0
  | .cons _ r => r.len + 1
  | .star _ r => r.len + 1
/-- a.f: a property of the class, or a field -/
def attrF (T : Tab) (C : CallT) (f : Str) (a : A) (h : Hh) : Out A := match (clsA a h).bind fun c => T.prop c f with
  | some g => match C g [a] h with
    | .ok b h2 => .ok b h2
    | _ => .no
  | none => opt (fldA T.lay f a h) h
/-- a value, and the same as a test -/
structure VT where
  v : Sl → Hh → Out A
  t : Sl → Hh → Out Bool
def vt (v : Sl → Hh → Out A) : VT := ⟨v, fun s h => (v s h).bind fun a h1 => opt (truthO a h1) h1⟩
noncomputable section
mutual
def evP (T : Tab) (C : CallT) : E → VT
  | .k x => vt fun _ h => .ok (.d x) h
  | .glo x => vt fun _ h => opt ((T.glo x).map .d) h
  | .var i => vt fun s h => opt (getS s i) h
  | .bin o a b => vt fun s h => ((evP T C a).v s h).bind fun x h1 => ((evP T C b).v s h1).bind fun y h2 => opt (binA o x y h2) h2
  | .neg a => vt fun s h => ((evP T C a).v s h).bind fun x h1 => opt (negA x) h1
  | .cmp o a b => vt fun s h => ((evP T C a).v s h).bind fun x h1 => ((evP T C b).v s h1).bind fun y h2 => optH (cmpO C T.eq T.kinds o x y h2)
  | .chain o p a b c => vt fun s h => ((evP T C a).v s h).bind fun x h1 => ((evP T C b).v s h1).bind fun y h2 => (opt (cmpA o x y h2) h2).bind fun r h3 => (opt (blA r) h3).bind fun k h3 => if k = true then ((evP T C c).v s h3).bind fun w h4 => opt (cmpA p y w h4) h4 else .ok (.d (.bl false)) h3
  | .bop an es => evB T C an es
  | .not a => ⟨fun s h => ((evP T C a).v s h).bind fun x h1 => (opt (blA x) h1).bind fun k h1 => .ok (.d (.bl (!k))) h1, fun s h => ((evP T C a).t s h).bind fun k h1 => .ok (!k) h1⟩
  | .ite c a b => ⟨fun s h => ((evP T C c).t s h).bind fun k h1 => if k = true then (evP T C a).v s h1 else (evP T C b).v s h1, fun _ _ => .no⟩
  | .tup es => vt fun s h => (evs T C es s h).bind fun xs h1 => opt (tupA xs) h1
  | .lst mu es => vt fun s h => (evs T C es s h).bind fun xs h1 => optH (newL mu xs h1)
  | .sub a b => vt fun s h => ((evP T C a).v s h).bind fun x h1 => ((evP T C b).v s h1).bind fun y h2 => opt (subF x y h2) h2
  | .slice a lo hi => vt fun s h => ((evP T C a).v s h).bind fun x h1 => (evo T C lo s h1).bind fun l h2 => (evo T C hi s h2).bind fun u h3 => opt (sliceA x l u h3) h3
  | .attr a f => vt fun s h => ((evP T C a).v s h).bind fun x h1 => attrF T C f x h1
  | .call f ks es kw => vt fun s h => match T.shape f es.len ks with
    | some sh => (argF es.len ks.length sh (evs T C es) (evs T C kw) s h).bind (callF C (T.np f) f)
    | none => .no
  | .make c ks es kw => vt fun s h => match T.cl c with
    | some cl => match T.shape cl.init (es.len + 1) ks with
      | some sh => makeF C cl.mu c (T.lay c).length (T.np cl.init) cl.init es.len ks.length sh (evs T C es) (evs T C kw) s h
      | none => .no
    | none => .no
  | .meth a m ks es kw => vt fun s h => ((evP T C a).v s h).bind fun x h1 => match (clsA x h1).bind fun c => (T.meth c m).bind fun f => (T.shape f (es.len + 1) ks).map fun sh => (f, T.np f, sh) with
    | some (f, np, sh) => (argF1 es.len ks.length sh x (evs T C es) (evs T C kw) s h1).bind (callF C np f)
    | none => .no
  | .gcl c => vt fun _ h => .ok (.d (.cls c)) h
  | .cmeth a m ks es kw => vt fun s h => cmethF C (fun c => (T.cmeth c m).bind fun f => (T.shape f (es.len + 1) ks).map fun sh => (f, T.np f, sh)) es.len ks.length (evP T C a).v (evs T C es) (evs T C kw) s h
  | .makeV a c ks es kw => vt fun s h => match T.cl c with
    | some cl => match T.shape cl.init (es.len + 1) ks with
      | some sh => makeV (evP T C a).v c (makeF C cl.mu c (T.lay c).length (T.np cl.init) cl.init es.len ks.length sh (evs T C es) (evs T C kw)) s h
      | none => .no
    | none => .no
  | .bi b es => vt fun s h => (evs T C es s h).bind fun as h1 => optH (biF T C b as h1)
  | .isi a t => vt fun s h => ((evP T C a).v s h).bind fun x h1 => opt (match kindA x h1 with | some k => (T.isi k t).map fun b => .d (.bl b) | none => none) h1
  | .bm m a es => vt fun s h => bmF m.ty (mtF m) (evP T C a).v (evs T C es) s h
  | .inG ne a x => vt fun s h => ((evP T C a).v s h).bind fun v h1 => opt ((T.gt x).bind fun xs => MP.inG ne xs v h1) h1
  | .subG x a => vt fun s h => ((evP T C a).v s h).bind fun v h1 => opt ((T.gd x).bind fun kvs => MP.subG kvs v) h1
  | .lrng tp mu lo hi => vt fun s h => lrngF tp mu (evo T C lo) (evP T C hi).v s h
  | .rev a => vt fun s h => ((evP T C a).v s h).bind fun x h1 => opt (revA x) h1
  | .dct mu ps => vt fun s h => dispF mu (evd T C ps) s h
  | .dcomp mu k v own t it c => vt fun s h => dcompF mu (evi T C it) t.set (evc T C c) (evP T C k).v (evP T C v).v own s h
  | .comp mu e own t it c => vt fun s h => compF mu (evi T C it) t.set (evc T C c) (evP T C e).v own s h
def evd (T : Tab) (C : CallT) : Eps → List (SF × SF)
  | .nil => []
  | .cons k v r => ((evP T C k).v, (evP T C v).v) :: evd T C r
def evs (T : Tab) (C : CallT) : Es → Sl → Hh → Out (List A)
  | .nil, _, h => .ok [] h
  | .cons e r, s, h => ((evP T C e).v s h).bind fun a h1 => (evs T C r s h1).bind fun as h2 => .ok (a :: as) h2
  | .star e r, s, h => ((evP T C e).v s h).bind fun a h1 => (opt (asSeq a h1) h1).bind fun xs h1 => (evs T C r s h1).bind fun as h2 => .ok (xs ++ as) h2
def evB (T : Tab) (C : CallT) (an : Bool) : Es → VT
  | .nil => vt fun _ _ => .no
  | .cons e .nil => evP T C e
  | .cons e r => ⟨fun s h => ((evP T C e).v s h).bind fun x h1 => (opt (blA x) h1).bind fun k h1 => if k = an then (evB T C an r).v s h1 else .ok (.d (.bl (!an))) h1, fun s h => ((evP T C e).t s h).bind fun k h1 => if k = an then (evB T C an r).t s h1 else .ok (!an) h1⟩
  | .star _ _ => vt fun _ _ => .no
def evo (T : Tab) (C : CallT) : Eo → Sl → Hh → Out (Option Int)
  | .none, _, h => .ok none h
  | .some e, s, h => ((evP T C e).v s h).bind fun a h1 => (opt (intA a) h1).bind fun i h1 => .ok (some i) h1
def evc (T : Tab) (C : CallT) : Eo → Sl → Hh → Out Bool
  | .none, _, h => .ok true h
  | .some e, s, h => (evP T C e).t s h
def evi (T : Tab) (C : CallT) : It → Sl → Hh → Out (List A × Option Nat)
  | .val e, s, h => ((evP T C e).v s h).bind fun a h1 => opt (iterV a h1) h1
  | .rng es, s, h => (evs T C es s h).bind fun as h1 => opt (rngA as) h1
  | .enum e, s, h => ((evP T C e).v s h).bind fun a h1 => opt (enumA a) h1
end
def ev (T : Tab) (C : CallT) (e : E) : Sl → Hh → Out A := (evP T C e).v
def evT (T : Tab) (C : CallT) (e : E) : Sl → Hh → Out Bool := (evP T C e).t

/-! ### statements -/
mutual
def evL (T : Tab) (C : CallT) : Lv → A → Sl → Hh → Out Sl
  | .tg t, a, s, h => match t.set a s with
    | some s' => .ok s' h
    | none => .no
  | .sub o i, v, s, h => (ev T C o s h).bind fun a h1 => (ev T C i s h1).bind fun b h2 => match setA a b v h2 with
    | some h3 => .ok s h3
    | none => .no
  | .tup ls, a, s, h => match a with
    | .d (.tup xs) => if xs.length = ls.len then evLs T C ls (xs.map .d) s h else .no
    | _ => .no
def evLs (T : Tab) (C : CallT) : Lvs → List A → Sl → Hh → Out Sl
  | .nil, as, s, h => match as with
    | [] => .ok s h
    | _ => .no
  | .cons l r, as, s, h => match as with
    | a :: q => (evL T C l a s h).bind fun s' h' => evLs T C r q s' h'
    | [] => .no
def Lvs.len : Lvs → Nat
  | .nil => 0
  | .cons _ r => r.len + 1
end
def setAll : List Nat → List A → Sl → Option Sl
  | [], [], s => some s
  | i :: is, a :: as, s => setAll is as (s.set i (some a))
  | _, _, _ => none
mutual
def exS1 (T : Tab) (C : CallT) : S → Sl → Hh → OS
  | .asg l e, s, h => (ev T C e s h).st s fun a h1 => match evL T C l a s h1 with
    | .ok s' h2 => .nx s' h2
    | _ => .no
  | .par is es, s, h => (evs T C es s h).st s fun as h1 => match setAll is as s with
    | some s' => .nx s' h1
    | none => .no
  | .fld o f e, s, h => (ev T C e s h).st s fun v h1 => (ev T C o s h1).st s fun a h2 => match setFA T.lay f a v h2 with
    | some h3 => .nx s h3
    | none => .no
  | .expr e, s, h => (ev T C e s h).st s fun _ h1 => .nx s h1
  | .ret e, s, h => (ev T C e s h).st s fun a h1 => .rt a h1
  | .retn, _, h => .rt (.d .non) h
  | .ifs c a b, s, h => (evT T C c s h).st s fun k h1 => if k = true then exSs T C a s h1 else exSs T C b s h1
  | .for_ t it b, s, h => (evi T C it s h).st s fun p h1 => loopF t.set (exSs T C b) p.2 h1 p.1 s h1
  | .while_ c b, s, h => whileF (evT T C c) (exSs T C b) s h
  | .stop, _, _ => .no
  | .try_ b _, s, h => noEx (exSs T C b s h)
  | .pass, s, h => .nx s h
  | .brk, s, h => .bk s h
  | .cont, s, h => .ct s h
def exSs (T : Tab) (C : CallT) : Ss → Sl → Hh → OS
  | .nil, s, h => .nx s h
  | .cons a r, s, h => (exS1 T C a s h).seq (exSs T C r)
end

/-! ### calls -/
def finC (keep : Bool) (n : Nat) : OS → Out A
  | .nx _ h => if keep then .ok (.d .non) h else optH (retA n (.d .non) h)
  | .rt a h => if keep then .ok a h else optH (retA n a h)
  | .ex e _ h => if keep then .ex e h else (match cut n h with | some h' => .ex e h' | none => .no)
  | _ => .no
def startS (ns : Nat) (as : List A) : Sl := as.map some ++ List.replicate (ns - as.length) none
def callN (T : Tab) : Nat → CallT
  | 0 => fun _ _ _ => .no
  | n + 1 => fun f as h => match T.fn f with
    | none => .no
    | some F => if as.length = F.np then finC F.keep h.length (exSs T (callN T n) F.body (startS F.ns as) h) else .no
end
end MP
end S_MPx
section S_MPy
/-! MPy: the checker: an abstract term fits a tree of the text; and what is known of the text behind its top. -/
namespace MP
open PySem L2

/-- the module's names -/
structure Nm where
  gf : Str → Option Nat
  gc : Str → Option Nat
  free : Str → Bool

structure Lib (T : Tab) (nm : Nm) (g : Gm) (C : CallT) (k : Nat) (P : Program) (w : World) (K : PySem.W.Frag) (mg : Str → Option Value) (base : Heap) (fd : Nat → FuncData) (ps : Nat → List Str) : Prop where
  gf : ∀ x f, nm.gf x = some f → mg x = some (.ref (g.fa f)) ∧ PySem.W.keepIn K (.ref (g.fa f)) = true
  gc : ∀ x c, nm.gc x = some c → mg x = some (.ref (g.ca c))
  free : ∀ x, nm.free x = true → mg x = none
  glo : ∀ x d, T.glo x = some d → ∃ u v, mg x = some u ∧ RelV v u ∧ ∀ z, RelD K g z d v
  gt : ∀ x xs, T.gt x = some xs → ∃ p, mg x = some (.ref p) ∧ ∀ h, K.In h → Sh h (.tup xs) (.ref p)
  gd : ∀ x kvs, T.gd x = some kvs → ∃ p, mg x = some (.ref p) ∧ ∀ k n, kvs.lookup k = some n → KDct K w p k (.int n)
  fok : ∀ f, (T.fn f).isSome = true → FnG P w K mg base (L2.CX P w) k (g.fa f) (fd f) (ps f) (spF K g C (T.np f) f)
  mks : ∀ c cl, T.cl c = some cl → Mk K (g.ca c) (g.fa cl.init)
  bind : ∀ f n ks sh, T.shape f n ks = some sh → BindOk K g (fd f) (ps f) n ks sh ∧ (T.fn f).isSome = true
  lay : g.lay = T.lay
  fld : ∀ c f, f ∈ T.lay c → Cls K (g.ca c) ∧ NoAttr K (g.ca c) f
  small : ∀ c, (T.lay c).length < 1000
  meth : ∀ c m f, T.meth c m = some f → Cls K (g.ca c) ∧ Meth K (g.ca c) m (g.fa f) ∧ m ∉ T.lay c
  cmeth : ∀ c m f, T.cmeth c m = some f → ∃ mc pp, ClX.CRead K (g.ca c) mc ∧ ClX.CMet K (g.ca c) mc m pp (g.fa f)
  prop : ∀ c m f, T.prop c m = some f → Cls K (g.ca c) ∧ (∃ q, PropOf K (g.ca c) m q (g.fa f)) ∧ T.np f = 1 ∧ (T.fn f).isSome = true ∧ Binds K (fd f) (ps f) []
  own : ∀ (tb : Nat → Option Nat) (name : Str), (tb, name) ∈ [(T.len, ("__len__" : Str)), (T.str, "__str__"), (T.bool, "__bool__")] → ∀ c f, tb c = some f → PySem.W.findIn K (.ref (g.ca c)) name = some (some (.ref (g.fa f))) ∧ PySem.W.isFn K (.ref (g.fa f)) = true ∧ T.np f = 1 ∧ (T.fn f).isSome = true ∧ Binds K (fd f) (ps f) []
  eq : ∀ c f, T.eq c = some f → PySem.W.findIn K (.ref (g.ca c)) "__eq__" = some (some (.ref (g.fa f))) ∧ PySem.W.isFn K (.ref (g.fa f)) = true ∧ T.np f = 2 ∧ (T.fn f).isSome = true ∧ Binds K (fd f) (ps f) [] ∧
    PySem.W.findIn K (.ref (g.ca c)) "__ne__" = some (some (.builtin "object.__ne__")) ∧ PySem.W.mroIn K (g.ca c) (.type "object") = some true ∧ ∀ k ∈ T.kinds, PySem.W.notFirst K (g.ca c) (kdV g k) = true
  kinds : ∀ i, .own i ∈ T.kinds → InsK K (g.ca i)
  isi : ∀ k t b, T.isi k t = some b → PySem.W.kitOne K (kdV g k) (kdV g t) = some b ∧ ∀ i, k = .own i → InsK K (g.ca i)

structure Ck where
  N : List Str
  sc : Scope
  fnl : Str → Bool
structure Good (T : Tab) (nm : Nm) (g : Gm) (C : CallT) (k : Nat) (fd : Nat → FuncData) (ps : Nat → List Str) (c : Ck) (X : Cx) : Prop where
  lib : Lib T nm g C k X.prog X.w X.K X.mg X.base fd ps
  room : Room (k + 2) X.A
  gd : X.A.guards = some []
  calm : X.calm = true
  N : X.N = c.N
  nd : c.N.Nodup
  sc : X.env.scope = c.sc
  fn : ∀ x, c.fnl x = true → X.fn x = true ∨ c.sc.names.lookup x = some .local

/-! ### names -/
def vis (c : Ck) (x : Str) : Bool := match c.sc.names.lookup x with
  | some .local => true
  | some .cell => true
  | some .free => true
  | _ => false
def loc (c : Ck) (x : Str) : Bool := match c.sc.names.lookup x with
  | some .local => true
  | some .cell => true
  | _ => false
def glb (c : Ck) (x : Str) : Bool := decide (c.sc.names.lookup x = some .globalImplicit) && !(x == ("__debug__" : Str))
/-- the context of a comprehension -/
def Ck.blk (c : Ck) (scope : Scope) : Ck := { c with sc := relS scope c.sc, fnl := fun x => decide (scope.names.lookup x = some .cell) || decide ((relS scope c.sc).names.lookup x = some .local) }
section
variable {T : Tab} {nm : Nm} {g : Gm} {C : CallT} {k : Nat} {fd : Nat → FuncData} {ps : Nat → List Str} {c : Ck} {X : Cx}
theorem vis_of (G : Good T nm g C k fd ps c X) {x : Str} (h : vis c x = true) : Vis X.env.scope x := by
  rw [G.sc]
  unfold vis at h
  unfold Vis
  split at h <;> simp_all
theorem loc_of (G : Good T nm g C k fd ps c X) {x : Str} (h : loc c x = true) : L2.Loc X.env.scope x := by
  rw [G.sc]
  unfold loc at h
  unfold L2.Loc
  split at h <;> simp_all
theorem glb_of (G : Good T nm g C k fd ps c X) {x : Str} (h : glb c x = true) : Gl X x ∧ (x == ("__debug__" : Str)) = false := by
  unfold glb at h
  rw [Bool.and_eq_true, decide_eq_true_eq] at h
  refine ⟨?_, by simpa using h.2⟩
  show X.env.scope.names.lookup x = _
  rw [G.sc]; exact h.1
theorem Good.blk (G : Good T nm g C k fd ps c X) {scope : Scope} {s : Shared} {H : Hp} {a : Addr} {cl : List (Str × Addr)} {fp : List Addr} : Good T nm g C k fd ps (c.blk scope) (X.blk s H scope (compEnvC scope cl a X.env) fp) := by
  refine ⟨G.lib, G.room, G.gd, G.calm, G.N, G.nd, ?_, fun x hx => ?_⟩
  · show relS scope X.env.scope = relS scope c.sc
    rw [G.sc]
  · unfold Ck.blk at hx
    simp only [Bool.or_eq_true, decide_eq_true_eq] at hx
    rcases hx with hx | hx
    · left
      show (scope.names.lookup x == some NameKind.cell) = true
      rw [hx]; rfl
    · exact .inr hx
end
end MP
end S_MPy
section S_MQa
/-! MQa: comparisons as tests; the checker. -/
namespace MP
open PySem L2 PySem.SeqAt
section
variable {g : Gm} {X : Cx} {pos : Pos}
/-- a comparison's answer is a bool -/
theorem cmpA_bool {o : COp} {a b : A} {h : Hh} {r : A} (e : cmpA o a b h = some r) : ∃ k, r = .d (.bl k) := cmpA_bl o a b h r e
theorem cmpO_bool {C : CallT} {tb : Nat → Option Nat} {ks : List Kd} {o : COp} {a b : A} {h : Hh} {r : A × Hh} (e : cmpO C tb ks o a b h = some r) : ∃ k, r.1 = .d (.bl k) := by
  have gen : ∀ o, ((cmpA o a b h).map fun r => (r, h)) = some r → ∃ k, r.1 = .d (.bl k) := fun o e => by
    obtain ⟨q, eq, rfl⟩ := map_some e
    exact cmpA_bool eq
  have ge : ∀ ne, eqO C tb ks ne a b h = some r → ∃ k, r.1 = .d (.bl k) := fun ne e => by
    unfold eqO at e
    split at e
    · split at e
      · split at e
        · split at e
          · cases e; exact ⟨_, rfl⟩
          · cases e
        · cases e
      · cases e
    · cases ne with
      | false => exact gen .eq e
      | true => exact gen .ne e
  unfold cmpO at e
  split at e
  · exact ge false e
  · exact ge true e
  · exact gen _ e
theorem at_cmp2 {op : CmpOp} {a b : Expr} {fa fb : Sl → Hh → Out A} {F : CF} (ho : OpR X (compareOp op) (liftR2 X.K g F)) (hF : ∀ x y h r, F x y h = some r → ∃ k, r.1 = .d (.bl k)) (ha : AE g X a fa) (hb : AE g X b fb) (hm : notSet b = true) :
    AT g X (.Compare a [op] [b] pos) (fun s h => ((fa s h).bind fun x h1 => (fb s h1).bind fun y h2 => optH (F x y h2)).bind fun r h3 => opt (truthO r h3) h3) := by
  intro W tk
  refine (pt_cmpR ho (ha W tk) (hb W tk) (marks_no hm)).impM fun σ H Q ⟨s, h, z, hz, c, rs, w⟩ => ?_
  refine ⟨s, h, z, hz, c, rs, Out.wp_mono (Out.wp_bind (Out.wp_bind w)) (fun x h1 w1 v z1 e1 c1 r1 => ?_) fun _ _ q => q⟩
  refine ⟨s, h1, z1, rfl, c1, rs.mono e1, Out.wp_mono (Out.wp_bind w1) (fun y h2 w2 u z2 e2 c2 r2 => ?_) fun _ _ q => q.ext e1⟩
  obtain ⟨r, er, w3⟩ := optH_wp w2
  obtain ⟨k, ek⟩ := hF _ _ _ _ er
  obtain ⟨a', h'⟩ := r
  cases ek
  obtain ⟨k', ek', q⟩ := opt_wp w3
  have : k' = k := by cases ek'; rfl
  subst this
  refine ⟨x, y, h2, z2, _, rfl, c2, r1.mono e2, r2, er, fun v' z3 e3 c3 r3 => ?_⟩
  cases r3
  exact ⟨_, rfl, q z3 ((e1.trans e2).trans e3) c3⟩
theorem at_inG {ne : Bool} {xs : List D} {a : Expr} {x : Str} {p : Addr} {px : Pos} {fa : Sl → Hh → Out A} (hu : X.A.units + 65 < cLine) (hS : ∀ h, X.K.In h → Sh h (.tup xs) (.ref p)) (hg : Gl X x) (hm : X.mg x = some (.ref p)) (hd : (x == ("__debug__" : Str)) = false) (ha : AE g X a fa) :
    AT g X (.Compare a [if ne then .NotIn else .In] [.Name x px] pos) (fun s h => ((fa s h).bind fun v h1 => opt (inG ne xs v h1) h1).bind fun r h3 => opt (truthO r h3) h3) := by
  intro W tk
  refine (pt_cmpR (op_inG (g := g) (ne := ne) hu hS) (ha W tk) (pe_glob (v := .ref p) hg hm rfl hd) rfl).impM fun σ H Q ⟨s, h, z, hz, c, rs, w⟩ => ?_
  refine ⟨s, h, z, hz, c, rs, Out.wp_mono (Out.wp_bind (Out.wp_bind w)) (fun a h1 w1 v z1 e1 c1 r1 => ?_) fun _ _ q => q⟩
  obtain ⟨r, er, w2⟩ := opt_wp w1
  have er' := er
  unfold inG at er
  split at er
  · split at er
    · cases er
      obtain ⟨k', ek', q⟩ := opt_wp w2
      cases ek'
      refine ⟨rfl, a, h1, z1, _, rfl, c1, r1, er', fun v' z3 e3 c3 r3 => ?_⟩
      cases r3
      exact ⟨_, rfl, q z3 (e1.trans e3) c3⟩
    · cases er
  · cases er
/-- what is not a test of its own kind -/
def plainT : Expr → Bool
  | .UnaryOp .Not _ _ => false
  | .BoolOp .. => false
  | .IfExp .. => false
  | .Compare .. => false
  | _ => true
theorem plainT_of {e : Expr} (h : plainT e = true) (env : Env) : ∀ whole, isTrue e env whole = (do let v ← whole; standAt e.pos; holding [v] (truthy v)) := by
  intro whole
  cases e <;> first | rfl | cases h | skip
  rename_i op _ _
  cases op <;> first | rfl | cases h
def AP (g : Gm) (X : Cx) (e : Expr) (p : VT) : Prop := AE g X e p.v ∧ AT g X e p.t
theorem AP.vt {e : Expr} {v : Sl → Hh → Out A} (h : AE g X e v) (hp : plainT e = true) : AP g X e (vt v) := ⟨h, at_val h (plainT_of hp X.env)⟩
theorem at_no {e : Expr} : AT g X e (fun _ _ => .no) := fun W tk => ⟨fun pins s σ H Q I ⟨_, _, _, _, _, _, w⟩ => w.elim⟩
theorem ae_no {e : Expr} : AE g X e (fun _ _ => .no) := fun W tk => ⟨fun pins s σ H Q I ⟨_, _, _, _, _, _, w⟩ => w.elim⟩
def plainIx : Expr → Bool
  | .Slice .. => false
  | _ => true
end
end MP
end S_MQa
section S_MQb
/-! MQb: the checker of expressions. -/
namespace MP
open PySem L2

def constOk : Const → D → Bool
  | .none, .non => true
  | .bool a, .bl b => a == b
  | .int a, .int b => a == b
  | .str a, .str b => a == b
  | _, _ => false
def BOp.beq (o : BOp) (p : Operator) : Bool := decide (o.op = p)
def COp.beq (o : COp) (p : CmpOp) : Bool := decide (o.op = p)
/-- the names of the built-in functions and types, and what they are -/
def biName : Bi → Str
  | .len => "len" | .abs => "abs" | .min => "min" | .max => "max" | .sum => "sum" | .int => "int" | .str => "str" | .bool => "bool" | .list _ => "list" | .tuple => "tuple" | .sorted _ => "sorted" | .all => "all" | .any => "any" | .divmod => "divmod" | .repr => "repr" | .dict => "dict"
def mtName : Mt → Str
  | .append => "append" | .insert => "insert" | .pop => "pop" | .extend => "extend" | .join => "join" | .split _ => "split"
mutual
def chkG : Tg → Ck → Expr → Bool
  | .name i, c, e => match e with
    | .Name x _ => decide (c.N[i]? = some x) && loc c x && c.fnl x
    | _ => false
  | .tup ts, c, e => match e with
    | .Tuple es _ _ => chkGs ts c es
    | _ => false
def chkGs : Tgs → Ck → List Expr → Bool
  | .nil, c, es => es.isEmpty
  | .cons t r, c, es => match es with
    | e :: q => !isStar e && chkG t c e && chkGs r c q
    | [] => false
end
def ownPairs (N : List Str) : List Nat → Option (List (Str × Nat))
  | [] => some []
  | i :: r => match N[i]?, ownPairs N r with
    | some x, some q => some ((x, i) :: q)
    | _, _ => none
/-- the block of a comprehension -/
def blkB (c : Ck) (scope : Scope) (own : List Nat) : Bool :=
  decide (scope.kind = .function) && scope.names.all (fun y => decide (scope.names.lookup y.1 = some y.2)) &&
  scope.names.all (fun y => !decide (y.2 = .free) || decide (c.sc.names.lookup y.1 = some .cell) || decide (c.sc.names.lookup y.1 = some .free)) &&
  (match ownPairs c.N own with
  | some q => scope.names.all (fun y => !(decide (y.2 = .local) || decide (y.2 = .cell)) || decide (y.1 ∈ q.map (·.1)) || !decide (y.1 ∈ c.N))
  | none => false)
def notSetI : Expr → Bool
  | .Set .. => false
  | _ => true
def kdName (nm : Nm) (c : Ck) (t : Kd) (e : Expr) : Bool := match e with
  | .Name y _ => glb c y && (match t with
    | .b n => nm.free y && decide (y ≠ "__name__") && decide (bootBuiltins y = some (.type n))
    | .own i => decide (nm.gc y = some i))
  | _ => false
mutual
def chkE (T : Tab) (nm : Nm) : E → Ck → Expr → Bool
  | .k x, c, e => match e with
    | .Constant v _ _ => constOk v x
    | _ => false
  | .glo x, c, e => match e with
    | .Name y _ => decide (y = x) && glb c x && (T.glo x).isSome
    | _ => false
  | .var i, c, e => match e with
    | .Name x _ => decide (c.N[i]? = some x) && vis c x && !(x == ("__debug__" : Str)) && !(x == ("__classdict__" : Str))
    | _ => false
  | .bin o a b, c, e => match e with
    | .BinOp l op r _ => o.beq op && chkE T nm a c l && chkE T nm b c r
    | _ => false
  | .neg a, c, e => match e with
    | .UnaryOp .USub l _ => chkE T nm a c l
    | _ => false
  | .cmp o a b, c, e => match e with
    | .Compare l [op] [r] _ => o.beq op && notSet r && chkE T nm a c l && chkE T nm b c r
    | _ => false
  | .chain o p a b d, c, e => match e with
    | .Compare l [op1, op2] [r1, r2] _ => o.beq op1 && p.beq op2 && notSet r2 && chkE T nm a c l && chkE T nm b c r1 && chkE T nm d c r2
    | _ => false
  | .bop an es, c, e => match e with
    | .BoolOp op vs _ => decide (op = if an then .And else .Or) && chkEs T nm es c vs && noStar vs
    | _ => false
  | .not a, c, e => match e with
    | .UnaryOp .Not l _ => chkE T nm a c l
    | _ => false
  | .ite d a b, c, e => match e with
    | .IfExp t x y _ => chkE T nm d c t && chkE T nm a c x && chkE T nm b c y
    | _ => false
  | .tup es, c, e => match e with
    | .Tuple vs _ _ => chkEs T nm es c vs
    | _ => false
  | .lst mu es, c, e => match e with
    | .List vs _ => chkEs T nm es c vs
    | _ => false
  | .sub a b, c, e => match e with
    | .Subscript l r _ => plainIx r && chkE T nm a c l && chkE T nm b c r
    | _ => false
  | .slice a lo hi, c, e => match e with
    | .Subscript l (.Slice x y none _) _ => chkE T nm a c l && chkO T nm lo c x && chkO T nm hi c y
    | _ => false
  | .attr a f, c, e => match e with
    | .Attribute l f' _ => decide (f' = f) && notSup l && chkE T nm a c l
    | _ => false
  | .call f ks es kw, c, e => match e with
    | .Call (.Name x _) as kws _ => decide (nm.gf x = some f) && glb c x && noStar as && decide (kwNames kws = some ks) && decide (as.length = es.len) && chkEs T nm es c as && chkKw T nm kw c kws
    | _ => false
  | .make i ks es kw, c, e => match e with
    | .Call (.Name x _) as kws _ => decide (nm.gc x = some i) && glb c x && noStar as && decide (kwNames kws = some ks) && decide (as.length = es.len) && chkEs T nm es c as && chkKw T nm kw c kws
    | _ => false
  | .meth a m ks es kw, c, e => match e with
    | .Call (.Attribute o m' apos) as kws pos => decide (m' = m) && notSup o && noStar as && decide (kwNames kws = some ks) && decide (as.length = es.len) && decide (as.length + kws.length + 1 < 30) && (apos.endLine == pos.line) && chkE T nm a c o && chkEs T nm es c as && chkKw T nm kw c kws
    | _ => false
  | .gcl i, c, e => match e with
    | .Name x _ => decide (nm.gc x = some i) && glb c x
    | _ => false
  | .cmeth a m ks es kw, c, e => match e with
    | .Call (.Attribute o m' apos) as kws pos => decide (m' = m) && notSup o && noStar as && decide (kwNames kws = some ks) && decide (as.length = es.len) && decide (as.length + kws.length + 1 < 30) && (apos.endLine == pos.line) && chkE T nm a c o && chkEs T nm es c as && chkKw T nm kw c kws
    | _ => false
  | .makeV a i ks es kw, c, e => match e with
    | .Call (.Name x p) as kws _ => noStar as && decide (kwNames kws = some ks) && decide (as.length = es.len) && chkE T nm a c (.Name x p) && chkEs T nm es c as && chkKw T nm kw c kws
    | _ => false
  | .bi b es, c, e => match e with
    | .Call (.Name x _) (a :: as) [] _ => decide (x = biName b) && glb c x && nm.free x && noStar (a :: as) && chkEs T nm es c (a :: as)
    | _ => false
  | .isi a t, c, e => match e with
    | .Call (.Name x _) [l, te] [] _ => decide (x = "isinstance") && glb c x && nm.free x && !isStar l && kdName nm c t te && chkE T nm a c l
    | _ => false
  | .bm m a es, c, e => match e with
    | .Call (.Attribute o m' apos) as [] pos => decide (m' = mtName m) && notSup o && noStar as && decide (as.length < 30) && (apos.endLine == pos.line) && chkE T nm a c o && chkEs T nm es c as
    | _ => false
  | .comp mu m own t it d, c, e => match e with
    | .ListComp elt [⟨tg, iter, ifs, ia⟩] scope _ => decide (ia = 0) && blkB c scope own && notSetI iter && t.is.all (fun i => decide (i ∈ own)) && chkG t (c.blk scope) tg && chkI T nm it c tg iter && chkC T nm d (c.blk scope) ifs && chkE T nm m (c.blk scope) elt
    | _ => false
  | .inG ne a x, c, e => match e with
    | .Compare l [op] [.Name y _] _ => decide (op = if ne then .NotIn else .In) && decide (y = x) && glb c x && (T.gt x).isSome && chkE T nm a c l
    | _ => false
  | .subG x a, c, e => match e with
    | .Subscript (.Name y _) r _ => decide (y = x) && glb c x && (T.gd x).isSome && plainIx r && chkE T nm a c r
    | _ => false
  | .lrng tp mu lo hi, c, e => match e with
    | .Call (.Name x _) [.Call (.Name y _) as [] _] [] _ => decide (x = if tp then ("tuple" : Str) else ("list" : Str)) && glb c x && nm.free x && decide (y = "range") && glb c y && nm.free y && noStar as && (match lo, as with
      | .none, [b] => chkO T nm .none c none && chkE T nm hi c b
      | .some m, [a, b] => chkE T nm m c a && chkE T nm hi c b
      | _, _ => false)
    | _ => false
  | .dcomp mu m v own t it d, c, e => match e with
    | .DictComp kx vx [⟨tg, iter, ifs, ia⟩] scope _ => decide (ia = 0) && blkB c scope own && notSetI iter && t.is.all (fun i => decide (i ∈ own)) && chkG t (c.blk scope) tg && chkI T nm it c tg iter && chkC T nm d (c.blk scope) ifs && chkE T nm m (c.blk scope) kx && chkE T nm v (c.blk scope) vx
    | _ => false
  | .rev a, c, e => match e with
    | .Subscript x (.Slice none none (some (.UnaryOp .USub (.Constant (.int 1) _ _) _)) _) _ => chkE T nm a c x
    | _ => false
  | .dct mu ps, c, e => match e with
    | .Dict keys values _ => decide (keys.length = values.length) && decide (keys.length ≤ 15) && !keys.isEmpty && keys.all (·.isSome) && chkD T nm ps c keys values
    | _ => false
def chkD (T : Tab) (nm : Nm) : Eps → Ck → List (Option Expr) → List Expr → Bool
  | .nil, c, ks, vs => ks.isEmpty && vs.isEmpty
  | .cons a b r, c, ks, vs => match ks, vs with
    | some e :: q, f :: w => chkE T nm a c e && chkE T nm b c f && chkD T nm r c q w
    | _, _ => false
def chkEs (T : Tab) (nm : Nm) : Es → Ck → List Expr → Bool
  | .nil, c, es => es.isEmpty
  | .cons m r, c, es => match es with
    | e :: q => !isStar e && chkE T nm m c e && chkEs T nm r c q
    | [] => false
  | .star m r, c, es => match es with
    | .Starred e _ :: q => chkE T nm m c e && chkEs T nm r c q
    | _ => false
def chkKw (T : Tab) (nm : Nm) : Es → Ck → List Keyword → Bool
  | .nil, c, ks => ks.isEmpty
  | .cons m r, c, ks => match ks with
    | ⟨_, v, _⟩ :: q => chkE T nm m c v && chkKw T nm r c q
    | [] => false
  | .star _ _, c, ks => false
def chkO (T : Tab) (nm : Nm) : Eo → Ck → Option Expr → Bool
  | .none, c, e => e.isNone
  | .some m, c, e => match e with
    | some x => chkE T nm m c x
    | none => false
def chkC (T : Tab) (nm : Nm) : Eo → Ck → List Expr → Bool
  | .none, c, es => es.isEmpty
  | .some m, c, es => match es with
    | [x] => chkE T nm m c x
    | _ => false
def chkI (T : Tab) (nm : Nm) : It → Ck → Expr → Expr → Bool
  | .val m, c, tg, e => chkE T nm m c e
  | .rng es, c, tg, e => match e with
    | .Call (.Name x _) as [] _ => decide (as.length = 1 ∨ as.length = 2) && decide (x = "range") && glb c x && nm.free x && noStar as && chkEs T nm es c as
    | _ => false
  | .enum m, c, tg, e => match tg with
    | .Tuple _ _ _ => (match e with
      | .Call (.Name x _) [a] [] _ => decide (x = "enumerate") && glb c x && nm.free x && !isStar a && chkE T nm m c a
      | _ => false)
    | _ => false
end
end MP
end S_MQb
section S_MQc
/-! MQc: the checker is right about expressions. -/
namespace MP
open PySem L2
section
variable {T : Tab} {nm : Nm} {g : Gm} {C : CallT} {k : Nat} {fd : Nat → FuncData} {ps : Nat → List Str}

theorem assign_cons {e : Expr} {es : List Expr} {env : Env} (h : isStar e = false) : assignEach (e :: es) env = (false, assign e env) :: assignEach es env := by
  cases e <;> first | rfl | cases h
mutual
theorem sndG : ∀ (t : Tg) {c : Ck} {X : Cx} (G : Good T nm g C k fd ps c X) {e : Expr}, chkG t c e = true → AG g X e t.is t.set
  | .name i, c, X, G, e, h => by
    rw [chkG.eq_def] at h
    dsimp only at h
    split at h
    · simp only [Bool.and_eq_true, decide_eq_true_eq] at h
      obtain ⟨⟨h1, h2⟩, h3⟩ := h
      exact ag_name (g := g) (X := X) (by rw [G.N]; exact G.nd) (by rw [G.N]; exact h1) (loc_of G h2) (by rw [G.sc]; exact G.fn _ h3)
    · cases h
  | .tup ts, c, X, G, e, h => by
    rw [chkG.eq_def] at h
    dsimp only at h
    split at h
    · obtain ⟨h1, h2, h3⟩ := sndGs ts G h
      exact ag_tup G.calm h1 ts.len h2 h3
    · cases h
theorem sndGs : ∀ (t : Tgs) {c : Ck} {X : Cx} (G : Good T nm g C k fd ps c X) {e : List Expr}, chkGs t c e = true → AGs g X e t.is t.set ∧ (assignEach e X.env).length = t.len ∧ (assignEach e X.env).findIdx? (·.1) = none
  | .nil, c, X, G, e, h => by
    rw [chkGs.eq_def] at h
    dsimp only at h
    cases e with
    | nil => exact ⟨ags_nil, rfl, rfl⟩
    | cons => cases h
  | .cons t r, c, X, G, e, h => by
    rw [chkGs.eq_def] at h
    dsimp only at h
    split at h
    · simp only [Bool.and_eq_true, Bool.not_eq_true'] at h
      obtain ⟨⟨h1, h2⟩, h3⟩ := h
      obtain ⟨i1, i2, i3⟩ := sndGs r G h3
      refine ⟨ags_cons (sndG t G h2) i1 (by rw [assign_cons h1]; rfl), ?_, ?_⟩
      · rw [assign_cons h1, List.length_cons, i2]; rfl
      · rw [assign_cons h1, List.findIdx?_cons, i3]; rfl
    · cases h
end
theorem ownPairs_spec {N : List Str} : ∀ {own : List Nat} {q : List (Str × Nat)}, ownPairs N own = some q → q.map (·.2) = own ∧ ∀ p ∈ q, N[p.2]? = some p.1
  | [], q, h => by cases h; exact ⟨rfl, fun p hp => by cases hp⟩
  | i :: r, q, h => by
    unfold ownPairs at h
    split at h
    · rename_i x q' h1 h2
      cases h
      obtain ⟨e1, e2⟩ := ownPairs_spec h2
      refine ⟨by simp [e1], fun p hp => ?_⟩
      rcases List.mem_cons.mp hp with rfl | hp
      · exact h1
      · exact e2 p hp
    · cases h
theorem blkB_ok {c : Ck} {X : Cx} (G : Good T nm g C k fd ps c X) {scope : Scope} {own : List Nat} (h : blkB c scope own = true) : ∃ q, q.map (·.2) = own ∧ BlkOk X.N X.env.scope scope q := by
  unfold blkB at h
  simp only [Bool.and_eq_true, decide_eq_true_eq, List.all_eq_true, Bool.or_eq_true, Bool.not_eq_true', decide_eq_false_iff_not] at h
  obtain ⟨⟨⟨h1, h2⟩, h3⟩, h4⟩ := h
  split at h4
  · rename_i q hq
    simp only [List.all_eq_true, Bool.or_eq_true, Bool.not_eq_true', decide_eq_true_eq, decide_eq_false_iff_not, Bool.or_eq_false_iff] at h4
    obtain ⟨e1, e2⟩ := ownPairs_spec hq
    refine ⟨q, e1, h1, fun y hy => h2 y hy, fun p hp => by rw [G.N]; exact e2 p hp, fun y hy hf => ?_, fun y hy hl => ?_⟩
    · rw [G.sc]
      rcases h3 y hy with (z | z) | z
      · exact absurd hf z
      · exact .inl z
      · exact .inr z
    · rw [G.N]
      rcases h4 y hy with (z | z) | z
      · rcases hl with hl | hl
        · exact absurd hl z.1
        · exact absurd hl z.2
      · exact .inl z
      · exact .inr z
  · cases h4
/-- the calls of built-ins -/
theorem bi_ok {c : Ck} {X : Cx} (G : Good T nm g C k fd ps c X) (b : Bi) {e : Expr} {es : List Expr} {p pos : Pos} {fs : Sl → Hh → Out (List A)} (hg : Gl X (biName b)) (hm : X.mg (biName b) = none) (hdb : ((biName b) == ("__debug__" : Str)) = false) (ha : AA g X (e :: es) fs) (hn : noStar (e :: es) = true) :
    AE g X (.Call (.Name (biName b) p) (e :: es) [] pos) (fun s h => (fs s h).bind fun as h1 => optH (biF T C b as h1)) := by
  have he : starEach (e :: es) X.env = (false, eval e X.env) :: starEach es X.env := star_cons (noStar_cons hn).1
  have hpl : (backTo pos (starEach es X.env)).any (·.1) = false := noStar_any (noStar_cons hn).2
  have ow : ∀ (tb : Nat → Option Nat) (name : Str), (tb, name) ∈ [(T.len, ("__len__" : Str)), (T.str, "__str__"), (T.bool, "__bool__")] → ∀ c f, tb c = some f → OwnD X g C k c f 1 name := fun tb name hm c f hf => by
    obtain ⟨h1, h2, h3, h4, h5⟩ := G.lib.own tb name hm c f hf
    have := G.lib.fok f h4
    rw [h3] at this
    exact ⟨h1, h2, _, _, this, h5⟩
  cases b with
  | len => exact ae_callB (cr_lenO (ow T.len "__len__" (by simp)) (G.room.mono (by omega)) G.gd) hg hm (by rfl) (by decide) hdb ha he hpl
  | abs => exact ae_callB cr_abs hg hm (by rfl) (by decide) hdb ha he hpl
  | min => exact ae_callB (cr_minA G.calm) hg hm (by rfl) (by decide) hdb ha he hpl
  | max => exact ae_callB (cr_maxA G.calm) hg hm (by rfl) (by decide) hdb ha he hpl
  | sum => exact ae_callB (cr_sumA G.calm) hg hm (by rfl) (by decide) hdb ha he hpl
  | int => exact ae_callTy cr_intA hg hm (by rfl) (by decide) hdb ha he hpl
  | str => exact ae_callTy (cr_strO (ow T.str "__str__" (by simp)) G.room G.gd) hg hm (by rfl) (by decide) hdb ha he hpl
  | bool => exact ae_callTy (cr_boolO (ow T.bool "__bool__" (by simp)) G.room G.gd) hg hm (by rfl) (by decide) hdb ha he hpl
  | list mu => exact ae_callTy cr_listA hg hm (by rfl) (show ("list" : Str) ≠ "__name__" by decide) hdb ha he hpl
  | tuple => exact ae_callTy cr_tupleA hg hm (by rfl) (by decide) hdb ha he hpl
  | sorted mu => exact ae_callB cr_sortedA hg hm (by rfl) (show ("sorted" : Str) ≠ "__name__" by decide) hdb ha he hpl
  | all => exact ae_callB (cr_allA G.calm) hg hm (by rfl) (by decide) hdb ha he hpl
  | any => exact ae_callB (cr_anyA G.calm) hg hm (by rfl) (by decide) hdb ha he hpl
  | divmod => exact ae_callB cr_divmodA hg hm (by rfl) (by decide) hdb ha he hpl
  | dict => exact ae_callTy (cr_dictA G.calm) hg hm (by rfl) (by decide) hdb ha he hpl
  | repr => exact ae_callB (cr_reprA G.gd (by have := G.room.un; omega)) hg hm (by rfl) (by decide) hdb ha he hpl
theorem bm_ok {X : Cx} (m : Mt) {o e : Expr} {es : List Expr} {apos pos : Pos} {fo : Sl → Hh → Out A} {fs : Sl → Hh → Out (List A)} (ho : AE g X o fo) (ha : AA g X (e :: es) fs) (hb : notSup o = true) (hn : noStar (e :: es) = true) (hlen : (e :: es).length < 30) (hline : (apos.endLine == pos.line) = true) :
    AE g X (.Call (.Attribute o (mtName m) apos) (e :: es) [] pos) (bmF m.ty (mtF m) fo fs) := by
  cases m with
  | append => exact ae_bm F.plainAttrs_list F.slot_list_append F.type_list_append mtA_append ho ha hb hn hlen hline
  | insert => exact ae_bm F.plainAttrs_list F.slot_list_insert F.type_list_insert mtA_insert ho ha hb hn hlen hline
  | pop => exact ae_bm F.plainAttrs_list F.slot_list_pop F.type_list_pop mtA_pop ho ha hb hn hlen hline
  | extend => exact ae_bm F.plainAttrs_list F.slot_list_extend F.type_list_extend mtA_extend ho ha hb hn hlen hline
  | join => exact ae_bm F.plainAttrs_str F.slot_str_join F.type_str_join mtA_join ho ha hb hn hlen hline
  | split mu => exact ae_bm F.plainAttrs_str F.slot_str_split F.type_str_split mtA_split ho ha hb hn hlen hline
theorem bm0_ok {X : Cx} (m : Mt) {o : Expr} {apos pos : Pos} {fo : Sl → Hh → Out A} (ho : AE g X o fo) (hb : notSup o = true) (hline : (apos.endLine == pos.line) = true) :
    AE g X (.Call (.Attribute o (mtName m) apos) [] [] pos) (bmF m.ty (mtF m) fo fun _ h => .ok [] h) := by
  cases m with
  | append => exact ae_bm0 F.plainAttrs_list F.slot_list_append F.type_list_append mtA_append ho hb hline
  | insert => exact ae_bm0 F.plainAttrs_list F.slot_list_insert F.type_list_insert mtA_insert ho hb hline
  | pop => exact ae_bm0 F.plainAttrs_list F.slot_list_pop F.type_list_pop mtA_pop ho hb hline
  | extend => exact ae_bm0 F.plainAttrs_list F.slot_list_extend F.type_list_extend mtA_extend ho hb hline
  | join => exact ae_bm0 F.plainAttrs_str F.slot_str_join F.type_str_join mtA_join ho hb hline
  | split mu => exact ae_bm0 F.plainAttrs_str F.slot_str_split F.type_str_split mtA_split ho hb hline
end
end MP
end S_MQc
section S_MQd
/-! MQd: the checker is right about expressions, all of them. -/
namespace MP
open PySem L2
section
variable {T : Tab} {nm : Nm} {g : Gm} {C : CallT} {k : Nat} {fd : Nat → FuncData} {ps : Nat → List Str}
theorem ai_rng2 {X : Cx} {tg a b : Expr} {p pos : Pos} {fs : Sl → Hh → Out (List A)} (hg : Gl X "range") (hm : X.mg "range" = none) (ha : AA g X [a, b] fs) (h1 : ∀ s h as h', fs s h = .ok as h' → as.length = 2) (n1 : isStar a = false) (n2 : isStar b = false) : AI g X tg (.Call (.Name "range" p) [a, b] [] pos) (fun s h => (fs s h).bind fun as h1 => opt (rngA as) h1) := by
  intro W tk
  refine PI.impM (pi_range2 hg hm (ha W tk) (by rw [star_cons n1, star_cons n2]; rfl) (by rw [star_cons n2]; rfl)) fun σ H R ⟨s, h, z, hz, c, rs, w⟩ => ?_
  dsimp only at w
  refine ⟨s, h, z, hz, c, rs, ?_⟩
  cases ef : fs s h with
  | no => rw [ef] at w; exact w.elim
  | ex e h' => rw [ef] at w; exact w
  | ok as h2 =>
    rw [ef] at w
    have hl := h1 s h as h2 ef
    obtain ⟨p, ep, q⟩ := opt_wp (show (opt (rngA as) h2).wp _ _ from w)
    intro vs z1 e1 c1 r1
    unfold rngA at ep
    split at ep
    · simp at hl
    · split at ep
      · rename_i m n hn
        cases ep
        obtain ⟨v, u, rfl, ra, rb⟩ := r1.two
        cases ra; cases rb
        exact ⟨m, n, rfl, hn, q _ z1 e1 c1 iterJ_rng⟩
      · cases ep
    · cases ep
theorem evs_len {T : Tab} {C : CallT} {c : Ck} : ∀ {es : Es} {as : List Expr}, chkEs T nm es c as = true → noStar as = true → ∀ s h xs h', evs T C es s h = .ok xs h' → xs.length = as.length
  | .nil, as, h1, _, s, h, xs, h', e => by
    rw [chkEs.eq_def] at h1
    dsimp only at h1
    rw [evs] at e
    cases e
    cases as with
    | nil => rfl
    | cons => cases h1
  | .cons m r, as, h1, h2, s, h, xs, h', e => by
    rw [chkEs.eq_def] at h1
    dsimp only at h1
    split at h1
    · rename_i e0 q
      simp only [Bool.and_eq_true] at h1
      rw [evs] at e
      cases ea : (evP T C m).v s h with
      | no => rw [ea] at e; cases e
      | ex x hx => rw [ea] at e; cases e
      | ok a h3 =>
        rw [ea, Out.bind_ok] at e
        cases er : evs T C r s h3 with
        | no => rw [er] at e; cases e
        | ex x hx => rw [er] at e; cases e
        | ok ys h4 =>
          rw [er, Out.bind_ok] at e
          cases e
          rw [List.length_cons, List.length_cons, evs_len h1.2 (noStar_cons h2).2 _ _ _ _ er]
    · cases h1
  | .star m r, as, h1, h2, s, h, xs, h', e => by
    rw [chkEs.eq_def] at h1
    dsimp only at h1
    split at h1
    · rw [noStar, Bool.and_eq_true] at h2
      cases h2.1
    · cases h1
theorem es_nil {T : Tab} {C : CallT} {c : Ck} {es : Es} {as : List Expr} (h : chkEs T nm es c as = true) (e : as = []) : evs T C es = fun _ h => .ok [] h := by
  subst e
  cases es with
  | nil => funext s h; rw [evs]
  | cons m r => rw [chkEs.eq_def] at h; cases h
  | star m r => rw [chkEs.eq_def] at h; cases h
theorem plainIx_of {e : Expr} (h : plainIx e = true) : PlainIx e := by
  intro o i
  cases e <;> first | rfl | cases h
theorem ae_list {X : Cx} {mu : Bool} {es : List Expr} {pos : Pos} {fs : Sl → Hh → Out (List A)} (hs : AA g X es fs) : AE g X (.List es pos) (fun s h => (fs s h).bind fun xs h1 => optH (newL mu xs h1)) := by
  intro W tk
  refine (pe_lst (hs W tk)).impM fun σ H Q ⟨s, h, z, hz, c, rs, w⟩ => ?_
  refine ⟨s, h, z, hz, c, rs, Out.wp_mono (Out.wp_bind w) (fun xs h1 w1 vs z1 e1 c1 r1 => ?_) fun _ _ q => q⟩
  obtain ⟨r, er, q⟩ := optH_wp w1
  exact ⟨by rw [← r1.length]; exact newL_len er, fun p hp => okK.list er (q.ext e1) c1 r1 hp⟩
theorem ae_attr {c : Ck} {X : Cx} (G : Good T nm g C k fd ps c X) {o : Expr} {f : Str} {pos : Pos} {fo : Sl → Hh → Out A} (ho : AE g X o fo) (hb : notSup o = true) : AE g X (.Attribute o f pos) (fun s h => (fo s h).bind fun x h1 => attrF T C f x h1) := by
  intro W tk
  have L := G.lib
  have hp := ae_prop (X := X) (m := f) (pos := pos) (tb := fun c => T.prop c f) (C := C) (k := k) ho (fun cn fn hf => by
    obtain ⟨q1, q2, q3, q4, q5⟩ := L.prop cn f fn hf
    have := L.fok fn q4
    rw [q3] at this
    exact ⟨q1, q2, _, _, this, q5⟩) (G.room.mono (by omega)) G.gd hb
  have hf := ae_fld (X := X) (f := f) (pos := pos) ho hb (fun cn hm => L.fld cn f (by rw [← L.lay]; exact hm))
  refine (PE.orM (hp W tk) (hf W tk)).impM fun σ H Q ⟨s, h, z, hz, c0, rs, w⟩ => ?_
  dsimp only at w
  cases ef : fo s h with
  | no => rw [ef] at w; exact w.elim
  | ex e h' =>
    refine .inl ⟨s, h, z, hz, c0, rs, ?_⟩
    dsimp only
    rw [ef] at w ⊢
    exact w
  | ok a h1 =>
    rw [ef, Out.bind_ok] at w
    unfold attrF at w
    cases et : (clsA a h1).bind fun c => T.prop c f with
    | some fn =>
      refine .inl ⟨s, h, z, hz, c0, rs, ?_⟩
      dsimp only
      rw [et] at w
      rw [ef, Out.bind_ok, et]
      exact w
    | none =>
      refine .inr ⟨s, h, z, hz, c0, rs, ?_⟩
      dsimp only
      rw [et] at w
      rw [ef, Out.bind_ok, L.lay]
      exact w
theorem or_eqV {fa fb : Sl → Hh → Out A} : (fun s h => (fa s h).bind fun x h1 => (opt (blA x) h1).bind fun k h1 => if k = true then .ok (.d (.bl true)) h1 else fb s h1) = (fun s h => (fa s h).bind fun x h1 => (opt (blA x) h1).bind fun k h1 => if k = false then fb s h1 else .ok (.d (.bl (!false))) h1) := by
  funext s h
  congr 1
  funext x h1
  congr 1
  funext k h1
  cases k <;> rfl
theorem or_eqT {fa fb : Sl → Hh → Out Bool} : (fun s h => (fa s h).bind fun k h1 => if k = true then .ok true h1 else fb s h1) = (fun s h => (fa s h).bind fun k h1 => if k = false then fb s h1 else .ok (!false) h1) := by
  funext s h
  congr 1
  funext k h1
  cases k <;> rfl
theorem folded_no {iter : Expr} {env : Env} (h : notSetI iter = true) : ∀ x, foldedSetIterable iter env x = pure x := by
  intro x
  cases iter <;> first | rfl | cases h
mutual
theorem sndE : ∀ (m : E) {c : Ck} {X : Cx} (G : Good T nm g C k fd ps c X) {e : Expr}, chkE T nm m c e = true → AP g X e (evP T C m)
  | .k x, c, X, G, e, h => by
    rw [chkE.eq_def] at h; dsimp only at h
    split at h
    · rename_i v j pos
      rw [evP]
      refine AP.vt ?_ rfl
      unfold constOk at h
      split at h
      · exact ae_non
      · rw [← beq_iff_eq.mp h]; exact ae_bl
      · rw [← beq_iff_eq.mp h]; exact ae_int
      · rw [← beq_iff_eq.mp h]; exact ae_str
      · cases h
    · cases h
  | .glo x, c, X, G, e, h => by
    rw [chkE.eq_def] at h; dsimp only at h
    split at h
    · simp only [Bool.and_eq_true, decide_eq_true_eq] at h
      obtain ⟨⟨h1, h2⟩, h3⟩ := h
      subst h1
      obtain ⟨d, hd⟩ := Option.isSome_iff_exists.mp h3
      obtain ⟨u, v, m1, m2, m3⟩ := G.lib.glo _ d hd
      rw [evP, hd]
      exact AP.vt (ae_const (pe_glob (glb_of G h2).1 m1 m2 (glb_of G h2).2) m3) rfl
    · cases h
  | .var i, c, X, G, e, h => by
    rw [chkE.eq_def] at h; dsimp only at h
    split at h
    · simp only [Bool.and_eq_true, decide_eq_true_eq, Bool.not_eq_true'] at h
      obtain ⟨⟨⟨h1, h2⟩, h3⟩, h4⟩ := h
      rw [evP]
      exact AP.vt (ae_var (by rw [G.N]; exact h1) (vis_of G h2) h3 h4) rfl
    · cases h
  | .bin o a b, c, X, G, e, h => by
    rw [chkE.eq_def] at h; dsimp only at h
    split at h
    · simp only [Bool.and_eq_true] at h
      obtain ⟨⟨h1, h2⟩, h3⟩ := h
      have h1 := of_decide_eq_true h1
      subst h1
      rw [evP]
      exact AP.vt (ae_op (opA_bin o) (sndE a G h2).1 (sndE b G h3).1) rfl
    · cases h
  | .neg a, c, X, G, e, h => by
    rw [chkE.eq_def] at h; dsimp only at h
    split at h
    · rw [evP]
      exact AP.vt (ae_neg (sndE a G h).1) rfl
    · cases h
  | .cmp o a b, c, X, G, e, h => by
    rw [chkE.eq_def] at h; dsimp only at h
    split at h
    · simp only [Bool.and_eq_true] at h
      obtain ⟨⟨⟨h1, h2⟩, h3⟩, h4⟩ := h
      have h1 := of_decide_eq_true h1
      subst h1
      rw [evP]
      have ho := op_cmpO (X := X) (g := g) (C := C) (tb := T.eq) (ks := T.kinds) o (fun cn f hf => by
        obtain ⟨q1, q2, q3, q4, q5, q6, q7, q8⟩ := G.lib.eq cn f hf
        have := G.lib.fok f q4
        rw [q3] at this
        exact ⟨⟨q1, q2, _, _, this, q5⟩, q6, q7, q8, G.lib.kinds⟩) (G.room.mono (by omega)) G.gd
      exact ⟨ae_cmp2 ho (sndE a G h3).1 (sndE b G h4).1 h2, at_cmp2 ho (fun _ _ _ _ e => cmpO_bool e) (sndE a G h3).1 (sndE b G h4).1 h2⟩
    · cases h
  | .chain o p a b d, c, X, G, e, h => by
    rw [chkE.eq_def] at h; dsimp only at h
    split at h
    · simp only [Bool.and_eq_true] at h
      obtain ⟨⟨⟨⟨⟨h1, h1'⟩, h2⟩, h3⟩, h4⟩, h5⟩ := h
      have h1 := of_decide_eq_true h1
      have h1' := of_decide_eq_true h1'
      subst h1 h1'
      rw [evP]
      have hu := G.room.un
      exact ⟨ae_chain (opA_cmp (by omega) o) (opA_cmp (by omega) p) (cmpA_bl o) (sndE a G h3).1 (sndE b G h4).1 (sndE d G h5).1 (marks_no h2), at_chain (opA_cmp (by omega) o) (opA_cmp (by omega) p) (cmpA_bl o) (cmpA_bl p) (sndE a G h3).1 (sndE b G h4).1 (sndE d G h5).1 (marks_no h2)⟩
    · cases h
  | .bop an es, c, X, G, e, h => by
    rw [chkE.eq_def] at h; dsimp only at h
    split at h
    · simp only [Bool.and_eq_true, decide_eq_true_eq] at h
      obtain ⟨⟨h1, h2⟩, h3⟩ := h
      subst h1
      rw [evP]
      exact ⟨(sndB an es G h2 h3).1, (sndB an es G h2 h3).2.at⟩
    · cases h
  | .not a, c, X, G, e, h => by
    rw [chkE.eq_def] at h; dsimp only at h
    split at h
    · rw [evP]
      exact ⟨ae_not (sndE a G h).1, at_not (sndE a G h).2⟩
    · cases h
  | .ite d a b, c, X, G, e, h => by
    rw [chkE.eq_def] at h; dsimp only at h
    split at h
    · simp only [Bool.and_eq_true] at h
      obtain ⟨⟨h1, h2⟩, h3⟩ := h
      rw [evP]
      exact ⟨ae_ite (sndE d G h1).2 (sndE a G h2).1 (sndE b G h3).1, at_no⟩
    · cases h
  | .tup es, c, X, G, e, h => by
    rw [chkE.eq_def] at h; dsimp only at h
    split at h
    · rw [evP]
      exact AP.vt (ae_tup (sndEs es G h)) rfl
    · cases h
  | .lst mu es, c, X, G, e, h => by
    rw [chkE.eq_def] at h; dsimp only at h
    split at h
    · rw [evP]
      exact AP.vt (ae_list (sndEs es G h)) rfl
    · cases h
  | .sub a b, c, X, G, e, h => by
    rw [chkE.eq_def] at h; dsimp only at h
    split at h
    · simp only [Bool.and_eq_true] at h
      obtain ⟨⟨h1, h2⟩, h3⟩ := h
      rw [evP]
      have hu := G.room.un
      exact AP.vt (ae_sub (by omega) (sndE a G h2).1 (sndE b G h3).1 (plainIx_of h1)) rfl
    · cases h
  | .slice a lo hi, c, X, G, e, h => by
    rw [chkE.eq_def] at h; dsimp only at h
    split at h
    · simp only [Bool.and_eq_true] at h
      obtain ⟨⟨h1, h2⟩, h3⟩ := h
      rw [evP]
      exact AP.vt (ae_slice (sndE a G h1).1 (sndO lo G h2) (sndO hi G h3)) rfl
    · cases h
  | .attr a f, c, X, G, e, h => by
    rw [chkE.eq_def] at h; dsimp only at h
    split at h
    · simp only [Bool.and_eq_true, decide_eq_true_eq] at h
      obtain ⟨⟨h1, h2⟩, h3⟩ := h
      subst h1
      rw [evP]
      exact AP.vt (ae_attr G (sndE a G h3).1 h2) rfl
    · cases h
  | .call f ks es kw, c, X, G, e, h => by
    rw [chkE.eq_def] at h; dsimp only at h
    split at h
    · simp only [Bool.and_eq_true, decide_eq_true_eq] at h
      obtain ⟨⟨⟨⟨⟨⟨h1, h2⟩, h3⟩, h4⟩, h5⟩, h6⟩, h7⟩ := h
      rw [evP]
      refine AP.vt ?_ rfl
      cases hs : T.shape f es.len ks with
      | none => exact ae_no
      | some sh =>
        obtain ⟨b1, b2⟩ := G.lib.bind _ _ _ _ hs
        obtain ⟨m1, m2⟩ := G.lib.gf _ _ h1
        exact ae_call (G.lib.fok f b2) (G.room.mono (by omega)) G.gd (glb_of G h2).1 m1 m2 (glb_of G h2).2 b1 (sndEs es G h6) (fun e0 => es_nil h6 e0) (sndKw kw G h7) h3 h4
    · cases h
  | .make i ks es kw, c, X, G, e, h => by
    rw [chkE.eq_def] at h; dsimp only at h
    split at h
    · simp only [Bool.and_eq_true, decide_eq_true_eq] at h
      obtain ⟨⟨⟨⟨⟨⟨h1, h2⟩, h3⟩, h4⟩, h5⟩, h6⟩, h7⟩ := h
      rw [evP]
      refine AP.vt ?_ rfl
      cases hc : T.cl i with
      | none => exact ae_no
      | some cl =>
        dsimp only
        cases hs : T.shape cl.init (es.len + 1) ks with
        | none => exact ae_no
        | some sh =>
          obtain ⟨b1, b2⟩ := G.lib.bind _ _ _ _ hs
          dsimp only
          rw [← G.lib.lay]
          exact ae_make (G.lib.mks i cl hc) (G.lib.fok cl.init b2) (G.room.mono (by omega)) G.gd (glb_of G h2).1 (G.lib.gc _ _ h1) (glb_of G h2).2 b1 (sndEs es G h6) (fun e0 => es_nil h6 e0) (sndKw kw G h7) h3 h4
    · cases h
  | .meth a m ks es kw, c, X, G, e, h => by
    rw [chkE.eq_def] at h; dsimp only at h
    split at h
    · simp only [Bool.and_eq_true, decide_eq_true_eq] at h
      obtain ⟨⟨⟨⟨⟨⟨⟨⟨⟨h1, h2⟩, h3⟩, h4⟩, h5⟩, h6⟩, h7⟩, h8⟩, h9⟩, h10⟩ := h
      subst h1
      rw [evP]
      refine AP.vt ?_ rfl
      refine ae_meth (k := k) (tb := fun c => (T.meth c _).bind fun f => (T.shape f (es.len + 1) ks).map fun sh => (f, T.np f, sh)) (sndE a G h8).1 (fun cn f np sh hf => ?_) (G.room.mono (by omega)) G.gd (sndEs es G h9) (fun e0 => es_nil h9 e0) (sndKw kw G h10) h2 h3 h4 h6 h7
      cases hm : T.meth cn _ with
      | none => rw [hm] at hf; cases hf
      | some f' =>
        rw [hm] at hf
        obtain ⟨sh', hs, e'⟩ := map_some (show (T.shape f' (es.len + 1) ks).map _ = _ from hf)
        cases e'
        obtain ⟨b1, b2⟩ := G.lib.bind _ _ _ _ hs
        obtain ⟨m1, m2, m3⟩ := G.lib.meth _ _ _ hm
        exact ⟨m1, m2, by rw [G.lib.lay]; exact m3, _, _, G.lib.fok _ b2, b1⟩
    · cases h
  | .gcl i, c, X, G, e, h => by
    rw [chkE.eq_def] at h; dsimp only at h
    split at h
    · simp only [Bool.and_eq_true, decide_eq_true_eq] at h
      rw [evP]
      exact AP.vt (ae_const (pe_glob (v := .ref (g.ca i)) (glb_of G h.2).1 (G.lib.gc _ _ h.1) rfl (glb_of G h.2).2) (fun z => RelD.cls i)) rfl
    · cases h
  | .cmeth a m ks es kw, c, X, G, e, h => by
    rw [chkE.eq_def] at h; dsimp only at h
    split at h
    · simp only [Bool.and_eq_true, decide_eq_true_eq] at h
      obtain ⟨⟨⟨⟨⟨⟨⟨⟨⟨h1, h2⟩, h3⟩, h4⟩, h5⟩, h6⟩, h7⟩, h8⟩, h9⟩, h10⟩ := h
      subst h1
      rw [evP]
      refine AP.vt ?_ rfl
      refine ae_cmeth (k := k) (tb := fun c => (T.cmeth c _).bind fun f => (T.shape f (es.len + 1) ks).map fun sh => (f, T.np f, sh)) (sndE a G h8).1 (fun cn f np sh hf => ?_) (G.room.mono (by omega)) G.gd (sndEs es G h9) (fun e0 => es_nil h9 e0) (sndKw kw G h10) h2 h3 h4 h6 h7
      cases hm : T.cmeth cn _ with
      | none => rw [hm] at hf; cases hf
      | some f' =>
        rw [hm] at hf
        obtain ⟨sh', hs, e'⟩ := map_some (show (T.shape f' (es.len + 1) ks).map _ = _ from hf)
        cases e'
        obtain ⟨b1, b2⟩ := G.lib.bind _ _ _ _ hs
        obtain ⟨mc, pp, m1, m2⟩ := G.lib.cmeth _ _ _ hm
        exact ⟨mc, pp, m1, m2, _, _, G.lib.fok _ b2, b1⟩
    · cases h
  | .makeV a i ks es kw, c, X, G, e, h => by
    rw [chkE.eq_def] at h; dsimp only at h
    split at h
    · simp only [Bool.and_eq_true, decide_eq_true_eq] at h
      obtain ⟨⟨⟨⟨⟨h3, h4⟩, h5⟩, h1⟩, h6⟩, h7⟩ := h
      rw [evP]
      refine AP.vt ?_ rfl
      cases hc : T.cl i with
      | none => exact ae_no
      | some cl =>
        dsimp only
        cases hs : T.shape cl.init (es.len + 1) ks with
        | none => exact ae_no
        | some sh =>
          obtain ⟨b1, b2⟩ := G.lib.bind _ _ _ _ hs
          dsimp only
          rw [← G.lib.lay]
          exact ae_makeV (sndE a G h1).1 (G.lib.mks i cl hc) (G.lib.fok cl.init b2) (G.room.mono (by omega)) G.gd b1 (sndEs es G h6) (fun e0 => es_nil h6 e0) (sndKw kw G h7) h3 h4
    · cases h
  | .bi b es, c, X, G, e, h => by
    rw [chkE.eq_def] at h; dsimp only at h
    split at h
    · simp only [Bool.and_eq_true, decide_eq_true_eq] at h
      obtain ⟨⟨⟨⟨h1, h2⟩, h3⟩, h4⟩, h5⟩ := h
      subst h1
      rw [evP]
      exact AP.vt (bi_ok G b (glb_of G h2).1 (G.lib.free _ h3) (glb_of G h2).2 (sndEs es G h5) h4) rfl
    · cases h
  | .isi a t, c, X, G, e, h => by
    rw [chkE.eq_def] at h; dsimp only at h
    split at h
    · rename_i x p l te pos
      simp only [Bool.and_eq_true, decide_eq_true_eq, Bool.not_eq_true'] at h
      obtain ⟨⟨⟨⟨⟨h1, h2⟩, h3⟩, h4⟩, h5⟩, h6⟩ := h
      subst h1
      rw [evP]
      refine AP.vt ?_ rfl
      have hI : ∀ k b i, T.isi k t = some b → k = .own i → InsK X.K (g.ca i) := fun k b i hb hk => (G.lib.isi k t b hb).2 i hk
      have hk : ∀ k b, T.isi k t = some b → PySem.W.kitOne X.K (kdV g k) (kdV g t) = some b := fun k b hb => (G.lib.isi k t b hb).1
      unfold kdName at h5
      split at h5
      · rename_i y py
        simp only [Bool.and_eq_true] at h5
        obtain ⟨g1, g2⟩ := h5
        cases t with
        | b n =>
          simp only [Bool.and_eq_true, decide_eq_true_eq] at g2
          obtain ⟨⟨f1, f2⟩, f3⟩ := g2
          exact ae_isi (tv := .ty n) (glb_of G h2).1 (G.lib.free _ h3) (sndE a G h6).1 (pe_bltn (glb_of G g1).1 (G.lib.free _ f1) f3 rfl f2 (glb_of G g1).2) (.ty n) h4 rfl hI hk
        | own i =>
          simp only [decide_eq_true_eq] at g2
          exact ae_isi (tv := .ref (g.ca i)) (glb_of G h2).1 (G.lib.free _ h3) (sndE a G h6).1 (pe_glob (glb_of G g1).1 (G.lib.gc _ _ g2) rfl (glb_of G g1).2) (.own _) h4 rfl hI hk
      · cases h5
    · cases h
  | .bm m a es, c, X, G, e, h => by
    rw [chkE.eq_def] at h; dsimp only at h
    split at h
    · rename_i o m' apos as pos
      simp only [Bool.and_eq_true, decide_eq_true_eq] at h
      obtain ⟨⟨⟨⟨⟨⟨h1, h2⟩, h3⟩, h4⟩, h5⟩, h6⟩, h7⟩ := h
      subst h1
      rw [evP]
      refine AP.vt ?_ rfl
      cases as with
      | nil =>
        rw [es_nil h7 rfl]
        exact bm0_ok m (sndE a G h6).1 h2 h5
      | cons x q => exact bm_ok m (sndE a G h6).1 (sndEs es G h7) h2 h3 h4 h5
    · cases h
  | .comp mu m own t it d, c, X, G, e, h => by
    rw [chkE.eq_def] at h; dsimp only at h
    split at h
    · simp only [Bool.and_eq_true, decide_eq_true_eq, List.all_eq_true] at h
      obtain ⟨⟨⟨⟨⟨⟨⟨h1, h2⟩, h3⟩, h4⟩, h5⟩, h6⟩, h7⟩, h8⟩ := h
      subst h1
      obtain ⟨q, e1, e2⟩ := blkB_ok G h2
      rw [evP]
      refine AP.vt ?_ rfl
      subst e1
      exact ae_comp G.calm (by rw [G.N]; exact G.nd) (sndI it G h6) e2 h4 (fun s H C' cl fp => sndG t G.blk h5) (fun s H C' cl fp => sndC d G.blk h7) (fun s H C' cl fp => (sndE m G.blk h8).1) (folded_no h3)
    · cases h
  | .inG ne a x, c, X, G, e, h => by
    rw [chkE.eq_def] at h; dsimp only at h
    split at h
    · simp only [Bool.and_eq_true, decide_eq_true_eq] at h
      obtain ⟨⟨⟨⟨h1, h2⟩, h3⟩, h4⟩, h5⟩ := h
      subst h1 h2
      obtain ⟨xs, hx⟩ := Option.isSome_iff_exists.mp h4
      obtain ⟨p, m1, m2⟩ := G.lib.gt _ xs hx
      rw [evP, hx]
      have hu := G.room.un
      exact ⟨ae_inG (by omega) m2 (glb_of G h3).1 m1 (glb_of G h3).2 (sndE a G h5).1, at_inG (by omega) m2 (glb_of G h3).1 m1 (glb_of G h3).2 (sndE a G h5).1⟩
    · cases h
  | .subG x a, c, X, G, e, h => by
    rw [chkE.eq_def] at h; dsimp only at h
    split at h
    · simp only [Bool.and_eq_true, decide_eq_true_eq] at h
      obtain ⟨⟨⟨⟨h1, h2⟩, h3⟩, h4⟩, h5⟩ := h
      subst h1
      obtain ⟨xs, hx⟩ := Option.isSome_iff_exists.mp h3
      obtain ⟨p, m1, m2⟩ := G.lib.gd _ xs hx
      rw [evP, hx]
      exact AP.vt (ae_subG m2 (glb_of G h2).1 m1 (glb_of G h2).2 (sndE a G h5).1 (plainIx_of h4)) rfl
    · cases h
  | .lrng tp mu lo hi, c, X, G, e, h => by
    rw [chkE.eq_def] at h; dsimp only at h
    split at h
    · simp only [Bool.and_eq_true, decide_eq_true_eq] at h
      obtain ⟨⟨⟨⟨⟨⟨⟨h1, h2⟩, h3⟩, h4⟩, h5⟩, h6⟩, h7⟩, h8⟩ := h
      subst h1 h4
      rw [evP]
      refine AP.vt ?_ rfl
      split at h8
      · rw [Bool.and_eq_true] at h8
        intro W tk
        exact ae_lrng (tp := tp) (mu := mu) G.calm (glb_of G h2).1 (G.lib.free _ h3) (prg_1 (glb_of G h5).1 (G.lib.free _ h6) ((sndE hi G h8.2).1 W tk) (star_cons (noStar_cons h7).1)) rfl fun σ H Q hw => prg_lift1 (tp := tp) (mu := mu) hw
      · rw [Bool.and_eq_true] at h8
        intro W tk
        exact ae_lrng (tp := tp) (mu := mu) G.calm (glb_of G h2).1 (G.lib.free _ h3) (prg_2 (glb_of G h5).1 (G.lib.free _ h6) ((sndE _ G h8.1).1 W tk) ((sndE hi G h8.2).1 W tk) (star_cons (noStar_cons h7).1) (star_cons (noStar_cons (noStar_cons h7).2).1) (noStar_any (noStar_cons h7).2)) rfl fun σ H Q hw => prg_lift2 (tp := tp) (mu := mu) hw
      · cases h8
    · cases h
  | .dcomp mu m v own t it d, c, X, G, e, h => by
    rw [chkE.eq_def] at h; dsimp only at h
    split at h
    · simp only [Bool.and_eq_true, decide_eq_true_eq, List.all_eq_true] at h
      obtain ⟨⟨⟨⟨⟨⟨⟨⟨h1, h2⟩, h3⟩, h4⟩, h5⟩, h6⟩, h7⟩, h8⟩, h9⟩ := h
      subst h1
      obtain ⟨q, e1, e2⟩ := blkB_ok G h2
      rw [evP]
      refine AP.vt ?_ rfl
      subst e1
      exact ae_dc G.calm (by rw [G.N]; exact G.nd) (sndI it G h6) e2 h4 (fun s H C' cl fp => sndG t G.blk h5) (fun s H C' cl fp => sndC d G.blk h7) (fun s H C' cl fp => (sndE m G.blk h8).1) (fun s H C' cl fp => (sndE v G.blk h9).1) (folded_no h3)
    · cases h
  | .rev a, c, X, G, e, h => by
    rw [chkE.eq_def] at h; dsimp only at h
    split at h
    · rw [evP]
      exact AP.vt (ae_rev (sndE a G h).1) rfl
    · cases h
  | .dct mu ps, c, X, G, e, h => by
    rw [chkE.eq_def] at h; dsimp only at h
    split at h
    · simp only [Bool.and_eq_true, decide_eq_true_eq, Bool.not_eq_true'] at h
      obtain ⟨⟨⟨⟨h1, h2⟩, h3⟩, h4⟩, h5⟩ := h
      rw [evP]
      exact AP.vt (ae_disp (mu := mu) (sndD ps G h5) h4 h1 (fun e => by rw [e] at h3; cases h3) h2) rfl
    · cases h
theorem sndD : ∀ (m : Eps) {c : Ck} {X : Cx} (G : Good T nm g C k fd ps c X) {pos : Pos} {keys : List (Option Expr)} {values : List Expr}, chkD T nm m c keys values = true → APs g X pos keys values (evd T C m)
  | .nil, c, X, G, pos, keys, values, h => by
    rw [chkD.eq_def] at h; dsimp only at h
    rw [Bool.and_eq_true, List.isEmpty_iff, List.isEmpty_iff] at h
    obtain ⟨rfl, rfl⟩ := h
    rw [evd]
    exact aps_nil
  | .cons a b r, c, X, G, pos, keys, values, h => by
    rw [chkD.eq_def] at h; dsimp only at h
    split at h
    · simp only [Bool.and_eq_true] at h
      obtain ⟨⟨h1, h2⟩, h3⟩ := h
      rw [evd]
      exact aps_cons (sndE a G h1).1 (sndE b G h2).1 (sndD r G h3)
    · cases h
theorem sndEs : ∀ (m : Es) {c : Ck} {X : Cx} (G : Good T nm g C k fd ps c X) {es : List Expr}, chkEs T nm m c es = true → AA g X es (evs T C m)
  | .nil, c, X, G, es, h => by
    rw [chkEs.eq_def] at h; dsimp only at h
    cases es with
    | nil => exact aa_nil
    | cons => cases h
  | .cons m r, c, X, G, es, h => by
    rw [chkEs.eq_def] at h; dsimp only at h
    split at h
    · simp only [Bool.and_eq_true, Bool.not_eq_true'] at h
      obtain ⟨⟨h1, h2⟩, h3⟩ := h
      exact aa_cons (sndE m G h2).1 (sndEs r G h3) (star_cons h1)
    · cases h
  | .star m r, c, X, G, es, h => by
    rw [chkEs.eq_def] at h; dsimp only at h
    split at h
    · simp only [Bool.and_eq_true] at h
      exact aa_star (sndE m G h.1).1 (sndEs r G h.2)
    · cases h
theorem sndB (an : Bool) : ∀ (m : Es) {c : Ck} {X : Cx} (G : Good T nm g C k fd ps c X) {es : List Expr} {pos : Pos}, chkEs T nm m c es = true → noStar es = true → AE g X (.BoolOp (if an then .And else .Or) es pos) (evB T C an m).v ∧ AW g X (.BoolOp (if an then .And else .Or) es pos) (evB T C an m).t
  | .nil, c, X, G, es, pos, h, h' => by
    rw [evB]
    exact ⟨ae_no, fun W tk => ⟨fun wh pins s σ H Q I ⟨_, _, _, _, _, _, w⟩ => w.elim⟩⟩
  | .star m r, c, X, G, es, pos, h, h' => by
    rw [evB]
    exact ⟨ae_no, fun W tk => ⟨fun wh pins s σ H Q I ⟨_, _, _, _, _, _, w⟩ => w.elim⟩⟩
  | .cons m .nil, c, X, G, es, pos, h, h' => by
    rw [chkEs.eq_def] at h; dsimp only at h
    split at h
    · rename_i e q
      simp only [Bool.and_eq_true, Bool.not_eq_true'] at h
      obtain ⟨⟨h1, h2⟩, h3⟩ := h
      rw [chkEs.eq_def] at h3; dsimp only at h3
      cases q with
      | nil =>
        rw [evB]
        have i := sndE m G h2
        refine ⟨ae_one i.1, ?_⟩
        cases an with
        | true => exact aw_and1 i.2
        | false => exact aw_or1 i.2
      | cons => cases h3
    · cases h
  | .cons m (.cons m2 r), c, X, G, es, pos, h, h' => by
    rw [chkEs.eq_def] at h; dsimp only at h
    split at h
    · rename_i e q
      simp only [Bool.and_eq_true, Bool.not_eq_true'] at h
      obtain ⟨⟨h1, h2⟩, h3⟩ := h
      have i := sndE m G h2
      have j := sndB an (.cons m2 r) G (pos := pos) h3 (noStar_cons h').2
      cases q with
      | nil => rw [chkEs.eq_def] at h3; cases h3
      | cons e2 q =>
        rw [evB]
        · cases an with
          | true =>
            refine ⟨?_, ?_⟩
            · have := ae_and (pos := pos) i.1 j.1
              exact this
            · have := aw_and (pos := pos) i.2 j.2
              exact this
          | false =>
            refine ⟨?_, ?_⟩
            · have := ae_or (pos := pos) i.1 j.1
              rw [or_eqV] at this
              exact this
            · have := aw_or (pos := pos) i.2 j.2
              rw [or_eqT] at this
              exact this
        · simp
    · cases h
  | .cons m (.star m2 r), c, X, G, es, pos, h, h' => by
    rw [chkEs.eq_def] at h; dsimp only at h
    split at h
    · rename_i e q
      simp only [Bool.and_eq_true, Bool.not_eq_true'] at h
      obtain ⟨⟨h1, h2⟩, h3⟩ := h
      rw [chkEs.eq_def] at h3; dsimp only at h3
      split at h3
      · have := (noStar_cons h').2
        rw [noStar, Bool.and_eq_true] at this
        cases this.1
      · cases h3
    · cases h
theorem sndKw : ∀ (m : Es) {c : Ck} {X : Cx} (G : Good T nm g C k fd ps c X) {es : List Keyword}, chkKw T nm m c es = true → AK g X es (evs T C m)
  | .nil, c, X, G, es, h => by
    rw [chkKw.eq_def] at h; dsimp only at h
    cases es with
    | nil => exact ak_nil
    | cons => cases h
  | .cons m r, c, X, G, es, h => by
    rw [chkKw.eq_def] at h; dsimp only at h
    split at h
    · simp only [Bool.and_eq_true] at h
      exact ak_cons (sndE m G h.1).1 (sndKw r G h.2)
    · cases h
  | .star m r, c, X, G, es, h => by
    rw [chkKw.eq_def] at h
    cases h
theorem sndC : ∀ (m : Eo) {c : Ck} {X : Cx} (G : Good T nm g C k fd ps c X) {es : List Expr}, chkC T nm m c es = true → PTs X es (liftT X.K g (fun _ _ _ _ => False) (evc T C m))
  | .none, c, X, G, es, h => by
    rw [chkC.eq_def] at h; dsimp only at h
    cases es with
    | nil => exact ats_nil rfl _ takesF
    | cons => cases h
  | .some m, c, X, G, es, h => by
    rw [chkC.eq_def] at h; dsimp only at h
    split at h
    · exact ats_one (sndE m G h).2 _ takesF
    · cases h
theorem sndI : ∀ (m : It) {c : Ck} {X : Cx} (G : Good T nm g C k fd ps c X) {tg e : Expr}, chkI T nm m c tg e = true → AI g X tg e (evi T C m)
  | .val m, c, X, G, tg, e, h => by
    rw [chkI.eq_def] at h; dsimp only at h
    exact ai_val (sndE m G h).1
  | .rng es, c, X, G, tg, e, h => by
    rw [chkI.eq_def] at h; dsimp only at h
    split at h
    · rename_i x p as pos
      simp only [Bool.and_eq_true, decide_eq_true_eq] at h
      obtain ⟨⟨⟨⟨⟨h0, h1⟩, h2⟩, h3⟩, h4⟩, h5⟩ := h
      subst h1
      have hl := evs_len (T := T) (C := C) h5 h4
      cases as with
      | nil => simp at h0
      | cons a as =>
        cases as with
        | nil => exact ai_rng1 (glb_of G h2).1 (G.lib.free _ h3) (sndEs es G h5) hl (by rw [star_cons (noStar_cons h4).1]; rfl)
        | cons b as =>
          cases as with
          | nil => exact ai_rng2 (glb_of G h2).1 (G.lib.free _ h3) (sndEs es G h5) hl (noStar_cons h4).1 (noStar_cons (noStar_cons h4).2).1
          | cons d as => simp at h0
    · cases h
  | .enum m, c, X, G, tg, e, h => by
    rw [chkI.eq_def] at h; dsimp only at h
    split at h
    · split at h
      · simp only [Bool.and_eq_true, decide_eq_true_eq, Bool.not_eq_true'] at h
        obtain ⟨⟨⟨⟨h1, h2⟩, h3⟩, h4⟩, h5⟩ := h
        subst h1
        exact ai_enum (glb_of G h2).1 (G.lib.free _ h3) (sndE m G h5).1 (by rw [star_cons h4]; rfl)
      · cases h
    · cases h
theorem sndO : ∀ (m : Eo) {c : Ck} {X : Cx} (G : Good T nm g C k fd ps c X) {e : Option Expr}, chkO T nm m c e = true → AO g X e (evo T C m)
  | .none, c, X, G, e, h => by
    rw [chkO.eq_def] at h; dsimp only at h
    cases e with
    | none => exact ao_none
    | some => cases h
  | .some m, c, X, G, e, h => by
    rw [chkO.eq_def] at h; dsimp only at h
    split at h
    · exact ao_some (sndE m G h).1
    · cases h
end
end
end MP
end S_MQd
section S_MQe
/-! MQe: the checker of statements. -/
namespace MP
open PySem L2

def blkK (sc : Scope) : ScopeKind := if sc.kind.isAnnotationScope then .function else sc.kind
def swN (sc : Scope) (ts : List Expr) : List Str := ts.filterMap fun
  | .Name id pos => if sc.names.lookup id == some .local && pos.line == (ts.head?.map (·.pos.line)).getD 0 then some id else none
  | _ => none
def anyStar (vs : List Expr) : Bool := vs.any fun | .Starred .. => true | _ => false
/-- the order of the stores of a, b = x, y (none: that is not known) -/
def swP (sc : Scope) (ts vs : List Expr) : Option (Option (List Str)) :=
  if (!(ts.length == 2 || ts.length == 3) || vs.length != ts.length || blkK sc != .function) = true then some none
  else if anyStar vs = true then some none
  else if ((swN sc ts).length != ts.length || (swN sc ts).eraseDups.length != (swN sc ts).length) = true then some none
  else if vs.all (foldedForSure 8) = true then some none
  else if vs.all (constantsAlone 8) = true then none
  else some (some (swN sc ts))
theorem sw_eq {ts vs : List Expr} {env : Env} {k k2 : Nat} {p p2 : Pos} : swappedStores [.Tuple ts k p] (.Tuple vs k2 p2) env = (do
    if (!(ts.length == 2 || ts.length == 3) || vs.length != ts.length || blkK env.scope != .function) = true then return none
    if anyStar vs = true then return none
    if ((swN env.scope ts).length != ts.length || (swN env.scope ts).eraseDups.length != (swN env.scope ts).length) = true then return none
    if vs.all (foldedForSure 8) = true then return none
    if vs.all (constantsAlone 8) = true then unsupported "assign.tuple-of-constant-expressions:order-of-the-stores"
    return some (swN env.scope ts)) := rfl
theorem swP_ok {ts vs : List Expr} {r : Option (List Str)} {env : Env} {k k2 : Nat} {p p2 : Pos} (h : swP env.scope ts vs = some r) : swappedStores [.Tuple ts k p] (.Tuple vs k2 p2) env = pure r := by
  rw [sw_eq]
  unfold swP at h
  by_cases h1 : (!(ts.length == 2 || ts.length == 3) || vs.length != ts.length || blkK env.scope != .function) = true
  · rw [if_pos h1] at h ⊢
    cases h; rfl
  · rw [if_neg h1] at h ⊢
    by_cases h2 : anyStar vs = true
    · rw [if_pos h2] at h
      cases h
      show (if _ then _ else _) = _
      rw [if_pos h2]
    · rw [if_neg h2] at h
      show (if _ then _ else _) = _
      rw [if_neg h2]
      by_cases h3 : ((swN env.scope ts).length != ts.length || (swN env.scope ts).eraseDups.length != (swN env.scope ts).length) = true
      · rw [if_pos h3] at h
        cases h
        show (if _ then _ else _) = _
        rw [if_pos h3]
      · rw [if_neg h3] at h
        show (if _ then _ else _) = _
        rw [if_neg h3]
        by_cases h4 : vs.all (foldedForSure 8) = true
        · rw [if_pos h4] at h
          cases h
          show (if _ then _ else _) = _
          rw [if_pos h4]
        · rw [if_neg h4] at h
          show (if _ then _ else _) = _
          rw [if_neg h4]
          by_cases h5 : vs.all (constantsAlone 8) = true
          · rw [if_pos h5] at h; cases h
          · rw [if_neg h5] at h
            cases h
            show (if _ then _ else _) = _
            rw [if_neg h5]
/-- the stores are as usual -/
def noSwap (sc : Scope) (t v : Expr) : Bool := match t, v with
  | .Tuple ts _ _, .Tuple vs _ _ => decide (swP sc ts vs = some none)
  | .List _ _, _ => false
  | _, _ => true
theorem noSwap_ok {t v : Expr} {env : Env} (h : noSwap env.scope t v = true) : swappedStores [t] v env = pure none := by
  unfold noSwap at h
  split at h
  · exact swP_ok (of_decide_eq_true h)
  · cases h
  · rename_i n1 n2
    cases t <;> first | rfl | skip
    · exact (n1 _ _ rfl).elim
    · cases v <;> first | rfl | skip
      exact (n2 _ _ _ _ _ _ rfl rfl).elim
/-- name = [..] stores early -/
def swB (sc : Scope) (y : Str) (py : Pos) (vp : Pos) (scope : Scope) : Bool := blkK sc == .function && sc.names.lookup y == some .local && py.line == vp.line && !(scope.names.any fun (n, k) => n == y && (k == .local || k == .cell))
theorem swB_eq {elt : Expr} {gs : List Comprehension} {scope : Scope} {vp py : Pos} {y : Str} {l : Nat} {env : Env} : swapsWith (.ListComp elt gs scope vp) (some (.Name y py)) l env = pure (swB env.scope y py vp scope) := rfl
/-- where a comprehension is stored as usual -/
def lateC (sc : Scope) (t v : Expr) : Bool := match v with
  | .ListComp _ _ scope vp => (match t with
    | .Name y py => !swB sc y py vp scope
    | _ => true)
  | .SetComp .. => false
  | .DictComp .. => false
  | _ => true
theorem lateC_ok {t v : Expr} {env : Env} {l : Nat} (h : lateC env.scope t v = true) : swapsWithSole [t] v l env = pure false := by
  show swapsWith v (some t) l env = pure false
  unfold lateC at h
  split at h
  · split at h
    · rename_i y py
      rw [swB_eq]
      rw [show swB env.scope y py _ _ = false by simpa using h]
    · rename_i n
      cases t <;> first | rfl | skip
      exact absurd rfl (n _ _)
  · cases h
  · cases h
  · rename_i n1 n2 n3
    cases v <;> first | rfl | skip
    · exact absurd rfl (n1 _ _ _ _)
    · exact absurd rfl (n2 _ _ _ _)
    · exact absurd rfl (n3 _ _ _ _ _)
mutual
def chkL (T : Tab) (nm : Nm) : Lv → Ck → Expr → Bool
  | .tg t, c, e => chkG t c e
  | .sub o i, c, e => match e with
    | .Subscript a b _ => notSlice b && chkE T nm o c a && chkE T nm i c b
    | _ => false
  | .tup ls, c, e => match e with
    | .Tuple es _ _ => chkLs T nm ls c es
    | _ => false
def chkLs (T : Tab) (nm : Nm) : Lvs → Ck → List Expr → Bool
  | .nil, c, es => es.isEmpty
  | .cons l r, c, es => match es with
    | e :: q => !isStar e && chkL T nm l c e && chkLs T nm r c q
    | [] => false
end
def tgsOf : List Nat → Tgs
  | [] => .nil
  | i :: r => .cons (.name i) (tgsOf r)
theorem tgsOf_len : ∀ is : List Nat, (tgsOf is).len = is.length
  | [] => rfl
  | _ :: r => by rw [tgsOf, Tgs.len, tgsOf_len r]; rfl
theorem tgsOf_set : ∀ (is : List Nat) (as : List A) (s : Sl), (tgsOf is).set as s = setAll is as s
  | [], [], s => rfl
  | [], _ :: _, s => rfl
  | i :: r, [], s => rfl
  | i :: r, a :: q, s => by rw [tgsOf, Tgs.set, Tg.set, setAll, Option.bind_some, tgsOf_set r q]
theorem setAll_len : ∀ {is : List Nat} {as : List A} {s s' : Sl}, setAll is as s = some s' → as.length = is.length
  | [], [], s, s', h => rfl
  | [], _ :: _, s, s', h => by cases h
  | i :: r, [], s, s', h => by cases h
  | i :: r, a :: q, s, s', h => by rw [setAll] at h; rw [List.length_cons, List.length_cons, setAll_len h]
/-- name = [..], stored early -/
def chkEarly (T : Tab) (nm : Nm) (c : Ck) (l : Lv) (e : E) (t v : Expr) : Bool := match l, t, v with
  | .tg (.name i), .Name y py, .ListComp _ _ scope vp => decide (c.N[i]? = some y) && decide (c.sc.names.lookup y = some .local) && swB c.sc y py vp scope && (match e with
    | .comp mu m own tt it d => chkE T nm (.comp mu m own tt it d) c v
    | _ => false)
  | _, _, _ => false
mutual
def chkS (T : Tab) (nm : Nm) : S → Ck → Stmt → Bool
  | .asg l e, c, st => match st with
    | .Assign [t] v _ => (lateC c.sc t v && noSwap c.sc t v && !isStar t && chkL T nm l c t && chkE T nm e c v) || chkEarly T nm c l e t v
    | _ => false
  | .par is es, c, st => match st with
    | .Assign [.Tuple ts _ _] (.Tuple vs _ _) _ => (decide (swP c.sc ts vs = some none) && decide (is.length ≤ 8) && chkGs (tgsOf is) c ts && chkEs T nm es c vs) || (match ts, vs, is with
      | [.Name x _, .Name y _], [a, b], [i, j] => decide (c.N[i]? = some x) && decide (c.N[j]? = some y) && decide (i ≠ j) && decide (c.sc.names.lookup x = some .local) && decide (c.sc.names.lookup y = some .local) && decide (swP c.sc ts vs = some (some [x, y])) && chkEs T nm es c vs
      | [.Name x _, .Name y _, .Name z _], [a, b, d], [i, j, l] => decide (c.N[i]? = some x) && decide (c.N[j]? = some y) && decide (c.N[l]? = some z) && decide (i ≠ j) && decide (i ≠ l) && decide (j ≠ l) && decide (c.sc.names.lookup x = some .local) && decide (c.sc.names.lookup y = some .local) && decide (c.sc.names.lookup z = some .local) && decide (swP c.sc ts vs = some (some [x, y, z])) && chkEs T nm es c vs
      | _, _, _ => false)
    | _ => false
  | .fld o f e, c, st => match st with
    | .Assign [.Attribute a f' _] v _ => decide (f' = f) && notComp v && chkE T nm o c a && chkE T nm e c v
    | _ => false
  | .expr e, c, st => match st with
    | .Expr v _ => notComp v && chkE T nm e c v
    | _ => false
  | .ret e, c, st => match st with
    | .Return (some v) _ => chkE T nm e c v
    | _ => false
  | .retn, c, st => match st with
    | .Return none _ => true
    | _ => false
  | .ifs d a b, c, st => match st with
    | .If t x y _ => chkE T nm d c t && chkSs T nm a c x && chkSs T nm b c y
    | _ => false
  | .for_ t it b, c, st => match st with
    | .For tg iter x [] _ => notSetI iter && chkG t c tg && chkI T nm it c tg iter && chkSs T nm b c x
    | _ => false
  | .while_ d b, c, st => match st with
    | .While t x [] _ => chkE T nm d c t && chkSs T nm b c x
    | _ => false
  | .stop, c, st => true
  | .try_ b x, c, st => match st with
    | .Try body [.ExceptHandler (some (.Name y _)) none (_ :: _) _] [] [] _ => decide (y = x) && glb c x && (nm.gc x).isSome && chkSs T nm b c body
    | _ => false
  | .pass, c, st => match st with
    | .Pass _ => true
    | _ => false
  | .brk, c, st => match st with
    | .Break _ => true
    | _ => false
  | .cont, c, st => match st with
    | .Continue _ => true
    | _ => false
def chkSs (T : Tab) (nm : Nm) : Ss → Ck → List Stmt → Bool
  | .nil, c, ss => ss.isEmpty
  | .cons a r, c, ss => match ss with
    | s :: q => chkS T nm a c s && chkSs T nm r c q
    | [] => false
end
end MP
end S_MQe
section S_MQf
/-! MQf: the checker is right about statements. -/
namespace MP
open PySem L2
section
variable {T : Tab} {nm : Nm} {g : Gm} {C : CallT} {k : Nat} {fd : Nat → FuncData} {ps : Nat → List Str}
mutual
theorem sndL : ∀ (l : Lv) {c : Ck} {X : Cx} (G : Good T nm g C k fd ps c X) {e : Expr}, chkL T nm l c e = true → AG2 g X e (evL T C l)
  | .tg t, c, X, G, e, h => by
    rw [chkL.eq_def] at h; dsimp only at h
    have := ag2_of (sndG t G h)
    exact this
  | .sub o i, c, X, G, e, h => by
    rw [chkL.eq_def] at h; dsimp only at h
    split at h
    · simp only [Bool.and_eq_true] at h
      obtain ⟨⟨h1, h2⟩, h3⟩ := h
      have hu := G.room.un
      exact ag2_sub (by omega) (sndE o G h2).1 (sndE i G h3).1 h1
    · cases h
  | .tup ls, c, X, G, e, h => by
    rw [chkL.eq_def] at h; dsimp only at h
    split at h
    · obtain ⟨h1, h2, h3⟩ := sndLs ls G h
      exact ag2_tup G.calm h1 ls.len h2 h3
    · cases h
theorem sndLs : ∀ (l : Lvs) {c : Ck} {X : Cx} (G : Good T nm g C k fd ps c X) {e : List Expr}, chkLs T nm l c e = true → AG2s g X e (evLs T C l) ∧ (assignEach e X.env).length = l.len ∧ (assignEach e X.env).findIdx? (·.1) = none
  | .nil, c, X, G, e, h => by
    rw [chkLs.eq_def] at h; dsimp only at h
    cases e with
    | nil => exact ⟨ag2s_nil, rfl, rfl⟩
    | cons => cases h
  | .cons l r, c, X, G, e, h => by
    rw [chkLs.eq_def] at h; dsimp only at h
    split at h
    · simp only [Bool.and_eq_true, Bool.not_eq_true'] at h
      obtain ⟨⟨h1, h2⟩, h3⟩ := h
      obtain ⟨i1, i2, i3⟩ := sndLs r G h3
      refine ⟨ag2s_cons (sndL l G h2) i1 (by rw [assign_cons h1]; rfl), ?_, ?_⟩
      · rw [assign_cons h1, List.length_cons, i2]; rfl
      · rw [assign_cons h1, List.findIdx?_cons, i3]; rfl
    · cases h
end
theorem par2_eq {i j : Nat} {es : Es} : exS1 T C (.par [i, j] es) = fun s h => (evs T C es s h).st s fun as h1 => match as with | [u, v] => .nx ((s.set i (some u)).set j (some v)) h1 | _ => .no := by
  funext s h
  rw [exS1]
  congr 1
  funext as h1
  match as with
  | [] => rfl
  | [_] => rfl
  | [_, _] => rfl
  | _ :: _ :: _ :: _ => rfl
theorem par3_eq {i j l : Nat} {es : Es} : exS1 T C (.par [i, j, l] es) = fun s h => (evs T C es s h).st s fun as h1 => match as with | [u, v, w] => .nx (((s.set i (some u)).set j (some v)).set l (some w)) h1 | _ => .no := by
  funext s h
  rw [exS1]
  congr 1
  funext as h1
  match as with
  | [] => rfl
  | [_] => rfl
  | [_, _] => rfl
  | [_, _, _] => rfl
  | _ :: _ :: _ :: _ :: _ => rfl
theorem parT_eq {is : List Nat} {es : Es} (hl : is.length ≤ sizeLine) : exS1 T C (.par is es) = fun s h => (evs T C es s h).st s fun as h1 => if as.length = is.length ∧ is.length ≤ sizeLine then (match (tgsOf is).set as s with | some s' => .nx s' h1 | none => .no) else .no := by
  funext s h
  rw [exS1]
  congr 1
  funext as h1
  rw [tgsOf_set]
  cases e : setAll is as s with
  | none => simp
  | some s' => rw [if_pos ⟨setAll_len e, hl⟩]
theorem as_no {X : Cx} {st : Stmt} : AS g X st (fun _ _ => .no) := fun W tk => ⟨fun pins s σ H D I ⟨_, _, _, _, _, _, w⟩ => w.elim⟩
mutual
theorem sndS : ∀ (m : S) {c : Ck} {X : Cx} (G : Good T nm g C k fd ps c X) (hp : Fro X) {st : Stmt}, chkS T nm m c st = true → AS g X st (exS1 T C m)
  | .asg l e, c, X, G, hp, st, h => by
    rw [chkS.eq_def] at h; dsimp only at h
    split at h
    · rename_i t v pos
      rw [Bool.or_eq_true] at h
      rcases h with h | h
      · simp only [Bool.and_eq_true, Bool.not_eq_true'] at h
        obtain ⟨⟨⟨⟨h1, h2⟩, h3⟩, h4⟩, h5⟩ := h
        exact as_asg2 (sndE e G h5).1 (sndL l G h4) (lateC_ok (by rw [G.sc]; exact h1)) (noSwap_ok (by rw [G.sc]; exact h2)) (by rw [assign_cons h3]; rfl)
      · unfold chkEarly at h
        split at h
        · rename_i i y py elt gs scope vp
          simp only [Bool.and_eq_true, decide_eq_true_eq] at h
          obtain ⟨⟨⟨h1, h2⟩, h3⟩, h4⟩ := h
          split at h4
          · rename_i mu m own tt it d
            rw [chkE.eq_def] at h4; dsimp only at h4
            split at h4
            · rename_i elt' tg iter ifs ia scope' vp' heq
              cases heq
              simp only [Bool.and_eq_true, decide_eq_true_eq, List.all_eq_true] at h4
              obtain ⟨⟨⟨⟨⟨⟨⟨k1, k2⟩, k3⟩, k4⟩, k5⟩, k6⟩, k7⟩, k8⟩ := h4
              subst k1
              obtain ⟨q, e1, e2⟩ := blkB_ok G k2
              subst e1
              have := as_setLc (g := g) (X := X) (mu := mu) (i := i) (y := y) (py := py) (spos := pos) (pos := vp) (elt := elt) (tg := tg) (iter := iter) (ifs := ifs) (scope := scope) (own := q) (fi := evi T C it) (is := tt.is) (ft := tt.set) (ff := evc T C d) (fe := (evP T C m).v) G.calm (by rw [G.N]; exact G.nd) (by rw [G.N]; exact h1) (by rw [G.sc]; exact h2) (by rw [swB_eq, G.sc, h3]) (sndI it G k6) e2 k4 (fun s H C' cl fp => sndG tt G.blk k5) (fun s H C' cl fp => sndC d G.blk k7) (fun s H C' cl fp => (sndE m G.blk k8).1) (folded_no k3)
              have e3 : exS1 T C (.asg (.tg (.name i)) (.comp mu m (q.map (·.2)) tt it d)) = fun s h => (compF mu (evi T C it) tt.set (evc T C d) (evP T C m).v (q.map (·.2)) s h).st s fun a h1 => .nx (s.set i (some a)) h1 := by
                funext s h
                rw [exS1, ev, evP]
                rfl
              rw [e3]
              exact this
            · cases h4
          · cases h4
        · cases h
    · cases h
  | .par is es, c, X, G, hp, st, h => by
    rw [chkS.eq_def] at h; dsimp only at h
    split at h
    · rename_i ts kt pt vs k2 pt2 pos
      rw [Bool.or_eq_true] at h
      rcases h with h | h
      · simp only [Bool.and_eq_true, decide_eq_true_eq] at h
        obtain ⟨⟨⟨h1, h2⟩, h3⟩, h4⟩ := h
        obtain ⟨g1, g2, g3⟩ := sndGs (tgsOf is) G h3
        rw [parT_eq]
        have := as_parT (g := g) (X := X) (pos := pos) (kt := kt) (pt := pt) (k2 := k2) (pt2 := pt2) G.calm (sndEs es G h4) g1 _ g2 g3 rfl (swP_ok (by rw [G.sc]; exact h1))
        rw [tgsOf_len] at this
        exact this
        exact Nat.le_trans h2 (by decide)
      split at h
      · simp only [Bool.and_eq_true, decide_eq_true_eq] at h
        obtain ⟨⟨⟨⟨⟨⟨h1, h2⟩, h3⟩, h4⟩, h5⟩, h6⟩, h7⟩ := h
        rw [par2_eq]
        exact as_par G.calm (by rw [G.N]; exact G.nd) (by rw [G.N]; exact h1) (by rw [G.N]; exact h2) h3 (by rw [G.sc]; exact h4) (by rw [G.sc]; exact h5) (sndEs es G h7) (swP_ok (by rw [G.sc]; exact h6)) rfl
      · simp only [Bool.and_eq_true, decide_eq_true_eq] at h
        obtain ⟨⟨⟨⟨⟨⟨⟨⟨⟨⟨h1, h2⟩, h3⟩, h4⟩, h5⟩, h6⟩, h7⟩, h8⟩, h9⟩, h10⟩, h11⟩ := h
        rw [par3_eq]
        exact as_par3 G.calm (by rw [G.N]; exact G.nd) (by rw [G.N]; exact h1) (by rw [G.N]; exact h2) (by rw [G.N]; exact h3) h4 h5 h6 (by rw [G.sc]; exact h7) (by rw [G.sc]; exact h8) (by rw [G.sc]; exact h9) (sndEs es G h11) (swP_ok (by rw [G.sc]; exact h10)) rfl
      · cases h
    · cases h
  | .fld o f e, c, X, G, hp, st, h => by
    rw [chkS.eq_def] at h; dsimp only at h
    split at h
    · rename_i a f' p' v pos
      simp only [Bool.and_eq_true, decide_eq_true_eq] at h
      obtain ⟨⟨⟨h1, h2⟩, h3⟩, h4⟩ := h
      subst h1
      have L := G.lib
      have := as_fld (g := g) (X := X) (pos := pos) (p' := p') (f := f') (sndE o G h3).1 (sndE e G h4).1 h2 (fun cn hm => L.fld cn _ (by rw [← L.lay]; exact hm)) (fun cn => by rw [L.lay]; exact L.small cn)
      rw [L.lay] at this
      exact this
    · cases h
  | .expr e, c, X, G, hp, st, h => by
    rw [chkS.eq_def] at h; dsimp only at h
    split at h
    · simp only [Bool.and_eq_true] at h
      exact as_expr (sndE e G h.2).1 (swaps_no h.1)
    · cases h
  | .ret e, c, X, G, hp, st, h => by
    rw [chkS.eq_def] at h; dsimp only at h
    split at h
    · exact as_ret (sndE e G h).1
    · cases h
  | .retn, c, X, G, hp, st, h => by
    rw [chkS.eq_def] at h; dsimp only at h
    split at h
    · exact as_retN
    · cases h
  | .ifs d a b, c, X, G, hp, st, h => by
    rw [chkS.eq_def] at h; dsimp only at h
    split at h
    · simp only [Bool.and_eq_true] at h
      obtain ⟨⟨h1, h2⟩, h3⟩ := h
      exact as_if (sndE d G h1).2 (sndSs a G hp h2) (sndSs b G hp h3)
    · cases h
  | .for_ t it b, c, X, G, hp, st, h => by
    rw [chkS.eq_def] at h; dsimp only at h
    split at h
    · simp only [Bool.and_eq_true] at h
      obtain ⟨⟨⟨h1, h2⟩, h3⟩, h4⟩ := h
      exact as_for hp.po G.calm (sndI it G h3) (sndG t G h2) (sndSs b G hp h4) (folded_no h1)
    · cases h
  | .while_ d b, c, X, G, hp, st, h => by
    rw [chkS.eq_def] at h; dsimp only at h
    split at h
    · simp only [Bool.and_eq_true] at h
      exact as_while hp.po (sndE d G h.1).2 (sndSs b G hp h.2)
    · cases h
  | .try_ b x, c, X, G, hp, st, h => by
    rw [chkS.eq_def] at h; dsimp only at h
    split at h
    · simp only [Bool.and_eq_true, decide_eq_true_eq] at h
      obtain ⟨⟨⟨h1, h2⟩, h3⟩, h4⟩ := h
      subst h1
      obtain ⟨cn, hcn⟩ := Option.isSome_iff_exists.mp h3
      have e3 : ∀ y, exS1 T C (.try_ b y) = fun s h => noEx (exSs T C b s h) := by
        intro y; funext s h; rw [exS1]
      rw [e3]
      exact as_try hp.st hp.fr ⟨(glb_of G h2).1, (glb_of G h2).2, .inl (G.lib.gc _ cn hcn)⟩ (fun pn xe po => sndSs b (X := X.tr pn xe) ⟨G.lib, G.room, G.gd, G.calm, G.N, G.nd, G.sc, G.fn⟩ ⟨po, hp.st, hp.fr⟩ h4)
    · cases h
  | .stop, c, X, G, hp, st, h => as_no
  | .pass, c, X, G, hp, st, h => by
    rw [chkS.eq_def] at h; dsimp only at h
    split at h
    · exact as_pass
    · cases h
  | .brk, c, X, G, hp, st, h => by
    rw [chkS.eq_def] at h; dsimp only at h
    split at h
    · exact as_break
    · cases h
  | .cont, c, X, G, hp, st, h => by
    rw [chkS.eq_def] at h; dsimp only at h
    split at h
    · exact as_continue
    · cases h
theorem sndSs : ∀ (m : Ss) {c : Ck} {X : Cx} (G : Good T nm g C k fd ps c X) (hp : Fro X) {st : List Stmt}, chkSs T nm m c st = true → ASs g X st (exSs T C m)
  | .nil, c, X, G, hp, st, h => by
    rw [chkSs.eq_def] at h; dsimp only at h
    cases st with
    | nil => exact ass_nil
    | cons => cases h
  | .cons a r, c, X, G, hp, st, h => by
    rw [chkSs.eq_def] at h; dsimp only at h
    split at h
    · simp only [Bool.and_eq_true] at h
      exact ass_cons (sndS a G hp h.1) (sndSs r G hp h.2)
    · cases h
end
end
end MP
end S_MQf
section S_MQg
/-! MQg: from the defs' texts to their promises. -/
namespace MP
open PySem L2

/-- a def of the text, and its abstract form -/
structure FnFit (T : Tab) (nm : Nm) (g : Gm) (K : PySem.W.Frag) (fd : Nat → FuncData) (ps : Nat → List Str) (f : Nat) (F : Fn) : Prop where
  ex : ∃ (x qual : Str) (params : Arguments) (body : List Stmt) (scope : Scope) (dvs : List V) (kws : List (Str × V)) (N : List Str),
    FunD K x qual params body scope dvs kws (g.fa f) (fd f) ∧ FnScope N (ps f) scope ∧ F.np = (ps f).length ∧ T.np f = (ps f).length ∧ F.ns = N.length ∧ chkSs T nm F.body ⟨N, scope, fun _ => true⟩ body = true
/-- what is known of the text behind its top -/
structure Stat (T : Tab) (nm : Nm) (g : Gm) (P : Program) (w : World) (K : PySem.W.Frag) (mg : Str → Option Value) (base : Heap) (fd : Nat → FuncData) (ps : Nat → List Str) : Prop where
  fit : ∀ f F, T.fn f = some F → FnFit T nm g K fd ps f F
  gf : ∀ x f, nm.gf x = some f → mg x = some (.ref (g.fa f)) ∧ PySem.W.keepIn K (.ref (g.fa f)) = true
  gc : ∀ x c, nm.gc x = some c → mg x = some (.ref (g.ca c))
  free : ∀ x, nm.free x = true → mg x = none
  glo : ∀ x d, T.glo x = some d → ∃ u v, mg x = some u ∧ RelV v u ∧ ∀ z, RelD K g z d v
  gt : ∀ x xs, T.gt x = some xs → ∃ p, mg x = some (.ref p) ∧ ∀ h, K.In h → Sh h (.tup xs) (.ref p)
  gd : ∀ x kvs, T.gd x = some kvs → ∃ p, mg x = some (.ref p) ∧ ∀ k n, kvs.lookup k = some n → KDct K w p k (.int n)
  mks : ∀ c cl, T.cl c = some cl → Mk K (g.ca c) (g.fa cl.init)
  bind : ∀ f n ks sh, T.shape f n ks = some sh → BindOk K g (fd f) (ps f) n ks sh ∧ (T.fn f).isSome = true
  lay : g.lay = T.lay
  fld : ∀ c f, f ∈ T.lay c → Cls K (g.ca c) ∧ NoAttr K (g.ca c) f
  small : ∀ c, (T.lay c).length < 1000
  meth : ∀ c m f, T.meth c m = some f → Cls K (g.ca c) ∧ Meth K (g.ca c) m (g.fa f) ∧ m ∉ T.lay c
  cmeth : ∀ c m f, T.cmeth c m = some f → ∃ mc pp, ClX.CRead K (g.ca c) mc ∧ ClX.CMet K (g.ca c) mc m pp (g.fa f)
  prop : ∀ c m f, T.prop c m = some f → Cls K (g.ca c) ∧ (∃ q, PropOf K (g.ca c) m q (g.fa f)) ∧ T.np f = 1 ∧ (T.fn f).isSome = true ∧ Binds K (fd f) (ps f) []
  own : ∀ (tb : Nat → Option Nat) (name : Str), (tb, name) ∈ [(T.len, ("__len__" : Str)), (T.str, "__str__"), (T.bool, "__bool__")] → ∀ c f, tb c = some f → PySem.W.findIn K (.ref (g.ca c)) name = some (some (.ref (g.fa f))) ∧ PySem.W.isFn K (.ref (g.fa f)) = true ∧ T.np f = 1 ∧ (T.fn f).isSome = true ∧ Binds K (fd f) (ps f) []
  eq : ∀ c f, T.eq c = some f → PySem.W.findIn K (.ref (g.ca c)) "__eq__" = some (some (.ref (g.fa f))) ∧ PySem.W.isFn K (.ref (g.fa f)) = true ∧ T.np f = 2 ∧ (T.fn f).isSome = true ∧ Binds K (fd f) (ps f) [] ∧
    PySem.W.findIn K (.ref (g.ca c)) "__ne__" = some (some (.builtin "object.__ne__")) ∧ PySem.W.mroIn K (g.ca c) (.type "object") = some true ∧ ∀ k ∈ T.kinds, PySem.W.notFirst K (g.ca c) (kdV g k) = true
  kinds : ∀ i, .own i ∈ T.kinds → InsK K (g.ca i)
  isi : ∀ k t b, T.isi k t = some b → PySem.W.kitOne K (kdV g k) (kdV g t) = some b ∧ ∀ i, k = .own i → InsK K (g.ca i)
section
variable {T : Tab} {nm : Nm} {g : Gm} {P : Program} {w : World} {K : PySem.W.Frag} {mg : Str → Option Value} {base : Heap} {fd : Nat → FuncData} {ps : Nat → List Str}
theorem Stat.lib (S : Stat T nm g P w K mg base fd ps) {C : CallT} {k : Nat} (h : ∀ f, (T.fn f).isSome = true → FnG P w K mg base (L2.CX P w) k (g.fa f) (fd f) (ps f) (spF K g C (T.np f) f)) : Lib T nm g C k P w K mg base fd ps :=
  ⟨S.gf, S.gc, S.free, S.glo, S.gt, S.gd, h, S.mks, S.bind, S.lay, S.fld, S.small, S.meth, S.cmeth, S.prop, S.own, S.eq, S.kinds, S.isi⟩
theorem start_rel {z : Zn} {as : List A} {vs : List V} {N : List Str} (r : RelAs K g z as vs) : RelSl K g z (startS N.length as) (L2.start N vs) := by
  have hl := r.length
  refine ⟨by simp [startS, L2.start, hl], fun i a ha => ?_⟩
  unfold startS at ha
  unfold L2.start
  by_cases hi : i < as.length
  · rw [List.getElem?_append_left (by simpa using hi), List.getElem?_map] at ha
    obtain ⟨a', e1, e2⟩ := map_some ha
    cases e2
    obtain ⟨v, hv, rv⟩ := r.get e1
    exact ⟨v, by rw [List.getElem?_append_left (by simp; omega), List.getElem?_map, hv]; rfl, rv⟩
  · rw [List.getElem?_append_right (by simpa using hi)] at ha
    have := List.getElem?_replicate (a := (none : Option A)) (n := N.length - as.length) (i := i - (as.map some).length)
    rw [this] at ha
    split at ha
    · cases ha
    · cases ha
theorem fin_ok {z : Zn} {h : Hh} {keep : Bool} {r : OS} {Q : VK} {E : XK} (c : Cn K g z h) (w : (finC keep h.length r).wp (okK K g z Q) (exE K g z E)) :
    r.wp (slK K g z fun _ H' => Q .non H') (slK K g z fun _ _ => False) (slK K g z fun _ _ => False) (okK K g z Q) (exS K g z fun cls d _ H' => E cls d H') := by
  cases r with
  | no => exact w
  | bk s h' => exact w.elim
  | ct s h' => exact w.elim
  | nx s h' =>
    intro σ z' e c' _
    rw [finC] at w
    split at w
    · exact w .non z' e c' RelD.non
    · obtain ⟨r, er, q⟩ := optH_wp w
      exact retA_ok (a := .d .non) e c.len c' RelD.non er q
  | rt a h' =>
    intro v z' e c' ra
    rw [finC] at w
    split at w
    · exact w v z' e c' ra
    · obtain ⟨r, er, q⟩ := optH_wp w
      exact retA_ok e c.len c' ra er q
  | ex x s h' =>
    intro cls d σ z' e c' rx _
    rw [finC] at w
    split at w
    · exact w cls d z' e c' rx
    · split at w
      · rename_i h2 hc
        exact w cls d (z'.cutS h.length fun _ => False) (e.cutS c.len fun _ x => x.elim) (c'.cutS hc fun _ x => x.elim) rx.cutS
      · exact w.elim
theorem fok_of (S : Stat T nm g P w K mg base fd ps) : ∀ (n : Nat) (f : Nat), (T.fn f).isSome = true → FnG P w K mg base (L2.CX P w) (3 * n) (g.fa f) (fd f) (ps f) (spF K g (callN T n) (T.np f) f)
  | 0, f, hf => by
    obtain ⟨F, hF⟩ := Option.isSome_iff_exists.mp hf
    obtain ⟨x, qual, params, body, scope, dvs, kws, N, fdk, sc, e1, e2, e3, ck⟩ := (S.fit f F hF).ex
    refine ⟨fun vs H Q E ⟨h, _⟩ => by rw [h, e2], fun A outer s H args us vs Q E hr hg e0 hb rv ⟨h, as, hh, z, hz, c, ra, w⟩ => ?_⟩
    exact w.elim
  | n + 1, f, hf => by
    obtain ⟨F, hF⟩ := Option.isSome_iff_exists.mp hf
    obtain ⟨x, qual, params, body, scope, dvs, kws, N, fdk, sc, e1, e2, e3, ck⟩ := (S.fit f F hF).ex
    have L : Lib T nm g (callN T n) (3 * n) P w K mg base fd ps := S.lib (fok_of S n)
    refine fun_ok (k := 3 * n + 2) (N := N) fdk sc (fun vs H Q E ⟨h, _⟩ => by rw [h, e2]) fun cdv A outer s H vs Q E hr hgd ⟨hl, as, h, z, hz, c, ra, w0⟩ => ?_
    have G : Good T nm g (callN T n) (3 * n) fd ps ⟨N, scope, fun _ => true⟩ (cxOf (L2.CX P w) P w K mg base N qual scope (g.fa f) cdv A outer s H E) := ⟨L, hr, hgd, rfl, rfl, sc.nd, rfl, fun _ _ => .inl rfl⟩
    have tk : Takes (cxOf (L2.CX P w) P w K mg base N qual scope (g.fa f) cdv A outer s H E) (fun cls d _ H' => E cls d H') := takes_of rfl rfl rfl rfl
    have hp : Fro (cxOf (L2.CX P w) P w K mg base N qual scope (g.fa f) cdv A outer s H E) := ⟨passes_of rfl, rfl, rfl⟩
    refine ⟨_, sndSs F.body G hp ck _ tk, ?_⟩
    rw [callN] at w0
    dsimp only at w0
    rw [hF] at w0
    dsimp only at w0
    split at w0
    · rename_i hnp
      rw [e3] at w0
      exact ⟨startS N.length as, h, z, hz, c, start_rel ra, fin_ok c w0⟩
    · exact w0.elim
end
end MP
end S_MQg
section S_MQh
/-! MQh: from the head to what is known of the text. -/
namespace MP
open PySem L2

/-! ### how calls bind -/
theorem fill_range : ∀ (n : Nat) (pre as : List A), as.length = n → fillA ((List.range' pre.length n).map .inl) (pre ++ as) = some as
  | 0, pre, [], _ => rfl
  | n + 1, pre, a :: as, h => by
    have ih := fill_range n (pre ++ [a]) as (by simpa using h)
    rw [List.range'_succ, List.map_cons, fillA]
    have e1 : (pre ++ a :: as)[pre.length]? = some a := by simp
    have e2 : pre ++ [a] ++ as = pre ++ a :: as := by simp
    rw [List.length_append, List.length_singleton, e2] at ih
    rw [e1, ih]
theorem fill_inr : ∀ (dd : List D) (as : List A), fillA (dd.map .inr) as = some (dd.map .d)
  | [], _ => rfl
  | d :: r, as => by rw [List.map_cons, fillA, fill_inr r as]; rfl
def plainSh (n : Nat) : Fill := (List.range' 0 n).map .inl
section
variable {K : PySem.W.Frag} {g : Gm} {fd : FuncData} {ps : List Str}
theorem BindOk.plain (hb : Binds K fd ps []) : BindOk K g fd ps ps.length [] (plainSh ps.length) := by
  refine ⟨fun s us ws vs zs hK hu hw rv rz => ?_⟩
  have ew : ws = [] := List.length_eq_zero_iff.mp hw
  subst ew
  cases rz
  have := hb s us hK (by simpa using hu)
  rw [List.append_nil] at this
  refine ⟨us, vs, this, rv, fun z as as' ra e => ?_⟩
  rw [List.append_nil] at ra
  have hl : as.length = ps.length := by rw [ra.length, rv.length]; exact hu
  have h2 := fill_range ps.length [] as hl
  rw [List.nil_append] at h2
  unfold plainSh at e
  rw [show (0 : Nat) = ([] : List A).length from rfl, h2] at e
  cases e
  exact ra
/-- defaults fill up -/
theorem BindOk.dfl {ds : List Value} {dvs : List V} {dd : List D} (n : Nat) (hd : Vals dvs ds) (hb : Binds K fd ps ds) (hr : ∀ z, RelL K g z dd dvs) (hn : n + ds.length = ps.length) : BindOk K g fd ps n [] (plainSh n ++ dd.map .inr) := by
  refine ⟨fun s us ws vs zs hK hu hw rv rz => ?_⟩
  have ew : ws = [] := List.length_eq_zero_iff.mp hw
  subst ew
  cases rz
  have := hb s us hK (by simp [hu, hn])
  refine ⟨us ++ ds, vs ++ dvs, this, rv.append hd, fun z as as' ra e => ?_⟩
  rw [List.append_nil] at ra
  have hl : as.length = n := by rw [ra.length, rv.length]; exact hu
  have key : ∀ (sh : Fill) (xs : List A), fillA sh as = some xs → fillA (sh ++ dd.map .inr) as = some (xs ++ dd.map .d) := by
    intro sh
    induction sh with
    | nil =>
      intro xs e
      cases e
      rw [List.nil_append, List.nil_append]
      exact fill_inr dd as
    | cons q r ih =>
      intro xs e
      cases q with
      | inl i =>
        rw [fillA] at e
        rw [List.cons_append, fillA]
        cases e1 : as[i]? with
        | none => rw [e1] at e; cases e
        | some a =>
          rw [e1] at e
          cases e2 : fillA r as with
          | none => rw [e2] at e; cases e
          | some ys =>
            rw [e2] at e
            cases e
            rw [ih ys e2]
            rfl
      | inr d =>
        rw [fillA] at e
        rw [List.cons_append, fillA]
        obtain ⟨ys, e1, e2⟩ := map_some e
        subst e2
        rw [ih ys e1]
        rfl
  have h2 := fill_range n [] as hl
  rw [List.nil_append] at h2
  unfold plainSh at e
  rw [show (0 : Nat) = ([] : List A).length from rfl, key _ _ h2] at e
  cases e
  exact ra.append (RelAs.ofL (hr z))
/-- values picked from the written ones and the defaults -/
def fillV : List (Nat ⊕ V) → List V → Option (List V)
  | [], _ => some []
  | .inl i :: r, vs => match vs[i]?, fillV r vs with
    | some a, some q => some (a :: q)
    | _, _ => none
  | .inr d :: r, vs => (fillV r vs).map (d :: ·)
/-- which default stands where -/
inductive ShRel (K : PySem.W.Frag) (g : Gm) : Fill → List (Nat ⊕ V) → Prop
  | nil : ShRel K g [] []
  | inl {i : Nat} {a : Fill} {b : List (Nat ⊕ V)} : ShRel K g a b → ShRel K g (.inl i :: a) (.inl i :: b)
  | inr {d : D} {v : V} {a : Fill} {b : List (Nat ⊕ V)} : (∀ z, RelD K g z d v) → ShRel K g a b → ShRel K g (.inr d :: a) (.inr v :: b)
theorem fill_rel {z : Zn} {as : List A} {vs : List V} (r : RelAs K g z as vs) : ∀ {sh : Fill} {sv : List (Nat ⊕ V)} {as' : List A} {vs' : List V}, ShRel K g sh sv → fillA sh as = some as' → fillV sv vs = some vs' → RelAs K g z as' vs'
  | _, _, _, _, .nil, e1, e2 => by cases e1; cases e2; exact .nil
  | _, _, _, _, .inl (i := i) (a := a) (b := b) h, e1, e2 => by
    rw [fillA] at e1
    rw [fillV] at e2
    cases q1 : as[i]? with
    | none => rw [q1] at e1; cases e1
    | some x =>
      obtain ⟨y, hy, ry⟩ := r.get q1
      rw [q1] at e1
      rw [hy] at e2
      cases q2 : fillA a as with
      | none => rw [q2] at e1; cases e1
      | some xs =>
        cases q3 : fillV b vs with
        | none => rw [q3] at e2; cases e2
        | some ys =>
          rw [q2] at e1
          rw [q3] at e2
          cases e1; cases e2
          exact .cons ry (fill_rel r h q2 q3)
  | _, _, _, _, .inr hd h, e1, e2 => by
    rw [fillA] at e1
    rw [fillV] at e2
    obtain ⟨xs, q2, rfl⟩ := map_some e1
    obtain ⟨ys, q3, rfl⟩ := map_some e2
    exact .cons (hd z) (fill_rel r h q2 q3)
/-- by keywords -/
theorem BindOk.kw {n : Nat} {ks : List Str} {gg : List Value → List Value → List Value} {gV : List V → List V → List V} {sh : Fill} {sv : List (Nat ⊕ V)} (hb : KBn K fd ps n ks gg gV) (hs : ShRel K g sh sv) (hv : ∀ vs zs, vs.length = n → zs.length = ks.length → fillV sv (vs ++ zs) = some (gV vs zs)) : BindOk K g fd ps n ks sh := by
  refine ⟨fun s us ws vs zs hK hu hw rv rz => ?_⟩
  refine ⟨gg us ws, gV vs zs, hb.to s us ws hK hu hw, hb.rel rv rz, fun z as as' ra e => ?_⟩
  exact fill_rel ra hs e (hv vs zs (by rw [rv.length]; exact hu) (by rw [rz.length]; exact hw))
end

/-! ### the end -/
theorem end_sp {K : PySem.W.Frag} {g : Gm} {T : Tab} {n f : Nat} {ns : List Int} {h' : Hh} (e : callN T n f [.d (.scr ns)] [] = .ok (.d (.bl true)) h') {H : Hp} {a : Addr} (hO : L2.Only H) (hS : SqL K H a (ns.map V.int)) : spF K g (callN T n) 1 f [.ref a] H (fun v _ => v = .bl true) (fun _ _ _ => False) := by
  have key : ∃ z : Zn, z.H = H ∧ Cn K g z [] ∧ RelD K g z (.scr ns) (.ref a) := by
    rcases hS with (hS | ⟨o, hS⟩) | hS
    · rcases hO a with h0 | ⟨o, xs, h0⟩
      · rw [hS] at h0; cases h0
      · rw [hS] at h0; cases h0
    · refine ⟨⟨[], fun p => p = a, H⟩, rfl, ⟨rfl, List.nodup_nil, fun p hp => (by cases hp), fun p hp => ⟨_, hp ▸ hS⟩, fun i o p h1 _ => by simp at h1⟩, RelD.scr rfl hS⟩
    · exact ⟨⟨[], fun _ => False, H⟩, rfl, ⟨rfl, List.nodup_nil, fun p hp => (by cases hp), fun p hp => hp.elim, fun i o p h1 _ => by simp at h1⟩, RelD.scrK hS⟩
  obtain ⟨z, hz, c, r⟩ := key
  refine ⟨rfl, [.d (.scr ns)], [], z, hz, c, .cons r .nil, ?_⟩
  rw [e]
  intro v z' _ _ rv
  cases rv
  rfl
end MP
end S_MQh
section S_MQi
/-! MQi: a description of the text by lists; the checks on what the head leaves. -/
namespace MP
open PySem L2

structure FD where
  id : Nat
  pa : PySem.W.Frag → Addr
  gn : Option Str
  name : Str
  qual : Str
  params : Arguments
  body : List Stmt
  scope : Scope
  dfl : List He.Dv
  ps : List Str
  N : List Str
  F : Fn
structure CD where
  id : Nat
  gn : Str
  lay : List Str
  cl : Option Cl
  props : List (Str × Nat)
  meths : List (Str × Nat)
  cmeths : List (Str × Nat)
  len : Option Nat
  str : Option Nat
  bool : Option Nat
  eq : Option Nat
structure PD where
  fns : List FD
  cls : List CD
  gi : List (Str × Int)
  gs : List (Str × Str)
  tups : List (Str × List D)
  dics : List (Str × List (Str × Int))
  free : List Str
  shapes : List ((Nat × Nat × List Str) × Fill)
  isi : List ((Kd × Kd) × Bool)
  kinds : List Kd
def PD.fn (p : PD) (f : Nat) : Option FD := p.fns.find? fun d => d.id == f
def PD.cl (p : PD) (c : Nat) : Option CD := p.cls.find? fun d => d.id == c
def PD.tab (p : PD) : Tab where
  fn := fun f => (p.fn f).map (·.F)
  cl := fun c => (p.cl c).bind (·.cl)
  np := fun f => match p.fn f with
    | some d => d.ps.length
    | none => 0
  glo := fun x => match p.gi.lookup x with
    | some i => some (.int i)
    | none => (p.gs.lookup x).map .str
  gt := fun x => p.tups.lookup x
  gd := fun x => p.dics.lookup x
  prop := fun c m => (p.cl c).bind fun d => d.props.lookup m
  meth := fun c m => (p.cl c).bind fun d => d.meths.lookup m
  cmeth := fun c m => (p.cl c).bind fun d => d.cmeths.lookup m
  len := fun c => (p.cl c).bind (·.len)
  str := fun c => (p.cl c).bind (·.str)
  bool := fun c => (p.cl c).bind (·.bool)
  eq := fun c => (p.cl c).bind (·.eq)
  lay := fun c => match p.cl c with
    | some d => d.lay
    | none => []
  shape := fun f n ks => p.shapes.lookup (f, n, ks)
  isi := fun k t => p.isi.lookup (k, t)
  kinds := p.kinds
def PD.nm (p : PD) : Nm where
  gf := fun x => (p.fns.find? fun d => decide (d.gn = some x)).map (·.id)
  gc := fun x => (p.cls.find? fun d => decide (d.gn = x)).map (·.id)
  free := fun x => decide (x ∈ p.free)
def PD.g (p : PD) (K : PySem.W.Frag) : Gm where
  ca := fun c => match p.cl c with
    | some d => He.ga K d.gn
    | none => 0
  fa := fun f => match p.fn f with
    | some d => d.pa K
    | none => 0
  lay := p.tab.lay
def fdOf (K : PySem.W.Frag) (a : Addr) : FuncData := match K.lookup a with
  | some ⟨_, _, .func fd, _⟩ => fd
  | _ => default
def PD.fd (p : PD) (K : PySem.W.Frag) (f : Nat) : FuncData := fdOf K ((p.g K).fa f)
def PD.ps (p : PD) (f : Nat) : List Str := match p.fn f with
  | some d => d.ps
  | none => []

/-! ### a written tuple -/
mutual
def shB (K : PySem.W.Frag) : D → Value → Bool
  | .non, v => (match v with | .none => true | _ => false)
  | .bl b, v => (match v with | .bool c => b == c | _ => false)
  | .int i, v => (match v with | .int j _ => decide (i = j) | _ => false)
  | .str x, v => (match v with | .str y _ => decide (x = y) | _ => false)
  | .tup xs, v => (match v with
    | .ref p => (match K.lookup p with
      | some ⟨.type c, _, .seq its _, _⟩ => decide (c = "tuple") && shsB K xs its.toList
      | _ => false)
    | _ => false)
  | _, _ => false
def shsB (K : PySem.W.Frag) : List D → List Value → Bool
  | [], us => us.isEmpty
  | x :: xs, us => (match us with
    | u :: r => shB K x u && shsB K xs r
    | [] => false)
end
mutual
theorem shB_ok {K : PySem.W.Frag} {h : Heap} (hK : K.In h) : ∀ (x : D) (v : Value), shB K x v = true → Sh h x v
  | .non, v, e => by rw [shB.eq_def] at e; dsimp only at e; split at e <;> first | exact .non | cases e
  | .bl b, v, e => by
    rw [shB.eq_def] at e; dsimp only at e
    split at e
    · rw [beq_iff_eq.mp e]; exact .bl _
    · cases e
  | .int i, v, e => by
    rw [shB.eq_def] at e; dsimp only at e
    split at e
    · rw [of_decide_eq_true e]; exact .int _ _
    · cases e
  | .str x, v, e => by
    rw [shB.eq_def] at e; dsimp only at e
    split at e
    · rw [of_decide_eq_true e]; exact .str _ _
    · cases e
  | .tup xs, v, e => by
    rw [shB.eq_def] at e; dsimp only at e
    split at e
    · split at e
      · rename_i p _ c dd its n sl hl
        rw [Bool.and_eq_true, decide_eq_true_eq] at e
        obtain ⟨rfl, e2⟩ := e
        refine .tup (its := its.toList) ⟨_, hK _ _ hl, rfl, n, by simp⟩ (shsB_ok hK xs _ e2)
      · cases e
    · cases e
  | .lst _, v, e => by rw [shB.eq_def] at e; cases e
  | .dk _, v, e => by rw [shB.eq_def] at e; cases e
  | .dt _, v, e => by rw [shB.eq_def] at e; cases e
  | .obj _ _, v, e => by rw [shB.eq_def] at e; cases e
  | .fn _, v, e => by rw [shB.eq_def] at e; cases e
  | .cls _, v, e => by rw [shB.eq_def] at e; cases e
  | .scr _, v, e => by rw [shB.eq_def] at e; cases e
theorem shsB_ok {K : PySem.W.Frag} {h : Heap} (hK : K.In h) : ∀ (xs : List D) (us : List Value), shsB K xs us = true → ShL h xs us
  | [], us, e => by
    rw [shsB.eq_def] at e; dsimp only at e
    cases us with
    | nil => exact .nil
    | cons => cases e
  | x :: xs, us, e => by
    rw [shsB.eq_def] at e; dsimp only at e
    split at e
    · rw [Bool.and_eq_true] at e
      exact .cons (shB_ok hK x _ e.1) (shsB_ok hK xs _ e.2)
    · cases e
end

/-! ### what the heap behind the top must have -/
def FD.okB (K : PySem.W.Frag) (d : FD) : Bool := PySem.W.keepIn K (.ref (d.pa K)) && ((match d.gn with
  | some x => He.eqO (PySem.W.nsIn K mainGlobals x) (some (some (.ref (d.pa K))))
  | none => true) && (PySem.W.codeIn K (fdOf K (d.pa K)).code d.qual && (He.dflB K (fdOf K (d.pa K)).defaults (d.dfl.map (He.Dv.v K)))))
def insB (K : PySem.W.Frag) (C : Addr) : Bool := He.eqO (PySem.W.findIn K (.ref C) "__class__") (some (some (.builtin "object.__class__"))) && (He.eqO (PySem.W.specialIn K (.builtin "object.__class__") "__get__") (some (some (.builtin "getset_descriptor.__get__"))) && (decide (PySem.W.takesIn K (.builtin "object.__class__") = some true) && decide (PySem.W.mroIn K C (.type "object") = some true)))
def propB (K : PySem.W.Frag) (C f : Addr) (m : Str) : Bool := match PySem.W.findIn K (.ref C) m with
  | some (some (.ref q)) => He.eqO (PySem.W.specialIn K (.ref q) "__get__") (some (some (.builtin "property.__get__"))) && (decide (PySem.W.takesIn K (.ref q) = some true) && (match PySem.W.recIn K q "property" with
    | some (.ref f' :: _) => decide (f' = f)
    | _ => false))
  | _ => false
def methB (K : PySem.W.Frag) (C f : Addr) (m : Str) : Bool := He.eqO (PySem.W.findIn K (.ref C) m) (some (some (.ref f))) && (PySem.W.isFn K (.ref f) && PySem.W.keepIn K (.ref f))
def cmFn (K : PySem.W.Frag) (p : Addr) : Addr := match PySem.W.recIn K p "classmethod" with
  | some (.ref f :: _) => f
  | _ => 0
def cmethB (K : PySem.W.Frag) (C f : Addr) (m : Str) : Bool := (match PySem.W.findCls K (.ref C) (.type "type") m with
  | some (.get (.builtin g) (.ref p) .none (.ref D)) => decide (g = "classmethod.__get__") && (decide (D = C) && (match PySem.W.recIn K p "classmethod" with
    | some (.ref f' :: _) => decide (f' = f)
    | _ => false))
  | _ => false) && PySem.W.fnIn K f
def ownB (K : PySem.W.Frag) (C : Addr) (fa : Nat → Addr) (m : Str) : Option Nat → Bool
  | none => true
  | some f => He.eqO (PySem.W.findIn K (.ref C) m) (some (some (.ref (fa f)))) && PySem.W.isFn K (.ref (fa f))
def allB (l : List Bool) : Bool := l.all id
/-- a class of which there are instances -/
def CD.instB (p : PD) (K : PySem.W.Frag) (d : CD) (cl : Cl) : Bool := allB [(He.Fa.cls d.gn).ok K, insB K (He.ga K d.gn), d.lay.all (fun f => He.eqO (PySem.W.findIn K (.ref (He.ga K d.gn)) f) (some none)),
  PySem.W.makesIn K (He.ga K d.gn), He.eqO (PySem.W.findIn K (.ref (He.ga K d.gn)) "__init__") (some (some (.ref ((p.g K).fa cl.init)))), PySem.W.isFn K (.ref ((p.g K).fa cl.init)), PySem.W.keepIn K (.ref (He.ga K d.gn)),
  d.props.all (fun q => propB K (He.ga K d.gn) ((p.g K).fa q.2) q.1), d.meths.all (fun q => methB K (He.ga K d.gn) ((p.g K).fa q.2) q.1),
  ownB K (He.ga K d.gn) (p.g K).fa "__len__" d.len, ownB K (He.ga K d.gn) (p.g K).fa "__str__" d.str, ownB K (He.ga K d.gn) (p.g K).fa "__bool__" d.bool, ownB K (He.ga K d.gn) (p.g K).fa "__eq__" d.eq,
  d.eq.isNone || (He.eqO (PySem.W.findIn K (.ref (He.ga K d.gn)) "__ne__") (some (some (.builtin "object.__ne__"))) && p.kinds.all (fun k => PySem.W.notFirst K (He.ga K d.gn) (kdV (p.g K) k))),
  d.cmeths.isEmpty || (PySem.W.readsIn K (He.ga K d.gn) (.type "type") && d.cmeths.all (fun q => cmethB K (He.ga K d.gn) ((p.g K).fa q.2) q.1))]
def CD.okB (p : PD) (K : PySem.W.Frag) (d : CD) : Bool := (He.Fa.glo d.gn).ok K && (match d.cl with
  | some cl => CD.instB p K d cl
  | none => true)
/-- defaults that are objects: empty tuples -/
def FD.dflT (K : PySem.W.Frag) (d : FD) : Bool := d.dfl.all fun q => match q with
  | .adr f => shB K (.tup []) (.ref (f K))
  | _ => true
def PD.okB (p : PD) (K : PySem.W.Frag) : Bool :=
  p.fns.all (FD.okB K) && (p.cls.all (CD.okB p K) && (p.gi.all (fun q => (He.Fa.int q.1 q.2).ok K) && (p.gs.all (fun q => (He.Fa.str q.1 q.2).ok K) && (p.free.all (fun x => (He.Fa.free x).ok K) && (p.tups.all (fun q => (He.Fa.glo q.1).ok K && shB K (.tup q.2) (.ref (He.ga K q.1))) &&
  (p.dics.all (fun q => (He.Fa.glo q.1).ok K && He.valsB K (He.ga K q.1) (q.2.map fun e => (e.1, .int e.2))) && (p.isi.all (fun q => decide (PySem.W.kitOne K (kdV (p.g K) q.1.1) (kdV (p.g K) q.1.2) = some q.2)) && p.fns.all (FD.dflT K))))))))
/-- the function as it is told -/
def fnY (K : PySem.W.Frag) (a : Addr) : He.FnW := match K.lookup a with
  | some ⟨_, _, .func fd, _⟩ => some (fd.name, fd.qualname, fd.params, fd.body, fd.scope, fd.globals, fd.closure, fd.builtins)
  | _ => none
def FD.val (d : FD) : He.FnW := some (d.name, d.qual, d.params, .stmts d.body, d.scope, mainGlobals, [], builtinsNs)
abbrev AlY : Type := (Bool × List He.FnW) × List (Option (List (Option (Str × Int))))
def PD.ts (p : PD) : List He.Tab := p.dics.map fun q => ((fun K => He.ga K q.1), q.2.map (·.1))
def asY (g : Addr → Option Obj) (n : Nat) : List Addr := He.asD g n ++ [cStatics]
def obsY (p : PD) (n : Nat) (g : Addr → Option Obj) : AlY := ((p.okB (He.frT g (asY g n)), p.fns.map fun d => fnY (He.frT g (asY g n)) (d.pa (He.frT g (asY g n)))), p.ts.map fun t => He.dicW (He.frT g (asY g n)) (t.1 (He.frT g (asY g n))))
def valY (p : PD) (w : World) : AlY := ((true, p.fns.map FD.val), p.ts.map fun t => some (He.keysIn w.params t.2))
structure SaysY (p : PD) (w : World) (K : PySem.W.Frag) : Prop where
  ok : p.okB K = true
  fns : p.fns.map (fun d => fnY K (d.pa K)) = p.fns.map FD.val
  ts : p.ts.map (fun t => He.dicW K (t.1 K)) = p.ts.map fun t => some (He.keysIn w.params t.2)
def hookY (p : PD) (n : Nat) : PySem.W.Hook where
  α := AlY
  obs := fun s => obsY p n s.heap.get?
  val := fun w => valY p w
  says := fun w h => ∃ K : PySem.W.Frag, K.In h ∧ SaysY p w K
  of := fun w s e => ⟨_, He.frT_in, by
    have e1 := congrArg Prod.fst e
    exact ⟨congrArg Prod.fst e1, congrArg Prod.snd e1, congrArg Prod.snd e⟩⟩
  keeps := fun _ _ _ ⟨K, hK, c⟩ k => ⟨K, PySem.W.Frag.In.keeps hK k, c⟩
theorem obsY_eq {p : PD} {n : Nat} {g : Addr → Option Obj} {s : Shared} (h : ∀ a, g a = s.heap.get? a) : obsY p n g = (hookY p n).obs s := by
  have e : g = s.heap.get? := funext h
  rw [e]
  rfl
end MP
end S_MQi
section S_MQj
/-! MQj: what is known of the text, from the description and the head. -/
namespace MP
open PySem L2

theorem FD.funD {K : PySem.W.Frag} {d : FD} (e : fnY K (d.pa K) = d.val) (c : d.okB K = true) : FunD K d.name d.qual d.params d.body d.scope (d.dfl.map (He.Dv.v K)) [] (d.pa K) (fdOf K (d.pa K)) := by
  unfold FD.okB at c
  simp only [Bool.and_eq_true] at c
  obtain ⟨kp, _, c1, c2⟩ := c
  unfold fnY at e
  unfold fdOf at c1 c2 ⊢
  split at e
  · rename_i oc od fd osl q
    rw [q] at c1 c2
    obtain ⟨n1, n2, n3, n4, n5, n6, n7, n8, n9, n10, n11, n12, n13, n14, n15⟩ := fd
    have e2 : (some (n1, n2, n3, n4, n5, n6, n7, n15) : He.FnW) = some (d.name, d.qual, d.params, .stmts d.body, d.scope, mainGlobals, [], builtinsNs) := e
    simp only [Option.some.injEq, Prod.mk.injEq] at e2
    obtain ⟨rfl, rfl, rfl, rfl, rfl, rfl, rfl, rfl⟩ := e2
    exact ⟨⟨oc, od, n8, n9, n10, n11, n12, n13, n14, osl, rfl, q, c1, He.dflB_ok c2, .inl rfl⟩, kp⟩
  · cases e
def scB (N ps : List Str) (sc : Scope) : Bool := allB [decide (sc.kind = .function), !sc.isCoroutine, !sc.isGenerator, decide N.Nodup, decide (N.take ps.length = ps), ps.all (fun x => decide (sc.names.lookup x = some .local) || decide (sc.names.lookup x = some .cell)), sc.names.all (fun y => !decide (y.2 = .free))]
theorem scB_ok {N ps : List Str} {sc : Scope} (h : scB N ps sc = true) : FnScope N ps sc := by
  simp only [scB, allB, List.all_cons, List.all_nil, id_eq, Bool.and_true, Bool.and_eq_true, decide_eq_true_eq, Bool.not_eq_true', List.all_eq_true, Bool.or_eq_true, decide_eq_false_iff_not] at h
  obtain ⟨h1, h2, h3, h4, h5, h6, h7⟩ := h
  exact ⟨h1, h2, h3, h4, h5, h6, h7⟩
def FD.sB (d : FD) : Bool := scB d.N d.ps d.scope && (decide (d.F.np = d.ps.length) && decide (d.F.ns = d.N.length))
def PD.has (p : PD) (n : Nat) (f : Nat) : Bool := match p.fn f with
  | some d => decide (d.ps.length = n)
  | none => false
def hasO (p : PD) (n : Nat) : Option Nat → Bool
  | none => true
  | some f => p.has n f
def CD.sB (p : PD) (d : CD) : Bool := match d.cl with
  | some cl => allB [decide (d.lay.length < 1000), (p.fn cl.init).isSome, d.props.all (fun q => p.has 1 q.2), d.meths.all (fun q => (p.fn q.2).isSome && !decide (q.1 ∈ d.lay)), hasO p 1 d.len, hasO p 1 d.str, hasO p 1 d.bool, hasO p 2 d.eq]
  | none => allB [d.lay.isEmpty, d.props.isEmpty, d.meths.isEmpty, d.len.isNone, d.str.isNone, d.bool.isNone, d.eq.isNone, d.cmeths.isEmpty]
/-- the class is there, with instances -/
def PD.insC (p : PD) : Kd → Bool
  | .b _ => true
  | .own c => match p.cl c with
    | some d => d.cl.isSome
    | none => false
def PD.sB (p : PD) : Bool := allB [decide (p.fns.map (·.id)).Nodup && decide (p.cls.map (·.id)).Nodup, p.fns.all FD.sB, p.cls.all (CD.sB p), p.shapes.all (fun q => (p.fn q.1.1).isSome), p.isi.all (fun q => p.insC q.1.1), p.kinds.all p.insC]
theorem find_spec {α : Type} {q : α → Bool} {l : List α} {a : α} (h : l.find? q = some a) : a ∈ l ∧ q a = true := ⟨List.mem_of_find?_eq_some h, List.find?_some h⟩
theorem find_uniq {α : Type} {f : α → Nat} : ∀ {l : List α} {a : α}, (l.map f).Nodup → a ∈ l → (l.find? fun d => f d == f a) = some a
  | [], _, _, h => by cases h
  | b :: l, a, hn, h => by
    rw [List.map_cons, List.nodup_cons] at hn
    rw [List.find?_cons]
    rcases List.mem_cons.mp h with rfl | h
    · simp
    · have : (f b == f a) = false := by
        rw [beq_eq_false_iff_ne]
        exact fun e => hn.1 (e ▸ List.mem_map_of_mem h)
      rw [this]
      exact find_uniq hn.2 h
theorem lookup_mem {α β : Type} [BEq α] [LawfulBEq α] {l : List (α × β)} {a : α} {b : β} (h : l.lookup a = some b) : (a, b) ∈ l := by
  induction l with
  | nil => cases h
  | cons q r ih =>
    obtain ⟨x, y⟩ := q
    rw [List.lookup_cons] at h
    split at h
    · rename_i e
      cases h
      rw [beq_iff_eq] at e
      subst e
      exact List.mem_cons_self
    · exact List.mem_cons_of_mem _ (ih h)
section
variable {p : PD} {w : World} {K : PySem.W.Frag} {mg : Str → Option Value} {h0 : Heap}
theorem PD.fn_at {f : Nat} {d : FD} (h : p.fn f = some d) : d ∈ p.fns ∧ d.id = f ∧ (p.g K).fa f = d.pa K ∧ p.ps f = d.ps ∧ p.tab.np f = d.ps.length := by
  obtain ⟨h1, h2⟩ := find_spec h
  exact ⟨h1, by simpa using h2, by simp only [PD.g, h], by simp only [PD.ps, h], by simp only [PD.tab, h]⟩
theorem PD.cl_at {c : Nat} {d : CD} (h : p.cl c = some d) : d ∈ p.cls ∧ d.id = c ∧ (p.g K).ca c = He.ga K d.gn := by
  obtain ⟨h1, h2⟩ := find_spec h
  exact ⟨h1, by simpa using h2, by simp only [PD.g, h]⟩
/-- where the class has instances, its checks -/
theorem PD.inst {c : Nat} {d : CD} {cl : Cl} (S : SaysY p w K) (hs : p.sB = true) (h : p.cl c = some d) (hc : d.cl = some cl) : CD.instB p K d cl = true ∧ CD.sB p d = true := by
  have o := S.ok
  unfold PD.okB at o
  simp only [Bool.and_eq_true, List.all_eq_true] at o
  obtain ⟨h1, _, _⟩ := PD.cl_at (K := K) h
  have o2 := o.2.1 d h1
  unfold CD.okB at o2
  rw [Bool.and_eq_true, hc] at o2
  simp only [PD.sB, allB, List.all_cons, List.all_nil, id_eq, Bool.and_true, Bool.and_eq_true, List.all_eq_true] at hs
  exact ⟨o2.2, hs.2.2.1 d h1⟩
theorem bindO {α β : Type} {o : Option α} {f : α → Option β} {b : β} (h : o.bind f = some b) : ∃ a, o = some a ∧ f a = some b := by
  cases o with
  | none => cases h
  | some a => exact ⟨a, rfl, h⟩
theorem PD.insK {c : Nat} {d : CD} {cl : Cl} (S : SaysY p w K) (hs : p.sB = true) (h : p.cl c = some d) (hc : d.cl = some cl) : InsK K ((p.g K).ca c) := by
  obtain ⟨i1, i2⟩ := PD.inst S hs h hc
  obtain ⟨_, _, e⟩ := PD.cl_at (K := K) h
  rw [e]
  simp only [CD.instB, allB, List.all_cons, List.all_nil, id_eq, Bool.and_true, Bool.and_eq_true, List.all_eq_true] at i1
  obtain ⟨a1, a2, _⟩ := i1
  unfold insB at a2
  simp only [Bool.and_eq_true, decide_eq_true_eq] at a2
  exact ⟨He.cls_ok a1, He.eqO_ok a2.1, He.eqO_ok a2.2.1, a2.2.2.1, a2.2.2.2⟩
theorem PD.nocl {K : PySem.W.Frag} {c : Nat} {d : CD} (hs : p.sB = true) (h : p.cl c = some d) (hc : d.cl = none) : d.lay = [] ∧ d.props = [] ∧ d.meths = [] ∧ d.len = none ∧ d.str = none ∧ d.bool = none ∧ d.eq = none ∧ d.cmeths = [] := by
  simp only [PD.sB, allB, List.all_cons, List.all_nil, id_eq, Bool.and_true, Bool.and_eq_true, List.all_eq_true] at hs
  have := hs.2.2.1 d (PD.cl_at (K := K) h).1
  unfold CD.sB at this
  rw [hc] at this
  simpa [allB] using this
theorem PD.insC_ok {k : Kd} (S : SaysY p w K) (hs : p.sB = true) (h : p.insC k = true) : ∀ i, k = .own i → InsK K ((p.g K).ca i) := by
  intro i e
  subst e
  rw [PD.insC] at h
  split at h
  · rename_i d hd
    obtain ⟨cl, hc⟩ := Option.isSome_iff_exists.mp h
    exact PD.insK S hs hd hc
  · cases h
theorem has_ok {n f : Nat} (h : p.has n f = true) : ∃ d, p.fn f = some d ∧ p.tab.np f = n := by
  unfold PD.has at h
  split at h
  · rename_i d hd
    refine ⟨d, hd, ?_⟩
    rw [(PD.fn_at (K := []) hd).2.2.2.2]
    exact of_decide_eq_true h
  · cases h
theorem cread_in {C : Addr} (h : PySem.W.readsIn K C (.type "type") = true) : ClX.CRead K C (.type "type") := by
  refine ⟨h, ?_⟩
  unfold PySem.W.readsIn at h
  simp only [Bool.and_eq_true] at h
  obtain ⟨⟨⟨⟨_, h2⟩, h3⟩, _⟩, _⟩ := h
  unfold PySem.W.specialIn
  rw [beq_iff_eq.mp h2, Option.bind_some]
  exact beq_iff_eq.mp h3
theorem cmeth_in {C f : Addr} {m : Str} (h : cmethB K C f m = true) : ∃ p, ClX.CMet K C (.type "type") m p f := by
  unfold cmethB at h
  rw [Bool.and_eq_true] at h
  obtain ⟨h1, h2⟩ := h
  split at h1
  · rename_i g p D e
    simp only [Bool.and_eq_true, decide_eq_true_eq] at h1
    obtain ⟨rfl, rfl, h1⟩ := h1
    split at h1
    · rename_i f' r e2
      have h1 := of_decide_eq_true h1
      subst h1
      exact ⟨p, e, ⟨r, e2⟩, h2⟩
    · cases h1
  · cases h1
theorem PD.stat {P : Program} {base : Heap} (S : SaysY p w K) (KX : K.In h0) (G : h0.Ns mainGlobals mg) (hs : p.sB = true)
    (hc : ∀ d ∈ p.fns, chkSs p.tab p.nm d.F.body ⟨d.N, d.scope, fun _ => true⟩ d.body = true)
    (hb : ∀ d ∈ p.fns, ∀ q ∈ p.shapes, q.1.1 = d.id → FunD K d.name d.qual d.params d.body d.scope (d.dfl.map (He.Dv.v K)) [] (d.pa K) (fdOf K (d.pa K)) → BindOk K (p.g K) (fdOf K (d.pa K)) d.ps q.1.2.1 q.1.2.2 q.2)
    (h1 : ∀ d ∈ p.fns, (d.ps.length = 1 ∨ d.ps.length = 2) → d.dfl = [] → FunD K d.name d.qual d.params d.body d.scope (d.dfl.map (He.Dv.v K)) [] (d.pa K) (fdOf K (d.pa K)) → Binds K (fdOf K (d.pa K)) d.ps [])
    (h2 : ∀ d ∈ p.fns, (d.ps.length = 1 ∨ d.ps.length = 2) → d.dfl = []) :
    Stat p.tab p.nm (p.g K) P w K mg base (p.fd K) p.ps := by
  have o := S.ok
  unfold PD.okB at o
  simp only [Bool.and_eq_true, List.all_eq_true] at o
  obtain ⟨o1, o2, o3, o4, o5, o6, o7, o8, o9⟩ := o
  have hs' := hs
  simp only [PD.sB, allB, List.all_cons, List.all_nil, id_eq, Bool.and_true, Bool.and_eq_true, List.all_eq_true] at hs'
  obtain ⟨s0, s1, s2, s3, s4, s5⟩ := hs'
  rw [decide_eq_true_eq, decide_eq_true_eq] at s0
  have fu : ∀ d ∈ p.fns, FunD K d.name d.qual d.params d.body d.scope (d.dfl.map (He.Dv.v K)) [] (d.pa K) (fdOf K (d.pa K)) := fun d hd => FD.funD (List.map_inj_left.mp S.fns d hd) (o1 d hd)
  have bd : ∀ {f : Nat} {d : FD}, p.fn f = some d → (p.tab.np f = 1 ∨ p.tab.np f = 2) → Binds K (p.fd K f) (p.ps f) [] := fun {f d} hd hn => by
    obtain ⟨m1, m2, m3, m4, m5⟩ := PD.fn_at (K := K) hd
    unfold PD.fd
    rw [m3, m4]
    rw [m5] at hn
    exact h1 d m1 hn (h2 d m1 hn) (fu d m1)
  have own : ∀ {f : Nat} {C : Addr} {m : Str}, ownB K C (p.g K).fa m (some f) = true → PySem.W.findIn K (.ref C) m = some (some (.ref ((p.g K).fa f))) ∧ PySem.W.isFn K (.ref ((p.g K).fa f)) = true := fun {f C m} h => by
    unfold ownB at h
    rw [Bool.and_eq_true] at h
    exact ⟨He.eqO_ok h.1, h.2⟩
  refine ⟨fun f F hF => ?fit, fun x f hx => ?gf, fun x c hx => ?gc, fun x hx => ?free, fun x d hx => ?glo, fun x xs hx => ?gt, fun x kvs hx => ?gd, fun c cl hc' => ?mks, fun f n ks sh hx => ?bind, rfl, fun c f hf => ?fld, fun c => ?small, fun c m f hm => ?meth, fun c m f hm => ?cmeth, fun c m f hm => ?prop, fun tb name hm c f hf => ?own, fun c f hf => ?eq, fun i hi => ?kinds, fun k t b hb' => ?isi⟩
  case fit =>
    obtain ⟨d, hd, rfl⟩ := map_some hF
    obtain ⟨m1, m2, m3, m4, m5⟩ := PD.fn_at (K := K) hd
    have q := s1 d m1
    unfold FD.sB at q
    simp only [Bool.and_eq_true, decide_eq_true_eq] at q
    refine ⟨d.name, d.qual, d.params, d.body, d.scope, d.dfl.map (He.Dv.v K), [], d.N, ?_, ?_, ?_, ?_, q.2.2, hc d m1⟩
    · unfold PD.fd; rw [m3]; exact fu d m1
    · rw [m4]; exact scB_ok q.1
    · rw [m4]; exact q.2.1
    · rw [m4]; exact m5
  case gf =>
    obtain ⟨d, hd, rfl⟩ := map_some hx
    obtain ⟨m1, m2⟩ := find_spec hd
    have e1 : p.fn d.id = some d := find_uniq s0.1 m1
    obtain ⟨_, _, m3, _, _⟩ := PD.fn_at (K := K) e1
    rw [m3]
    have q := o1 d m1
    unfold FD.okB at q
    simp only [Bool.and_eq_true] at q
    have m2 : d.gn = some x := of_decide_eq_true m2
    rw [m2] at q
    have q2 : (He.Fa.glo x).ok K = true ∧ He.ga K x = d.pa K := by
      have e := He.eqO_ok q.2.1
      have e3 : He.ga K x = d.pa K := by unfold He.ga; rw [e]
      refine ⟨?_, e3⟩
      show He.eqO _ _ = true
      rw [e3, e]
      exact decide_eq_true rfl
    rw [← q2.2]
    exact ⟨He.glo_ok KX G q2.1, by rw [q2.2]; exact q.1⟩
  case gc =>
    obtain ⟨d, hd, rfl⟩ := map_some hx
    obtain ⟨m1, m2⟩ := find_spec hd
    have e1 : p.cl d.id = some d := find_uniq s0.2 m1
    obtain ⟨_, _, m3⟩ := PD.cl_at (K := K) e1
    rw [m3]
    have q := o2 d m1
    unfold CD.okB at q
    rw [Bool.and_eq_true] at q
    have m2 : d.gn = x := of_decide_eq_true m2
    rw [← m2]
    exact He.glo_ok KX G q.1
  case free =>
    exact He.free_ok KX G (o5 x (by simpa [PD.nm] using hx))
  case glo =>
    simp only [PD.tab] at hx
    split at hx
    · rename_i i hi
      cases hx
      obtain ⟨t, ht⟩ := He.int_ok KX G (o3 (x, i) (lookup_mem hi))
      exact ⟨_, .int i, ht, ⟨t, rfl⟩, fun z => .int i⟩
    · obtain ⟨y, hy, rfl⟩ := map_some hx
      obtain ⟨t, ht⟩ := He.str_ok KX G (o4 (x, y) (lookup_mem hy))
      exact ⟨_, .str y, ht, ⟨t, rfl⟩, fun z => .str y⟩
  case gt =>
    have q := o6 (x, xs) (lookup_mem hx)
    exact ⟨_, He.glo_ok KX G q.1, fun h hK => shB_ok hK _ _ q.2⟩
  case gd =>
    have hm := lookup_mem hx
    have q := o7 (x, kvs) hm
    refine ⟨_, He.glo_ok KX G q.1, fun k n hk => ?_⟩
    have hts := S.ts
    unfold PD.ts at hts
    rw [List.map_map, List.map_map] at hts
    have e := List.map_inj_left.mp hts (x, kvs) hm
    obtain ⟨es, nn, kd⟩ := He.dicW_ok (w := w) e
    obtain ⟨u, hu, ru⟩ := He.valsB_ok q.2 (q := (k, .int n)) (List.mem_map.mpr ⟨(k, n), lookup_mem hk, rfl⟩)
    exact ⟨es, nn, u, kd.at_, kd.lit, hu, ru⟩
  case mks =>
    obtain ⟨d, hd, e⟩ := bindO hc'
    obtain ⟨i1, i2⟩ := PD.inst S hs hd e
    obtain ⟨_, _, e3⟩ := PD.cl_at (K := K) hd
    rw [e3]
    simp only [CD.instB, allB, List.all_cons, List.all_nil, id_eq, Bool.and_true, Bool.and_eq_true, List.all_eq_true] at i1
    obtain ⟨a1, a2, a3, a4, a5, a6, a7, _⟩ := i1
    exact ⟨a4, He.eqO_ok a5, a6, a7⟩
  case bind =>
    have hm := lookup_mem hx
    have q := s3 _ hm
    obtain ⟨d, hd⟩ := Option.isSome_iff_exists.mp q
    obtain ⟨m1, m2, m3, m4, m5⟩ := PD.fn_at (K := K) hd
    refine ⟨?_, by simp [PD.tab, hd]⟩
    unfold PD.fd
    rw [m3, m4]
    exact hb d m1 _ hm m2.symm (fu d m1)
  case fld =>
    simp only [PD.tab] at hf
    split at hf
    · rename_i d hd
      obtain ⟨_, _, e3⟩ := PD.cl_at (K := K) hd
      rw [e3]
      cases hcl : d.cl with
      | none => rw [(PD.nocl (K := K) hs hd hcl).1] at hf; cases hf
      | some cl =>
        obtain ⟨i1, i2⟩ := PD.inst S hs hd hcl
        simp only [CD.instB, allB, List.all_cons, List.all_nil, id_eq, Bool.and_true, Bool.and_eq_true, List.all_eq_true] at i1
        exact ⟨He.cls_ok i1.1, He.eqO_ok (i1.2.2.1 f hf)⟩
    · cases hf
  case small =>
    simp only [PD.tab]
    split
    · rename_i d hd
      cases hcl : d.cl with
      | none => rw [(PD.nocl (K := K) hs hd hcl).1]; decide
      | some cl =>
        have := (PD.inst S hs hd hcl).2
        unfold CD.sB at this
        rw [hcl] at this
        simp only [allB, List.all_cons, List.all_nil, id_eq, Bool.and_true, Bool.and_eq_true, decide_eq_true_eq] at this
        exact this.1
    · decide
  case meth =>
    obtain ⟨d, hd, e⟩ := bindO hm
    obtain ⟨_, _, e3⟩ := PD.cl_at (K := K) hd
    rw [e3]
    cases hcl : d.cl with
    | none => rw [(PD.nocl (K := K) hs hd hcl).2.2.1] at e; cases e
    | some cl =>
      obtain ⟨i1, i2⟩ := PD.inst S hs hd hcl
      unfold CD.sB at i2
      rw [hcl] at i2
      simp only [CD.instB, allB, List.all_cons, List.all_nil, id_eq, Bool.and_true, Bool.and_eq_true, List.all_eq_true] at i1 i2
      obtain ⟨a1, a2, a3, a4, a5, a6, a7, a8, a9, _⟩ := i1
      have q := a9 _ (lookup_mem e)
      unfold methB at q
      simp only [Bool.and_eq_true] at q
      have q2 := (i2.2.2.2.1 _ (lookup_mem e)).2
      refine ⟨He.cls_ok a1, ⟨He.eqO_ok q.1, q.2.1, q.2.2⟩, ?_⟩
      simp only [PD.tab, hd]
      simpa using q2
  case cmeth =>
    obtain ⟨d, hd, e⟩ := bindO hm
    obtain ⟨_, _, e3⟩ := PD.cl_at (K := K) hd
    rw [e3]
    cases hcl : d.cl with
    | none => rw [(PD.nocl (K := K) hs hd hcl).2.2.2.2.2.2.2] at e; cases e
    | some cl =>
      obtain ⟨i1, i2⟩ := PD.inst S hs hd hcl
      simp only [CD.instB, allB, List.all_cons, List.all_nil, id_eq, Bool.and_true, Bool.and_eq_true, List.all_eq_true] at i1
      obtain ⟨a1, a2, a3, a4, a5, a6, a7, a8, a9, a10, a11, a12, a13, a14, a15⟩ := i1
      have hm := lookup_mem e
      rw [Bool.or_eq_true] at a15
      rcases a15 with a15 | a15
      · rw [List.isEmpty_iff] at a15; rw [a15] at hm; cases hm
      · simp only [Bool.and_eq_true, List.all_eq_true] at a15
        obtain ⟨b1, b2⟩ := a15
        obtain ⟨pp, q⟩ := cmeth_in (b2 _ hm)
        exact ⟨_, pp, cread_in b1, q⟩
  case prop =>
    obtain ⟨d, hd, e⟩ := bindO hm
    obtain ⟨_, _, e3⟩ := PD.cl_at (K := K) hd
    rw [e3]
    cases hcl : d.cl with
    | none => rw [(PD.nocl (K := K) hs hd hcl).2.1] at e; cases e
    | some cl =>
      obtain ⟨i1, i2⟩ := PD.inst S hs hd hcl
      unfold CD.sB at i2
      rw [hcl] at i2
      simp only [CD.instB, allB, List.all_cons, List.all_nil, id_eq, Bool.and_true, Bool.and_eq_true, List.all_eq_true] at i1 i2
      obtain ⟨a1, a2, a3, a4, a5, a6, a7, a8, _⟩ := i1
      have q := a8 _ (lookup_mem e)
      obtain ⟨fd', hfd, hnp⟩ := has_ok (i2.2.2.1 _ (lookup_mem e))
      refine ⟨He.cls_ok a1, ?_, hnp, by simp [PD.tab, hfd], bd hfd (.inl hnp)⟩
      unfold propB at q
      split at q
      · rename_i qq hq
        simp only [Bool.and_eq_true, decide_eq_true_eq] at q
        obtain ⟨b1, b2, b3⟩ := q
        refine ⟨qq, hq, He.eqO_ok b1, b2, ?_⟩
        split at b3
        · rename_i f' rest hr
          rw [← of_decide_eq_true b3]
          exact ⟨rest, hr⟩
        · cases b3
      · cases q
  case own =>
    have fin : ∀ {d : CD} {f : Nat} {C : Addr} {m : Str}, ownB K C (p.g K).fa m (some f) = true → hasO p 1 (some f) = true → PySem.W.findIn K (.ref C) m = some (some (.ref ((p.g K).fa f))) ∧ PySem.W.isFn K (.ref ((p.g K).fa f)) = true ∧ p.tab.np f = 1 ∧ (p.tab.fn f).isSome = true ∧ Binds K (p.fd K f) (p.ps f) [] := fun {d f C m} h1 h2 => by
      obtain ⟨fd', hfd, hnp⟩ := has_ok (n := 1) (f := f) h2
      exact ⟨(own h1).1, (own h1).2, hnp, by simp [PD.tab, hfd], bd hfd (.inl hnp)⟩
    simp only [List.mem_cons, List.not_mem_nil, or_false, Prod.mk.injEq] at hm
    have main : ∀ {d : CD}, p.cl c = some d → (d.len = some f ∨ d.str = some f ∨ d.bool = some f) → ∃ cl, d.cl = some cl := fun {d} hd hx => by
      cases hcl : d.cl with
      | some cl => exact ⟨cl, rfl⟩
      | none =>
        obtain ⟨_, _, _, z1, z2, z3, _, _⟩ := PD.nocl (K := K) hs hd hcl
        rw [z1, z2, z3] at hx
        simp at hx
    rcases hm with ⟨rfl, rfl⟩ | ⟨rfl, rfl⟩ | ⟨rfl, rfl⟩
    · obtain ⟨d, hd, e⟩ := bindO hf
      obtain ⟨_, _, e3⟩ := PD.cl_at (K := K) hd
      rw [e3]
      obtain ⟨cl, hcl⟩ := main hd (.inl e)
      obtain ⟨i1, i2⟩ := PD.inst S hs hd hcl
      unfold CD.sB at i2
      rw [hcl] at i2
      simp only [CD.instB, allB, List.all_cons, List.all_nil, id_eq, Bool.and_true, Bool.and_eq_true] at i1 i2
      obtain ⟨a1, a2, a3, a4, a5, a6, a7, a8, a9, a10, a11, a12, a13, _⟩ := i1
      obtain ⟨c1, c2, c3, c4, c5, c6, c7, c8⟩ := i2
      rw [e] at a10 c5
      exact fin (d := d) a10 c5
    · obtain ⟨d, hd, e⟩ := bindO hf
      obtain ⟨_, _, e3⟩ := PD.cl_at (K := K) hd
      rw [e3]
      obtain ⟨cl, hcl⟩ := main hd (.inr (.inl e))
      obtain ⟨i1, i2⟩ := PD.inst S hs hd hcl
      unfold CD.sB at i2
      rw [hcl] at i2
      simp only [CD.instB, allB, List.all_cons, List.all_nil, id_eq, Bool.and_true, Bool.and_eq_true] at i1 i2
      obtain ⟨a1, a2, a3, a4, a5, a6, a7, a8, a9, a10, a11, a12, a13, _⟩ := i1
      obtain ⟨c1, c2, c3, c4, c5, c6, c7, c8⟩ := i2
      rw [e] at a11 c6
      exact fin (d := d) a11 c6
    · obtain ⟨d, hd, e⟩ := bindO hf
      obtain ⟨_, _, e3⟩ := PD.cl_at (K := K) hd
      rw [e3]
      obtain ⟨cl, hcl⟩ := main hd (.inr (.inr e))
      obtain ⟨i1, i2⟩ := PD.inst S hs hd hcl
      unfold CD.sB at i2
      rw [hcl] at i2
      simp only [CD.instB, allB, List.all_cons, List.all_nil, id_eq, Bool.and_true, Bool.and_eq_true] at i1 i2
      obtain ⟨a1, a2, a3, a4, a5, a6, a7, a8, a9, a10, a11, a12, a13, _⟩ := i1
      obtain ⟨c1, c2, c3, c4, c5, c6, c7, c8⟩ := i2
      rw [e] at a12 c7
      exact fin (d := d) a12 c7
  case eq =>
    obtain ⟨d, hd, e⟩ := bindO hf
    obtain ⟨_, _, e3⟩ := PD.cl_at (K := K) hd
    rw [e3]
    cases hcl : d.cl with
    | none =>
      obtain ⟨_, _, _, _, _, _, z4, _⟩ := PD.nocl (K := K) hs hd hcl
      rw [z4] at e; cases e
    | some cl =>
      obtain ⟨i1, i2⟩ := PD.inst S hs hd hcl
      have ik := PD.insK S hs hd hcl
      rw [e3] at ik
      unfold CD.sB at i2
      rw [hcl] at i2
      simp only [CD.instB, allB, List.all_cons, List.all_nil, id_eq, Bool.and_true, Bool.and_eq_true] at i1 i2
      obtain ⟨a1, a2, a3, a4, a5, a6, a7, a8, a9, a10, a11, a12, a13, a14, _⟩ := i1
      obtain ⟨c1, c2, c3, c4, c5, c6, c7, c8⟩ := i2
      rw [e] at a13 c8 a14
      obtain ⟨fd', hfd, hnp⟩ := has_ok (n := 2) (f := f) c8
      simp only [Option.isNone_some, Bool.false_or, Bool.and_eq_true, List.all_eq_true] at a14
      exact ⟨(own a13).1, (own a13).2, hnp, by simp [PD.tab, hfd], bd hfd (.inr hnp), He.eqO_ok a14.1, ik.hm, a14.2⟩
  case kinds =>
    exact PD.insC_ok S hs (s5 _ hi) i rfl
  case isi =>
    have hm := lookup_mem hb'
    exact ⟨of_decide_eq_true (o8 _ hm), PD.insC_ok S hs (s4 _ hm)⟩
end
end MP
end S_MQj
section S_MQn
/-! MQn: the law's end, from the description. -/
namespace MP
open PySem L2 PySem.Spec PyProof.Rows
theorem walk_endW {l : PySem.W.OpenLaw} {n k : Nat} {q : Program} {loose : List Str} {XP : (Str → Option Value) → Heap → Prop} {YP : World → Heap → Prop} {d : DefRec} {CX : World → CXT} {x : Str}
    (hn : l.most = some n) (hn2 : n ≤ sizeLine) (hdf : d.params.defaults = []) (hr : Room k callerA)
    (F : ∀ (w : World) (mg : Str → Option Value) (fa : Addr) (h : Heap), YP w h → h.Ns mainGlobals mg → mg d.name = some (.ref fa) →
      ∃ (K : PySem.W.Frag) (fd : FuncData) (sp : Sp), K.In h ∧ (∀ (s : Shared) (u : Value), BindsTo s fd ⟨[u], []⟩ [(x, u)]) ∧
        (∀ (H : Hp) (a : Addr) (ns : List Int), ns.length ≤ n → L2.Only H → SqL K H a (ns.map V.int) → sp [.ref a] H (fun v _ => v = .bl true) fun _ _ _ => False) ∧
        ∀ base : Heap, K.In base → base.Ns mainGlobals mg → FnG l.prog w K mg base (CX w) k fa fd [x] sp)
    (noX : ∀ (w : World) (H : Hp) (s : Shared) (e : Value) (s' : Shared), CX w [] H s (fun _ _ _ => False) e s' → False) :
    PySem.W.WalkO q loose XP YP l.row.toRowW d [] (fun f vs => PySem.call f vs) := by
  refine Att.attach_call hn hdf fun w s₀ s₁ mg mb fa o pm cd doc a vs ns G Y ho hd hcd hmg hobj hints hlen hg => ?_
  obtain ⟨K, fd, sp, kx, bn, pr, fg⟩ := F w mg fa _ Y G.T.g hmg
  exact law_end kx G.T.g G.T.b G.T.builtins G.T.nolimit hg hobj hints (Nat.le_trans hlen hn2) hr fg bn (fun H hO hS => pr H a ns hlen hO hS) fun H e s' => noX w H s₁ e s'
theorem cx_no {P : Program} {w : World} {l : List Env} {H : Hp} {s : Shared} {e : Value} {s' : Shared} (h : L2.CX P w l H s (fun _ _ _ => False) e s') : False := by
  obtain ⟨_, _, _, _, _, _, _, _, _, _, _, _, hf⟩ := h
  exact hf.elim
theorem law_F {p : PD} {P : Program} {w : World} {K : PySem.W.Frag} {mg : Str → Option Value} {h0 : Heap} {fa : Addr} {n m f0 : Nat} {d : FD} {x : Str} (S : SaysY p w K) (KX : K.In h0) (G : h0.Ns mainGlobals mg) (hs : p.sB = true)
    (hc : ∀ d ∈ p.fns, chkSs p.tab p.nm d.F.body ⟨d.N, d.scope, fun _ => true⟩ d.body = true)
    (hb : ∀ d ∈ p.fns, ∀ q ∈ p.shapes, q.1.1 = d.id → FunD K d.name d.qual d.params d.body d.scope (d.dfl.map (He.Dv.v K)) [] (d.pa K) (fdOf K (d.pa K)) → BindOk K (p.g K) (fdOf K (d.pa K)) d.ps q.1.2.1 q.1.2.2 q.2)
    (h1 : ∀ d ∈ p.fns, (d.ps.length = 1 ∨ d.ps.length = 2) → d.dfl = [] → FunD K d.name d.qual d.params d.body d.scope (d.dfl.map (He.Dv.v K)) [] (d.pa K) (fdOf K (d.pa K)) → Binds K (fdOf K (d.pa K)) d.ps [])
    (h2 : ∀ d ∈ p.fns, (d.ps.length = 1 ∨ d.ps.length = 2) → d.dfl = [])
    (hd : p.fn f0 = some d) (hgn : p.nm.gf "law" = some f0) (hps : d.ps = [x]) (hmg : mg "law" = some (.ref fa))
    (hbl : FunD K d.name d.qual d.params d.body d.scope (d.dfl.map (He.Dv.v K)) [] (d.pa K) (fdOf K (d.pa K)) → ∀ (s : Shared) (u : Value), BindsTo s (fdOf K (d.pa K)) ⟨[u], []⟩ [(x, u)])
    (pu : ∀ ns : List Int, ns.length ≤ n → ∃ h', callN p.tab m f0 [.d (.scr ns)] [] = .ok (.d (.bl true)) h') :
    ∃ (K : PySem.W.Frag) (fd : FuncData) (sp : Sp), K.In h0 ∧ (∀ (s : Shared) (u : Value), BindsTo s fd ⟨[u], []⟩ [(x, u)]) ∧
        (∀ (H : Hp) (a : Addr) (ns : List Int), ns.length ≤ n → L2.Only H → SqL K H a (ns.map V.int) → sp [.ref a] H (fun v _ => v = .bl true) fun _ _ _ => False) ∧
        ∀ base : Heap, K.In base → base.Ns mainGlobals mg → FnG P w K mg base (L2.CX P w) (3 * m) fa fd [x] sp := by
  obtain ⟨m1, m2, m3, m4, m5⟩ := PD.fn_at (K := K) hd
  have o := S.ok
  unfold PD.okB at o
  simp only [Bool.and_eq_true, List.all_eq_true] at o
  have fu := FD.funD (List.map_inj_left.mp S.fns d m1) (o.1 d m1)
  have St : ∀ base, Stat p.tab p.nm (p.g K) P w K mg base (p.fd K) p.ps := fun base => PD.stat S KX G hs hc hb h1 h2
  have efa : fa = d.pa K := by
    have e := ((St h0).gf "law" f0 hgn).1
    rw [hmg, m3] at e
    cases e; rfl
  refine ⟨K, fdOf K (d.pa K), spF K (p.g K) (callN p.tab m) 1 f0, KX, hbl fu, fun H a ns hl hO hS => ?_, fun base _ _ => ?_⟩
  · obtain ⟨h', e⟩ := pu ns hl
    exact end_sp e hO hS
  · have := fok_of (St base) m f0 (by simp [PD.tab, hd])
    rw [m5, hps, m4, hps, m3] at this
    rw [efa]
    unfold PD.fd at this
    rw [m3] at this
    exact this
end MP
end S_MQn
section S_MQo
/-! MQo: the bindings of a description. -/
namespace MP
open PySem L2
def EachP {α : Type} (P : α → Prop) : List α → Prop
  | [] => True
  | x :: r => P x ∧ EachP P r
theorem EachP.mem {α : Type} {P : α → Prop} : ∀ {l : List α}, EachP P l → ∀ x ∈ l, P x
  | [], _, _, h => by cases h
  | _ :: r, h, x, hx => by
    rcases List.mem_cons.mp hx with rfl | hx
    · exact h.1
    · exact EachP.mem h.2 x hx
abbrev FunOf (K : PySem.W.Frag) (d : FD) : Prop := FunD K d.name d.qual d.params d.body d.scope (d.dfl.map (He.Dv.v K)) [] (d.pa K) (fdOf K (d.pa K))
/-- what is known of the defaults -/
def TupK (K : PySem.W.Frag) (d : FD) : Prop := ∀ f, .adr f ∈ d.dfl → KTup K (f K) []
theorem tupK_of {K : PySem.W.Frag} {a : Addr} (h : shB K (.tup []) (.ref a) = true) : KTup K a [] := by
  rw [shB.eq_def] at h; dsimp only at h
  split at h
  · rename_i c dd its n sl hl
    rw [Bool.and_eq_true, decide_eq_true_eq] at h
    obtain ⟨rfl, h2⟩ := h
    rw [shsB.eq_def] at h2; dsimp only at h2
    have e : its.toList = [] := List.isEmpty_iff.mp h2
    have e' : its.size = 0 := by rw [← Array.length_toList, e]; rfl
    exact ⟨_, its, n, hl, rfl, rfl, by rw [e']; exact Nat.zero_le _, by rw [e]; exact .nil⟩
  · cases h
theorem SaysY.tupK {p : PD} {w : World} {K : PySem.W.Frag} (S : SaysY p w K) {d : FD} (hd : d ∈ p.fns) : TupK K d := by
  intro f hf
  have o := S.ok
  unfold PD.okB at o
  simp only [Bool.and_eq_true, List.all_eq_true] at o
  obtain ⟨o1, o2, o3, o4, o5, o6, o7, o8, o9⟩ := o
  have h := o9 d hd
  unfold FD.dflT at h
  rw [List.all_eq_true] at h
  exact tupK_of (h _ hf)
theorem Vals.get {vs : List V} {us : List Value} (r : Vals vs us) (i : Nat) : (vs[i]? = none ∧ us[i]? = none) ∨ ∃ v u, vs[i]? = some v ∧ us[i]? = some u ∧ RelV v u := by
  induction r generalizing i with
  | nil => exact .inl ⟨by simp, by simp⟩
  | cons a b ih =>
    cases i with
    | zero => exact .inr ⟨_, _, by simp, by simp, a⟩
    | succ i => simpa using ih i
theorem vals_pick {vs : List V} {us : List Value} (idx : List Nat) (r : Vals vs us) : Vals (idx.filterMap fun i => vs[i]?) (idx.filterMap fun i => us[i]?) := by
  induction idx with
  | nil => exact .nil
  | cons i q ih =>
    rcases Vals.get r i with ⟨h1, h2⟩ | ⟨v, u, h1, h2, h3⟩
    · rw [List.filterMap_cons_none h1, List.filterMap_cons_none h2]; exact ih
    · rw [List.filterMap_cons_some h1, List.filterMap_cons_some h2]; exact .cons h3 ih
section
variable {K : PySem.W.Frag} {x qual : Str} {params : Arguments} {body : List Stmt} {scope : Scope} {kws : List (Str × V)} {f : Addr} {fd : FuncData} {ps : List Str}
theorem FunD.kbindsN (F : FunD K x qual params body scope [] kws f fd) (n : Nat) (ks : List Str) (g : {α : Type} → List α → List α → List α)
    (hrel : ∀ {vs zs : List V} {us ws : List Value}, Vals vs us → Vals zs ws → Vals (g vs zs) (g us ws))
    (h : ∀ (kV doc pm : Value) (an : Option Addr) (cdv ct : Value) (us ws : List Value), us.length = n → ws.length = ks.length → bindArgs (PySem.W.fnOf x qual params body scope .none kV doc pm an cdv ct) ⟨us, ks.zip ws⟩ = pure (ps.zip (g us ws))) : KBn K fd ps n ks (fun us ws => g us ws) (fun vs zs => g vs zs) := by
  obtain ⟨oc, od, dV, kV, doc, pm, an, cdv, ct, osl, rfl, lk, hcd, hD, hK⟩ := F.ex
  rcases hD with ⟨_, rfl⟩ | ⟨e, _⟩
  · refine ⟨fun s us ws X l1 l2 => ?_, fun r1 r2 => hrel r1 r2⟩
    exact BindsTo.of_looks fun M => .of_pure (h kV doc pm an cdv ct us ws l1 l2)
  · exact absurd rfl e
end
theorem law_G {p : PD} {P : Program} {w : World} {K : PySem.W.Frag} {mg : Str → Option Value} {h0 : Heap} {fa : Addr} {n m f0 : Nat} {d : FD} {x : Str} (S : SaysY p w K) (KX : K.In h0) (G : h0.Ns mainGlobals mg) (hs : p.sB = true)
    (hc : ∀ d ∈ p.fns, chkSs p.tab p.nm d.F.body ⟨d.N, d.scope, fun _ => true⟩ d.body = true)
    (hb : ∀ K : PySem.W.Frag, ∀ q ∈ p.shapes, ∀ d, p.fn q.1.1 = some d → TupK K d → FunOf K d → BindOk K (p.g K) (fdOf K (d.pa K)) d.ps q.1.2.1 q.1.2.2 q.2)
    (h1 : ∀ K : PySem.W.Frag, ∀ d ∈ p.fns, (d.ps.length = 1 ∨ d.ps.length = 2) → d.dfl = [] ∧ (FunOf K d → Binds K (fdOf K (d.pa K)) d.ps []))
    (hd : p.fn f0 = some d) (hgn : p.nm.gf "law" = some f0) (hps : d.ps = [x]) (hmg : mg "law" = some (.ref fa))
    (hbl : ∀ K : PySem.W.Frag, FunOf K d → ∀ (s : Shared) (u : Value), BindsTo s (fdOf K (d.pa K)) ⟨[u], []⟩ [(x, u)])
    (pu : ∀ ns : List Int, ns.length ≤ n → ∃ h', callN p.tab m f0 [.d (.scr ns)] [] = .ok (.d (.bl true)) h') :
    ∃ (K : PySem.W.Frag) (fd : FuncData) (sp : Sp), K.In h0 ∧ (∀ (s : Shared) (u : Value), BindsTo s fd ⟨[u], []⟩ [(x, u)]) ∧
        (∀ (H : Hp) (a : Addr) (ns : List Int), ns.length ≤ n → L2.Only H → SqL K H a (ns.map V.int) → sp [.ref a] H (fun v _ => v = .bl true) fun _ _ _ => False) ∧
        ∀ base : Heap, K.In base → base.Ns mainGlobals mg → FnG P w K mg base (L2.CX P w) (3 * m) fa fd [x] sp := by
  have hn : (p.fns.map (·.id)).Nodup := by
    unfold PD.sB at hs
    simp only [allB, List.all_cons, List.all_nil, id_eq, Bool.and_true, Bool.and_eq_true, decide_eq_true_eq] at hs
    exact hs.1.1
  refine law_F S KX G hs hc (fun d' hd' q hq e F => ?_) (fun d' hd' hl hz F => (h1 K d' hd' hl).2 F) (fun d' hd' hl => (h1 K d' hd' hl).1) hd hgn hps hmg (fun F => hbl K F) pu
  refine hb K q hq d' ?_ (S.tupK hd') F
  rw [e]
  exact find_uniq hn hd'
end MP
end S_MQo
section S_Fz
/-! Fz: the defs of the texts as abstract terms (printed by gen.py). -/
namespace MP
open PySem
/-! is_whole -/
def fn1_a0 : Ss := .cons (.ret (.bop true (.cons (.isi (.var 0) (.b "int")) (.cons (.not (.isi (.var 0) (.b "bool"))) .nil)))) .nil
def fn1 : Fn := ⟨1, 1, fn1_a0, false⟩
/-! is_integer -/
def fn2_a0 : Ss := .cons (.ret (.bop true (.cons (.call 1 [] (.cons (.var 0) .nil) .nil) (.cons (.chain .le .le (.var 1) (.var 0) (.var 2)) .nil)))) .nil
def fn2 : Fn := ⟨3, 3, fn2_a0, false⟩
/-! is_name -/
def fn3_b0 : Ss := .cons (.ret (.k (.bl false))) .nil
def fn3_x0 : E := .cmp .isin (.var 1) (.bin .add (.glo ("LETTERS" : Str)) (.glo ("DIGITS" : Str)))
def fn3_a1 : Ss := .cons (.ret (.bop true (.cons (.cmp .isin (.sub (.var 0) (.k (.int 0))) (.glo ("LETTERS" : Str))) (.cons (.bi .all (.cons (.comp false fn3_x0 [1] (.name 1) (.val (.var 0)) .none) .nil)) .nil)))) .nil
def fn3_a0 : Ss := .cons (.ifs (.bop false (.cons (.not (.isi (.var 0) (.b "str"))) (.cons (.not (.chain .le .le (.k (.int 1)) (.bi .len (.cons (.var 0) .nil)) (.glo ("LONGEST_NAME" : Str)))) .nil))) fn3_b0 .nil) fn3_a1
def fn3 : Fn := ⟨1, 2, fn3_a0, false⟩
/-! is_tuple_of -/
def fn4_a0 : Ss := .cons (.ret (.bop true (.cons (.isi (.var 0) (.b "tuple")) (.cons (.cmp .eq (.bi .len (.cons (.var 0) .nil)) (.var 1)) .nil)))) .nil
def fn4 : Fn := ⟨2, 2, fn4_a0, false⟩
/-! digit_of -/
def fn5_a0 : Ss := .cons (.ret (.ite (.bop true (.cons (.cmp .eq (.bi .len (.cons (.var 0) .nil)) (.k (.int 1))) (.cons (.cmp .isin (.var 0) (.glo ("DIGITS" : Str))) .nil))) (.bi .int (.cons (.var 0) .nil)) (.k .non))) .nil
def fn5 : Fn := ⟨1, 1, fn5_a0, false⟩
/-! is_turn -/
def fn6_b0 : Ss := .cons (.ret (.k (.bl false))) .nil
def fn6_x0 : E := .call 1 [] (.cons (.var 3) .nil) .nil
def fn6_a1 : Ss := .cons (.ret (.bop true (.cons (.bi .all (.cons (.comp false fn6_x0 [3] (.name 3) (.val (.sub (.var 0) (.k (.int 1)))) .none) .nil)) (.cons (.cmp .eq (.bi (.sorted false) (.cons (.sub (.var 0) (.k (.int 1))) .nil)) (.lrng false false .none (.var 1))) .nil)))) .nil
def fn6_a0 : Ss := .cons (.ifs (.bop false (.cons (.not (.call 4 [] (.cons (.var 0) (.cons (.k (.int 2)) .nil)) .nil)) (.cons (.not (.call 3 [] (.cons (.sub (.var 0) (.k (.int 0))) .nil) .nil)) (.cons (.cmp .isin (.sub (.var 0) (.k (.int 0))) (.var 2)) (.cons (.not (.call 4 [] (.cons (.sub (.var 0) (.k (.int 1))) (.cons (.var 1) .nil)) .nil)) .nil))))) fn6_b0 .nil) fn6_a1
def fn6 : Fn := ⟨3, 4, fn6_a0, false⟩
/-! is_entry -/
def fn7_a0 : Ss := .cons (.ret (.bop false (.cons (.bop true (.cons (.isi (.var 0) (.b "str")) (.cons (.cmp .isin (.var 0) (.var 2)) .nil))) (.cons (.call 2 [] (.cons (.var 0) (.cons (.k (.int 0)) (.cons (.bin .sub (.var 1) (.k (.int 1))) .nil))) .nil) .nil)))) .nil
def fn7 : Fn := ⟨3, 3, fn7_a0, false⟩
/-! check_turns -/
def fn8_b0 : Ss := .cons .stop .nil
def fn8_d0 : Ss := .cons .stop .nil
def fn8_c1 : Ss := .cons (.expr (.bm .append (.var 2) (.cons (.sub (.var 4) (.k (.int 0))) .nil))) .nil
def fn8_c0 : Ss := .cons (.ifs (.bop false (.cons (.cmp .eq (.var 3) (.glo ("MOST_TURNS" : Str))) (.cons (.not (.call 6 [] (.cons (.var 4) (.cons (.var 0) (.cons (.var 2) .nil))) .nil)) .nil))) fn8_d0 .nil) fn8_c1
def fn8_a2 : Ss := .cons (.for_ (.tup (.cons (.name 3) (.cons (.name 4) .nil))) (.enum (.var 1)) fn8_c0) .nil
def fn8_a1 : Ss := .cons (.asg (.tg (.name 2)) (.lst true .nil)) fn8_a2
def fn8_a0 : Ss := .cons (.ifs (.not (.isi (.var 1) (.b "tuple"))) fn8_b0 .nil) fn8_a1
def fn8 : Fn := ⟨2, 5, fn8_a0, false⟩
/-! check_calendar -/
def fn9_b0 : Ss := .cons .stop .nil
def fn9_d0 : Ss := .cons .stop .nil
def fn9_c0 : Ss := .cons (.ifs (.bop false (.cons (.cmp .eq (.var 3) (.glo ("MOST_ENTRIES" : Str))) (.cons (.not (.call 7 [] (.cons (.var 4) (.cons (.var 0) (.cons (.var 1) .nil))) .nil)) .nil))) fn9_d0 .nil) .nil
def fn9_a1 : Ss := .cons (.for_ (.tup (.cons (.name 3) (.cons (.name 4) .nil))) (.enum (.var 2)) fn9_c0) .nil
def fn9_a0 : Ss := .cons (.ifs (.bop false (.cons (.not (.isi (.var 2) (.b "tuple"))) (.cons (.cmp .eq (.bi .len (.cons (.var 2) .nil)) (.k (.int 0))) .nil))) fn9_b0 .nil) fn9_a1
def fn9 : Fn := ⟨3, 5, fn9_a0, false⟩
/-! are_slips -/
def fn10_x0 : E := .isi (.var 1) (.b "str")
def fn10_a0 : Ss := .cons (.ret (.bop true (.cons (.isi (.var 0) (.b "tuple")) (.cons (.bi .all (.cons (.comp false fn10_x0 [1] (.name 1) (.val (.var 0)) .none) .nil)) (.cons (.inG false (.var 0) ("SLIPS" : Str)) .nil))))) .nil
def fn10 : Fn := ⟨1, 2, fn10_a0, false⟩
/-! turn_of -/
def fn11_b0 : Ss := .cons (.ret (.k .non)) .nil
def fn11_x0 : E := .call 5 [] (.cons (.var 2) .nil) .nil
def fn11_a2 : Ss := .cons (.ret (.tup (.cons (.sub (.var 1) (.k (.int 1))) (.cons (.bi .tuple (.cons (.comp false fn11_x0 [2] (.name 2) (.val (.slice (.var 1) (.some (.k (.int 2))) .none)) .none) .nil)) .nil)))) .nil
def fn11_a1 : Ss := .cons (.ifs (.bop false (.cons (.cmp .lt (.bi .len (.cons (.var 1) .nil)) (.k (.int 2))) (.cons (.cmp .ne (.sub (.var 1) (.k (.int 0))) (.k (.str ("turn" : Str)))) .nil))) fn11_b0 .nil) fn11_a2
def fn11_a0 : Ss := .cons (.asg (.tg (.name 1)) (.bm (.split false) (.var 0) (.cons (.k (.str (" " : Str))) .nil))) fn11_a1
def fn11 : Fn := ⟨1, 3, fn11_a0, false⟩
/-! entry_of -/
def fn12_a1 : Ss := .cons (.ret (.ite (.cmp .is_ (.var 1) (.k .non)) (.var 0) (.var 1))) .nil
def fn12_a0 : Ss := .cons (.asg (.tg (.name 1)) (.call 5 [] (.cons (.var 0) .nil) .nil)) fn12_a1
def fn12 : Fn := ⟨1, 2, fn12_a0, false⟩
/-! words_behind -/
def fn13_a1 : Ss := .cons (.ret (.ite (.bop true (.cons (.cmp .eq (.sub (.var 2) (.k (.int 0))) (.var 1)) (.cons (.cmp .gt (.bi .len (.cons (.var 2) .nil)) (.k (.int 1))) .nil))) (.slice (.var 2) (.some (.k (.int 1))) .none) (.k .non))) .nil
def fn13_a0 : Ss := .cons (.asg (.tg (.name 2)) (.bm (.split false) (.var 0) (.cons (.k (.str (" " : Str))) .nil))) fn13_a1
def fn13 : Fn := ⟨2, 3, fn13_a0, false⟩
/-! _law_urn -/
def fn14_b0 : Ss := .cons (.asg (.tg (.name 3)) (.bin .mod (.bi .int (.cons (.bin .add (.bin .mul (.var 3) (.k (.int 47017))) (.bi .int (.cons (.var 4) .nil))) .nil)) (.k (.int 2147483123)))) .nil
def fn14_a3 : Ss := .cons (.ret (.lst true (.cons (.ite (.bop false (.cons (.cmp .lt (.var 2) (.k (.int 0))) (.cons (.cmp .ge (.var 2) (.bin .pow (.k (.int 10)) (.k (.int 18)))) .nil))) (.bi .abs (.cons (.var 2) .nil)) (.k (.int 0))) (.cons (.var 3) (.cons (.k (.int 0)) .nil))))) .nil
def fn14_a2 : Ss := .cons (.for_ (.name 4) (.val (.bin .add (.slice (.var 0) .none (.some (.k (.int 5)))) (.lst false (.cons (.var 2) .nil)))) fn14_b0) fn14_a3
def fn14_a1 : Ss := .cons (.asg (.tg (.name 3)) (.bin .add (.k (.int 83003)) (.bin .mul (.k (.int 509)) (.var 1)))) fn14_a2
def fn14_a0 : Ss := .cons (.asg (.tg (.name 2)) (.ite (.cmp .lt (.var 1) (.bi .len (.cons (.var 0) .nil))) (.bi .int (.cons (.sub (.var 0) (.var 1)) .nil)) (.bin .add (.bin .mul (.k (.int 6101)) (.var 1)) (.k (.int 71))))) fn14_a1
def fn14 : Fn := ⟨2, 5, fn14_a0, true⟩
/-! _law_take -/
def fn15_b1 : Ss := .cons (.ret (.var 3)) .nil
def fn15_b0 : Ss := .cons (.asg (.tup (.cons (.sub (.var 0) (.k (.int 0))) (.cons (.tg (.name 3)) .nil))) (.bi .divmod (.cons (.sub (.var 0) (.k (.int 0))) (.cons (.var 1) .nil)))) fn15_b1
def fn15_a4 : Ss := .cons (.ret (.bin .mod (.bi .int (.cons (.bin .fdiv (.sub (.var 0) (.k (.int 1))) (.k (.int 109))) .nil)) (.var 1))) .nil
def fn15_a3 : Ss := .cons (.ifs (.cmp .gt (.sub (.var 0) (.k (.int 0))) (.k (.int 0))) fn15_b0 .nil) fn15_a4
def fn15_a2 : Ss := .cons (.asg (.sub (.var 0) (.k (.int 1))) (.bin .mod (.bi .int (.cons (.bin .add (.bin .add (.bin .mul (.var 2) (.bin .add (.bin .mod (.bi .int (.cons (.var 2) .nil)) (.k (.int 16033))) (.k (.int 27011)))) (.bin .mul (.k (.int 50021)) (.sub (.var 0) (.k (.int 2))))) (.k (.int 37))) .nil)) (.k (.int 2147483123)))) fn15_a3
def fn15_a1 : Ss := .cons (.asg (.tg (.name 2)) (.bi .int (.cons (.sub (.var 0) (.k (.int 1))) .nil))) fn15_a2
def fn15_a0 : Ss := .cons (.asg (.sub (.var 0) (.k (.int 2))) (.bin .add (.sub (.var 0) (.k (.int 2))) (.k (.int 1)))) fn15_a1
def fn15 : Fn := ⟨2, 4, fn15_a0, false⟩
/-! _law_of -/
def fn16_a0 : Ss := .cons (.ret (.sub (.var 1) (.call 15 [] (.cons (.var 0) (.cons (.bi .len (.cons (.var 1) .nil)) .nil)) .nil))) .nil
def fn16 : Fn := ⟨2, 2, fn16_a0, false⟩
/-! _law_tags -/
def fn17_x0 : E := .sub (.var 2) (.bin .mod (.bi .int (.cons (.bin .add (.var 3) (.bin .mul (.k (.int 3)) (.var 4))) .nil)) (.k (.int 7)))
def fn17_b1 : Ss := .cons (.ret (.comp false fn17_x0 [4] (.name 4) (.rng (.cons (.var 1) .nil)) .none)) .nil
def fn17_b0 : Ss := .cons (.asg (.tg (.tup (.cons (.name 2) (.cons (.name 3) .nil)))) (.tup (.cons (.lst false (.cons (.k (.str ("over" : Str))) (.cons (.k (.str ("turn" : Str))) (.cons (.k (.str ("slips" : Str))) (.cons (.k (.str ("calendar" : Str))) (.cons (.k (.str ("habit" : Str))) (.cons (.k (.str ("keep" : Str))) (.cons (.k (.str ("z9" : Str))) .nil)))))))) (.cons (.call 15 [] (.cons (.var 0) (.cons (.k (.int 7)) .nil)) .nil) .nil)))) fn17_b1
def fn17_x1 : E := .sub (.var 5) (.call 15 [] (.cons (.var 0) (.cons (.k (.int 36)) .nil)) .nil)
def fn17_c1 : Ss := .cons (.expr (.bm .append (.var 6) (.cons (.bin .add (.sub (.var 5) (.bin .mod (.bi .int (.cons (.bin .add (.var 3) (.bin .mul (.k (.int 5)) (.var 4))) .nil)) (.k (.int 26)))) (.var 7)) .nil))) .nil
def fn17_c0 : Ss := .cons (.asg (.tg (.name 7)) (.bm .join (.k (.str ("" : Str))) (.cons (.comp false fn17_x1 [8] (.name 8) (.rng (.cons (.call 15 [] (.cons (.var 0) (.cons (.k (.int 8)) .nil)) .nil) .nil)) .none) .nil))) fn17_c1
def fn17_a3 : Ss := .cons (.ret (.var 6)) .nil
def fn17_a2 : Ss := .cons (.for_ (.name 4) (.rng (.cons (.var 1) .nil)) fn17_c0) fn17_a3
def fn17_a1 : Ss := .cons (.par [5, 3, 6] (.cons (.k (.str ("abcdefghijklmnopqrstuvwxyz0123456789" : Str))) (.cons (.call 15 [] (.cons (.var 0) (.cons (.k (.int 26)) .nil)) .nil) (.cons (.lst true .nil) .nil)))) fn17_a2
def fn17_a0 : Ss := .cons (.ifs (.cmp .eq (.call 15 [] (.cons (.var 0) (.cons (.k (.int 2)) .nil)) .nil) (.k (.int 0))) fn17_b0 .nil) fn17_a1
def fn17 : Fn := ⟨2, 9, fn17_a0, false⟩
/-! _law_image -/
def fn18_b0 : Ss := .cons (.expr (.bm .insert (.var 2) (.cons (.call 15 [] (.cons (.var 0) (.cons (.bin .add (.var 3) (.k (.int 1))) .nil)) .nil) (.cons (.var 3) .nil)))) .nil
def fn18_a2 : Ss := .cons (.ret (.bi .tuple (.cons (.var 2) .nil))) .nil
def fn18_a1 : Ss := .cons (.for_ (.name 3) (.rng (.cons (.var 1) .nil)) fn18_b0) fn18_a2
def fn18_a0 : Ss := .cons (.asg (.tg (.name 2)) (.lst true .nil)) fn18_a1
def fn18 : Fn := ⟨2, 4, fn18_a0, false⟩
/-! _law_parts -/
def fn19_x0 : E := .tup (.cons (.var 6) (.cons (.call 18 [] (.cons (.var 0) (.cons (.var 3) .nil)) .nil) .nil))
def fn19_x1 : E := .call 16 [] (.cons (.var 0) (.cons (.bin .add (.bin .mul (.var 4) (.k (.int 3))) (.lrng false false .none (.var 3))) .nil)) .nil
def fn19_a5 : Ss := .cons (.ret (.tup (.cons (.var 3) (.cons (.var 5) (.cons (.bi .tuple (.cons (.var 7) .nil)) (.cons (.var 9) (.cons (.call 16 [] (.cons (.var 0) (.cons (.lst false (.cons (.k (.int 1)) (.cons (.k (.int 1)) (.cons (.k (.int 2)) (.cons (.k (.int 2)) (.cons (.k (.int 3)) (.cons (.k (.int 4)) (.cons (.k (.int 5)) (.cons (.k (.int 6)) .nil))))))))) .nil)) .nil) .nil))))))) .nil
def fn19_a4 : Ss := .cons (.asg (.tg (.name 9)) (.call 16 [] (.cons (.var 0) (.cons (.lst false (.cons (.tup .nil) (.cons (.tup (.cons (.k (.str ("forget" : Str))) .nil)) (.cons (.tup (.cons (.k (.str ("forget" : Str))) (.cons (.k (.str ("twice" : Str))) .nil))) (.cons (.tup (.cons (.k (.str ("twice" : Str))) .nil)) (.cons (.tup (.cons (.k (.str ("forget" : Str))) .nil)) .nil)))))) .nil)) .nil)) fn19_a5
def fn19_a3 : Ss := .cons (.asg (.tg (.name 7)) (.comp false fn19_x1 [8] (.name 8) (.rng (.cons (.bin .add (.k (.int 1)) (.call 15 [] (.cons (.var 0) (.cons (.var 2) .nil)) .nil)) .nil)) .none)) fn19_a4
def fn19_a2 : Ss := .cons (.asg (.tg (.name 5)) (.bi .tuple (.cons (.comp false fn19_x0 [6] (.name 6) (.val (.var 4)) .none) .nil))) fn19_a3
def fn19_a1 : Ss := .cons (.asg (.tg (.name 4)) (.call 17 [] (.cons (.var 0) (.cons (.call 15 [] (.cons (.var 0) (.cons (.k (.int 5)) .nil)) .nil) .nil)) .nil)) fn19_a2
def fn19_a0 : Ss := .cons (.asg (.tg (.name 3)) (.bin .add (.k (.int 1)) (.call 15 [] (.cons (.var 0) (.cons (.var 1) .nil)) .nil))) fn19_a1
def fn19 : Fn := ⟨3, 10, fn19_a0, false⟩
/-! _law_made -/
def fn20_a0 : Ss := .cons (.ret (.make 1 [] (.cons (.sub (.var 0) (.k (.int 0))) (.cons (.sub (.var 0) (.k (.int 1))) (.cons (.sub (.var 0) (.k (.int 2))) (.cons (.sub (.var 0) (.k (.int 3))) (.cons (.sub (.var 0) (.k (.int 4))) .nil))))) .nil)) .nil
def fn20 : Fn := ⟨1, 1, fn20_a0, false⟩
/-! _law_page -/
def fn21_x0 : E := .bi .str (.cons (.var 4) .nil)
def fn21_b0 : Ss := .cons (.expr (.bm .append (.var 1) (.cons (.bm .join (.k (.str (" " : Str))) (.cons (.bin .add (.lst false (.cons (.k (.str ("turn" : Str))) (.cons (.var 2) .nil))) (.comp false fn21_x0 [4] (.name 4) (.val (.var 3)) .none)) .nil)) .nil))) .nil
def fn21_x1 : E := .bi .str (.cons (.var 4) .nil)
def fn21_a3 : Ss := .cons (.ret (.bm .join (.k (.str ("\n" : Str))) (.cons (.bin .add (.var 1) (.lst false (.cons (.bm .join (.k (.str (" " : Str))) (.cons (.bin .add (.bin .add (.lst false (.cons (.k (.str ("slips" : Str))) .nil)) (.bi (.list false) (.cons (.sub (.var 0) (.k (.int 3))) .nil))) (.lst false (.cons (.bi .str (.cons (.sub (.var 0) (.k (.int 4))) .nil)) .nil))) .nil)) .nil))) .nil))) .nil
def fn21_a2 : Ss := .cons (.expr (.bm .append (.var 1) (.cons (.bm .join (.k (.str (" " : Str))) (.cons (.bin .add (.lst false (.cons (.k (.str ("calendar" : Str))) .nil)) (.comp false fn21_x1 [4] (.name 4) (.val (.sub (.var 0) (.k (.int 2)))) .none)) .nil)) .nil))) fn21_a3
def fn21_a1 : Ss := .cons (.for_ (.tup (.cons (.name 2) (.cons (.name 3) .nil))) (.val (.sub (.var 0) (.k (.int 1)))) fn21_b0) fn21_a2
def fn21_a0 : Ss := .cons (.asg (.tg (.name 1)) (.lst true (.cons (.bin .add (.k (.str ("habit " : Str))) (.bi .str (.cons (.sub (.var 0) (.k (.int 0))) .nil))) .nil))) fn21_a1
def fn21 : Fn := ⟨1, 5, fn21_a0, false⟩
/-! _law_right -/
def fn22_d0 : Ss := .cons (.ret (.k (.bl false))) .nil
def fn22_c1 : Ss := .cons (.ifs (.cmp .ne (.bi .repr (.cons (.var 6) .nil)) (.bi .repr (.cons (.bin .add (.bi (.list false) (.cons (.var 2) .nil)) (.lst false (.cons (.bi .len (.cons (.sub (.var 2) (.k (.int 2))) .nil)) (.cons (.call 21 [] (.cons (.var 2) .nil) .nil) (.cons (.k (.bl true)) .nil))))) .nil))) fn22_d0 .nil) .nil
def fn22_c0 : Ss := .cons (.asg (.tg (.name 6)) (.lst false (.cons (.attr (.var 5) ("size" : Str)) (.cons (.attr (.var 5) ("turns" : Str)) (.cons (.attr (.var 5) ("calendar" : Str)) (.cons (.attr (.var 5) ("slips" : Str)) (.cons (.attr (.var 5) ("gap" : Str)) (.cons (.bi .len (.cons (.var 5) .nil)) (.cons (.bi .str (.cons (.var 5) .nil)) (.cons (.bi .bool (.cons (.var 5) .nil)) .nil)))))))))) fn22_c1
def fn22_x0 : E := .cmp .eq (.var 3) (.var 5)
def fn22_e0 : Ss := .cons (.ret (.k (.bl false))) .nil
def fn22_f0 : Ss := .cons (.ret (.k (.bl false))) .nil
def fn22_g0 : Ss := .cons (.ret (.k (.bl false))) .nil
def fn22_b8 : Ss := .cons (.ifs (.bop false (.cons (.cmp .ne (.cmp .eq (.var 3) (.var 8)) (.cmp .eq (.slice (.var 2) (.some (.k (.int 3))) .none) (.tup (.cons (.tup .nil) (.cons (.k (.int 1)) .nil))))) (.cons (.cmp .ne (.attr (.make 1 [("gap" : Str)] (.cons (.sub (.var 2) (.k (.int 0))) (.cons (.sub (.var 2) (.k (.int 1))) (.cons (.sub (.var 2) (.k (.int 2))) .nil))) (.cons (.k (.int 3)) .nil)) ("slips" : Str)) (.tup .nil)) .nil))) fn22_g0 .nil) .nil
def fn22_b7 : Ss := .cons (.ifs (.bop false (.cons (.cmp .ne (.lst false (.cons (.attr (.var 8) ("slips" : Str)) (.cons (.attr (.var 8) ("gap" : Str)) .nil))) (.lst false (.cons (.tup .nil) (.cons (.k (.int 1)) .nil)))) (.cons (.cmp .ne (.var 8) (.make 1 [] (.cons (.sub (.var 2) (.k (.int 0))) (.cons (.sub (.var 2) (.k (.int 1))) (.cons (.sub (.var 2) (.k (.int 2))) (.cons (.tup .nil) (.cons (.k (.int 1)) .nil))))) .nil)) .nil))) fn22_f0 .nil) fn22_b8
def fn22_b6 : Ss := .cons (.asg (.tg (.name 8)) (.make 1 [] (.cons (.sub (.var 2) (.k (.int 0))) (.cons (.sub (.var 2) (.k (.int 1))) (.cons (.sub (.var 2) (.k (.int 2))) .nil))) .nil)) fn22_b7
def fn22_b5 : Ss := .cons (.ifs (.bop false (.cons (.cmp .ne (.var 3) (.var 4)) (.cons (.bi .any (.cons (.comp false fn22_x0 [5] (.name 5) (.val (.var 7)) .none) .nil)) .nil))) fn22_e0 .nil) fn22_b6
def fn22_b4 : Ss := .cons (.asg (.tg (.name 7)) (.lst false (.cons (.var 2) (.cons (.call 21 [] (.cons (.var 2) .nil) .nil) (.cons (.k .non) (.cons (.sub (.var 2) (.k (.int 0))) (.cons (.lst false (.cons (.var 3) .nil)) .nil))))))) fn22_b5
def fn22_b3 : Ss := .cons (.for_ (.name 5) (.val (.lst false (.cons (.var 3) (.cons (.var 4) .nil)))) fn22_c0) fn22_b4
def fn22_b2 : Ss := .cons (.asg (.tg (.name 4)) (.make 1 [("gap" : Str), ("slips" : Str), ("calendar" : Str), ("turns" : Str), ("size" : Str)] .nil (.cons (.sub (.var 2) (.k (.int 4))) (.cons (.sub (.var 2) (.k (.int 3))) (.cons (.sub (.var 2) (.k (.int 2))) (.cons (.sub (.var 2) (.k (.int 1))) (.cons (.sub (.var 2) (.k (.int 0))) .nil))))))) fn22_b3
def fn22_b1 : Ss := .cons (.asg (.tg (.name 3)) (.call 20 [] (.cons (.var 2) .nil) .nil)) fn22_b2
def fn22_b0 : Ss := .cons (.asg (.tg (.name 2)) (.call 19 [] (.cons (.var 0) (.cons (.k (.int 6)) (.cons (.k (.int 6)) .nil))) .nil)) fn22_b1
def fn22_a1 : Ss := .cons (.ret (.cmp .eq (.bi .len (.cons (.make 1 [] (.cons (.k (.int 1)) (.cons (.tup .nil) (.cons (.tup (.cons (.k (.int 0)) .nil)) .nil))) .nil) .nil)) (.k (.int 1)))) .nil
def fn22_a0 : Ss := .cons (.for_ (.name 1) (.rng (.cons (.k (.int 8)) .nil)) fn22_b0) fn22_a1
def fn22 : Fn := ⟨1, 9, fn22_a0, false⟩
/-! law -/
def fn23_x0 : E := .call 22 [] (.cons (.call 14 [] (.cons (.var 0) (.cons (.var 1) .nil)) .nil) .nil) .nil
def fn23_a0 : Ss := .cons (.ret (.bi .all (.cons (.comp false fn23_x0 [1] (.name 1) (.rng (.cons (.bi .max (.cons (.k (.int 2)) (.cons (.bi .min (.cons (.bi .len (.cons (.var 0) .nil)) (.cons (.k (.int 5)) .nil))) .nil))) .nil)) .none) .nil))) .nil
def fn23 : Fn := ⟨1, 2, fn23_a0, false⟩
/-! Habit.__init__ -/
def fn24_b0 : Ss := .cons .stop .nil
def fn24_x0 : E := .sub (.var 6) (.k (.int 0))
def fn24_c0 : Ss := .cons .stop .nil
def fn24_d0 : Ss := .cons .stop .nil
def fn24_a9 : Ss := .cons (.fld (.var 0) ("held_gap" : Str) (.var 5)) .nil
def fn24_a8 : Ss := .cons (.fld (.var 0) ("held_slips" : Str) (.var 4)) fn24_a9
def fn24_a7 : Ss := .cons (.fld (.var 0) ("held_calendar" : Str) (.var 3)) fn24_a8
def fn24_a6 : Ss := .cons (.fld (.var 0) ("held_turns" : Str) (.var 2)) fn24_a7
def fn24_a5 : Ss := .cons (.fld (.var 0) ("held_size" : Str) (.var 1)) fn24_a6
def fn24_a4 : Ss := .cons (.ifs (.not (.call 2 [] (.cons (.var 5) (.cons (.k (.int 1)) (.cons (.glo ("MOST_GAP" : Str)) .nil))) .nil)) fn24_d0 .nil) fn24_a5
def fn24_a3 : Ss := .cons (.ifs (.not (.call 10 [] (.cons (.var 4) .nil) .nil)) fn24_c0 .nil) fn24_a4
def fn24_a2 : Ss := .cons (.expr (.call 9 [] (.cons (.var 1) (.cons (.comp false fn24_x0 [6] (.name 6) (.val (.var 2)) .none) (.cons (.var 3) .nil))) .nil)) fn24_a3
def fn24_a1 : Ss := .cons (.expr (.call 8 [] (.cons (.var 1) (.cons (.var 2) .nil)) .nil)) fn24_a2
def fn24_a0 : Ss := .cons (.ifs (.not (.call 2 [] (.cons (.var 1) (.cons (.k (.int 1)) (.cons (.glo ("MOST_SIZE" : Str)) .nil))) .nil)) fn24_b0 .nil) fn24_a1
def fn24 : Fn := ⟨6, 7, fn24_a0, false⟩
/-! Habit.__len__ -/
def fn25_a0 : Ss := .cons (.ret (.bi .len (.cons (.attr (.var 0) ("held_calendar" : Str)) .nil))) .nil
def fn25 : Fn := ⟨1, 1, fn25_a0, false⟩
/-! Habit.__bool__ -/
def fn26_a0 : Ss := .cons (.ret (.k (.bl true))) .nil
def fn26 : Fn := ⟨1, 1, fn26_a0, false⟩
/-! Habit.__str__ -/
def fn27_x0 : E := .bi .str (.cons (.var 2) .nil)
def fn27_x1 : E := .bm .join (.k (.str (" " : Str))) (.cons (.lst false (.cons (.k (.str ("turn" : Str))) (.cons (.var 3) (.star (.comp false fn27_x0 [2] (.name 2) (.val (.var 4)) .none) .nil)))) .nil)
def fn27_x2 : E := .bi .str (.cons (.var 6) .nil)
def fn27_a3 : Ss := .cons (.ret (.bm .join (.k (.str ("\n" : Str))) (.cons (.lst false (.cons (.bin .add (.k (.str ("habit " : Str))) (.bi .str (.cons (.attr (.var 0) ("held_size" : Str)) .nil))) (.star (.var 1) (.cons (.var 5) (.cons (.var 7) .nil))))) .nil))) .nil
def fn27_a2 : Ss := .cons (.asg (.tg (.name 7)) (.bm .join (.k (.str (" " : Str))) (.cons (.lst false (.cons (.k (.str ("slips" : Str))) (.star (.attr (.var 0) ("held_slips" : Str)) (.cons (.bi .str (.cons (.attr (.var 0) ("held_gap" : Str)) .nil)) .nil)))) .nil))) fn27_a3
def fn27_a1 : Ss := .cons (.asg (.tg (.name 5)) (.bm .join (.k (.str (" " : Str))) (.cons (.lst false (.cons (.k (.str ("calendar" : Str))) (.star (.comp false fn27_x2 [6] (.name 6) (.val (.attr (.var 0) ("held_calendar" : Str))) .none) .nil))) .nil))) fn27_a2
def fn27_a0 : Ss := .cons (.asg (.tg (.name 1)) (.comp false fn27_x1 [3, 4] (.tup (.cons (.name 3) (.cons (.name 4) .nil))) (.val (.attr (.var 0) ("held_turns" : Str))) .none)) fn27_a1
def fn27 : Fn := ⟨1, 8, fn27_a0, false⟩
/-! Habit.__eq__ -/
def fn28_a0 : Ss := .cons (.ret (.bop true (.cons (.isi (.var 1) (.own 1)) (.cons (.cmp .eq (.bi .str (.cons (.var 0) .nil)) (.bi .str (.cons (.var 1) .nil))) .nil)))) .nil
def fn28 : Fn := ⟨2, 2, fn28_a0, false⟩
/-! Habit.size -/
def fn29_a0 : Ss := .cons (.ret (.attr (.var 0) ("held_size" : Str))) .nil
def fn29 : Fn := ⟨1, 1, fn29_a0, false⟩
/-! Habit.turns -/
def fn30_a0 : Ss := .cons (.ret (.attr (.var 0) ("held_turns" : Str))) .nil
def fn30 : Fn := ⟨1, 1, fn30_a0, false⟩
/-! Habit.calendar -/
def fn31_a0 : Ss := .cons (.ret (.attr (.var 0) ("held_calendar" : Str))) .nil
def fn31 : Fn := ⟨1, 1, fn31_a0, false⟩
/-! Habit.slips -/
def fn32_a0 : Ss := .cons (.ret (.attr (.var 0) ("held_slips" : Str))) .nil
def fn32 : Fn := ⟨1, 1, fn32_a0, false⟩
/-! Habit.gap -/
def fn33_a0 : Ss := .cons (.ret (.attr (.var 0) ("held_gap" : Str))) .nil
def fn33 : Fn := ⟨1, 1, fn33_a0, false⟩
/-! is_change -/
def fn34_b0 : Ss := .cons (.ret (.k (.bl false))) .nil
def fn34_a1 : Ss := .cons (.ret (.bop false (.cons (.bop true (.cons (.isi (.sub (.var 1) (.k (.int 0))) (.b "str")) (.cons (.inG false (.sub (.var 1) (.k (.int 0))) ("PARTS" : Str)) .nil))) (.cons (.call 2 [] (.cons (.sub (.var 1) (.k (.int 0))) (.cons (.k (.int 0)) (.cons (.bin .sub (.bi .len (.cons (.var 0) .nil)) (.k (.int 1))) .nil))) .nil) .nil)))) .nil
def fn34_a0 : Ss := .cons (.ifs (.not (.call 4 [] (.cons (.var 1) (.cons (.k (.int 2)) .nil)) .nil)) fn34_b0 .nil) fn34_a1
def fn34 : Fn := ⟨2, 2, fn34_a0, false⟩
/-! with_changes -/
def fn35_c0 : Ss := .cons (.asg (.sub (.var 3) (.var 4)) (.var 5)) .nil
def fn35_d0 : Ss := .cons (.asg (.sub (.var 2) (.var 4)) (.var 5)) .nil
def fn35_b0 : Ss := .cons (.ifs (.isi (.var 4) (.b "str")) fn35_c0 fn35_d0) .nil
def fn35_a2 : Ss := .cons (.ret (.make 1 [] (.cons (.attr (.var 0) ("size" : Str)) (.cons (.attr (.var 0) ("turns" : Str)) (.cons (.bi .tuple (.cons (.var 2) .nil)) (.cons (.sub (.var 3) (.k (.str ("slips" : Str)))) (.cons (.sub (.var 3) (.k (.str ("gap" : Str)))) .nil))))) .nil)) .nil
def fn35_a1 : Ss := .cons (.for_ (.tup (.cons (.name 4) (.cons (.name 5) .nil))) (.val (.var 1)) fn35_b0) fn35_a2
def fn35_a0 : Ss := .cons (.par [2, 3] (.cons (.bi (.list true) (.cons (.attr (.var 0) ("calendar" : Str)) .nil)) (.cons (.dct true (.cons (.k (.str ("slips" : Str))) (.attr (.var 0) ("slips" : Str)) (.cons (.k (.str ("gap" : Str))) (.attr (.var 0) ("gap" : Str)) .nil))) .nil))) fn35_a1
def fn35 : Fn := ⟨2, 6, fn35_a0, false⟩
/-! _law_mate -/
def fn36_b0 : Ss := .cons (.ret (.bin .add (.tup (.cons (.sub (.var 1) (.k (.int 0))) (.cons (.rev (.sub (.var 1) (.k (.int 1)))) .nil))) (.slice (.var 1) (.some (.k (.int 2))) .none))) .nil
def fn36_c0 : Ss := .cons (.ret (.bin .add (.bin .add (.slice (.var 1) .none (.some (.k (.int 2)))) (.tup (.cons (.rev (.sub (.var 1) (.k (.int 2)))) .nil))) (.slice (.var 1) (.some (.k (.int 3))) .none))) .nil
def fn36_d0 : Ss := .cons (.ret (.bin .add (.slice (.var 1) .none (.some (.k (.int 3)))) (.tup (.cons (.call 16 [] (.cons (.var 0) (.cons (.lst false (.cons (.tup .nil) (.cons (.tup (.cons (.k (.str ("forget" : Str))) .nil)) (.cons (.tup (.cons (.k (.str ("twice" : Str))) .nil)) .nil)))) .nil)) .nil) (.cons (.sub (.var 1) (.k (.int 4))) .nil))))) .nil
def fn36_e0 : Ss := .cons (.ret (.bin .add (.slice (.var 1) .none (.some (.k (.int 4)))) (.tup (.cons (.call 16 [] (.cons (.var 0) (.cons (.lst false (.cons (.k (.int 1)) (.cons (.k (.int 2)) (.cons (.k (.int 3)) .nil)))) .nil)) .nil) .nil)))) .nil
def fn36_x0 : E := .var 4
def fn36_y1 : Eo := .some (.isi (.var 4) (.b "str"))
def fn36_x2 : E := .var 5
def fn36_y3 : Eo := .some (.cmp .isin (.sub (.var 5) (.k (.int 0))) (.var 3))
def fn36_f1 : Ss := .cons (.ret (.bin .add (.tup (.cons (.sub (.var 1) (.k (.int 0))) (.cons (.bi .tuple (.cons (.comp false fn36_x2 [5] (.name 5) (.val (.sub (.var 1) (.k (.int 1)))) fn36_y3) .nil)) .nil))) (.slice (.var 1) (.some (.k (.int 2))) .none))) .nil
def fn36_f0 : Ss := .cons (.asg (.tg (.name 3)) (.comp false fn36_x0 [4] (.name 4) (.val (.sub (.var 1) (.k (.int 2)))) fn36_y1)) fn36_f1
def fn36_a6 : Ss := .cons (.ret (.var 1)) .nil
def fn36_a5 : Ss := .cons (.ifs (.cmp .eq (.var 2) (.k (.int 4))) fn36_f0 .nil) fn36_a6
def fn36_a4 : Ss := .cons (.ifs (.cmp .eq (.var 2) (.k (.int 3))) fn36_e0 .nil) fn36_a5
def fn36_a3 : Ss := .cons (.ifs (.cmp .eq (.var 2) (.k (.int 2))) fn36_d0 .nil) fn36_a4
def fn36_a2 : Ss := .cons (.ifs (.cmp .eq (.var 2) (.k (.int 1))) fn36_c0 .nil) fn36_a3
def fn36_a1 : Ss := .cons (.ifs (.cmp .eq (.var 2) (.k (.int 0))) fn36_b0 .nil) fn36_a2
def fn36_a0 : Ss := .cons (.asg (.tg (.name 2)) (.call 15 [] (.cons (.var 0) (.cons (.k (.int 6)) .nil)) .nil)) fn36_a1
def fn36 : Fn := ⟨2, 6, fn36_a0, false⟩
/-! _law_right -/
def fn37_c0 : Ss := .cons (.ret (.k (.bl false))) .nil
def fn37_d0 : Ss := .cons (.ret (.k (.bl false))) .nil
def fn37_b7 : Ss := .cons (.ifs (.cmp .ne (.meth (.meth (.var 4) ("changed" : Str) [] (.cons (.tup (.cons (.var 7) (.cons (.k (.int 0)) .nil))) .nil) .nil) ("changed" : Str) [] (.cons (.tup (.cons (.var 7) (.cons (.sub (.sub (.var 3) (.k (.int 2))) (.var 7)) .nil))) .nil) .nil) (.var 4)) fn37_d0 .nil) .nil
def fn37_b6 : Ss := .cons (.asg (.tg (.name 7)) (.call 15 [] (.cons (.var 0) (.cons (.bi .len (.cons (.sub (.var 3) (.k (.int 2))) .nil)) .nil)) .nil)) fn37_b7
def fn37_b5 : Ss := .cons (.ifs (.bop false (.cons (.cmp .ne (.var 5) (.var 4)) (.cons (.cmp .ne (.var 6) (.var 4)) .nil))) fn37_c0 .nil) fn37_b6
def fn37_b4 : Ss := .cons (.asg (.tg (.name 6)) (.make 1 [] (.cons (.attr (.var 4) ("size" : Str)) (.cons (.attr (.var 4) ("turns" : Str)) (.cons (.attr (.var 4) ("calendar" : Str)) (.cons (.attr (.var 4) ("slips" : Str)) (.cons (.attr (.var 4) ("gap" : Str)) .nil))))) .nil)) fn37_b5
def fn37_b3 : Ss := .cons (.asg (.tg (.name 5)) (.meth (.meth (.var 4) ("changed" : Str) [] (.cons (.tup (.cons (.k (.str ("gap" : Str))) (.cons (.bin .add (.k (.int 1)) (.call 15 [] (.cons (.var 0) (.cons (.k (.int 6)) .nil)) .nil)) .nil))) .nil) .nil) ("changed" : Str) [] (.cons (.tup (.cons (.k (.str ("gap" : Str))) (.cons (.sub (.var 3) (.k (.int 4))) .nil))) .nil) .nil)) fn37_b4
def fn37_b2 : Ss := .cons (.asg (.tg (.name 4)) (.call 20 [] (.cons (.var 3) .nil) .nil)) fn37_b3
def fn37_b1 : Ss := .cons (.asg (.tg (.name 1)) (.bin .add (.var 1) (.lst false (.cons (.var 3) (.cons (.call 36 [] (.cons (.var 0) (.cons (.var 3) .nil)) .nil) .nil))))) fn37_b2
def fn37_b0 : Ss := .cons (.asg (.tg (.name 3)) (.call 19 [] (.cons (.var 0) (.cons (.k (.int 4)) (.cons (.k (.int 4)) .nil))) .nil)) fn37_b1
def fn37_x0 : E := .call 20 [] (.cons (.var 3) .nil) .nil
def fn37_g0 : Ss := .cons (.ret (.k (.bl false))) .nil
def fn37_f1 : Ss := .cons (.ifs (.bop false (.cons (.cmp .ne (.cmp .eq (.sub (.var 8) (.var 9)) (.sub (.var 8) (.var 10))) (.var 11)) (.cons (.cmp .eq (.cmp .ne (.sub (.var 8) (.var 9)) (.sub (.var 8) (.var 10))) (.var 11)) .nil))) fn37_g0 .nil) .nil
def fn37_f0 : Ss := .cons (.asg (.tg (.name 11)) (.cmp .eq (.call 21 [] (.cons (.sub (.var 1) (.var 9)) .nil) .nil) (.call 21 [] (.cons (.sub (.var 1) (.var 10)) .nil) .nil))) fn37_f1
def fn37_e0 : Ss := .cons (.for_ (.name 10) (.rng (.cons (.bi .len (.cons (.var 8) .nil)) .nil)) fn37_f0) .nil
def fn37_a4 : Ss := .cons (.ret (.k (.bl true))) .nil
def fn37_a3 : Ss := .cons (.for_ (.name 9) (.rng (.cons (.bi .len (.cons (.var 8) .nil)) .nil)) fn37_e0) fn37_a4
def fn37_a2 : Ss := .cons (.asg (.tg (.name 8)) (.comp false fn37_x0 [3] (.name 3) (.val (.var 1)) .none)) fn37_a3
def fn37_a1 : Ss := .cons (.for_ (.name 2) (.rng (.cons (.k (.int 6)) .nil)) fn37_b0) fn37_a2
def fn37_a0 : Ss := .cons (.asg (.tg (.name 1)) (.lst false .nil)) fn37_a1
def fn37 : Fn := ⟨1, 12, fn37_a0, false⟩
/-! law -/
def fn38_x0 : E := .call 37 [] (.cons (.call 14 [] (.cons (.var 0) (.cons (.var 1) .nil)) .nil) .nil) .nil
def fn38_a0 : Ss := .cons (.ret (.bi .all (.cons (.comp false fn38_x0 [1] (.name 1) (.rng (.cons (.bi .max (.cons (.k (.int 2)) (.cons (.bi .min (.cons (.bi .len (.cons (.var 0) .nil)) (.cons (.k (.int 5)) .nil))) .nil))) .nil)) .none) .nil))) .nil
def fn38 : Fn := ⟨1, 2, fn38_a0, false⟩
/-! Habit.changed -/
def fn39_b0 : Ss := .cons .stop .nil
def fn39_c0 : Ss := .cons (.asg (.tg (.name 2)) (.call 35 [] (.cons (.var 0) (.cons (.lst false (.cons (.var 1) .nil)) .nil)) .nil)) .nil
def fn39_a2 : Ss := .cons (.ret (.var 2)) .nil
def fn39_a1 : Ss := .cons (.try_ fn39_c0 ("BadValue" : Str)) fn39_a2
def fn39_a0 : Ss := .cons (.ifs (.not (.call 34 [] (.cons (.var 0) (.cons (.var 1) .nil)) .nil)) fn39_b0 .nil) fn39_a1
def fn39 : Fn := ⟨2, 3, fn39_a0, false⟩
/-! check_habit -/
def fn40_b0 : Ss := .cons .stop .nil
def fn40_a0 : Ss := .cons (.ifs (.not (.isi (.var 0) (.own 1))) fn40_b0 .nil) .nil
def fn40 : Fn := ⟨1, 1, fn40_a0, false⟩
/-! image_of -/
def fn41_x0 : E := .var 4
def fn41_y1 : Eo := .some (.cmp .eq (.var 3) (.var 2))
def fn41_b0 : Ss := .cons (.ret (.sub (.comp false fn41_x0 [3, 4] (.tup (.cons (.name 3) (.cons (.name 4) .nil))) (.val (.attr (.var 0) ("turns" : Str))) fn41_y1) (.k (.int 0)))) .nil
def fn41_a2 : Ss := .cons (.ret (.bin .mul (.tup (.cons (.var 2) .nil)) (.attr (.var 0) ("size" : Str)))) .nil
def fn41_a1 : Ss := .cons (.ifs (.isi (.var 2) (.b "str")) fn41_b0 .nil) fn41_a2
def fn41_a0 : Ss := .cons (.asg (.tg (.name 2)) (.sub (.attr (.var 0) ("calendar" : Str)) (.bin .mod (.var 1) (.bi .len (.cons (.var 0) .nil))))) fn41_a1
def fn41 : Fn := ⟨2, 5, fn41_a0, false⟩
/-! ends_of -/
def fn42_x0 : E := .sub (.var 5) (.var 6)
def fn42_b1 : Ss := .cons (.asg (.tg (.name 3)) (.comp false fn42_x0 [6] (.name 6) (.val (.var 3)) .none)) .nil
def fn42_b0 : Ss := .cons (.asg (.tg (.name 5)) (.call 41 [] (.cons (.var 0) (.cons (.bin .add (.var 1) (.var 4)) .nil)) .nil)) fn42_b1
def fn42_a2 : Ss := .cons (.ret (.var 3)) .nil
def fn42_a1 : Ss := .cons (.for_ (.name 4) (.rng (.cons (.var 2) .nil)) fn42_b0) fn42_a2
def fn42_a0 : Ss := .cons (.asg (.tg (.name 3)) (.lrng false false .none (.attr (.var 0) ("size" : Str)))) fn42_a1
def fn42 : Fn := ⟨3, 7, fn42_a0, false⟩
/-! healing_of -/
def fn43_x0 : E := .var 2
def fn43_x1 : E := .k (.bl true)
def fn43_x2 : E := .cmp .eq (.bi .len (.cons (.dcomp true fn43_x0 fn43_x1 [2] (.name 2) (.val (.call 42 [] (.cons (.var 0) (.cons (.var 3) (.cons (.var 1) .nil))) .nil)) .none) .nil)) (.k (.int 1))
def fn43_c0 : Ss := .cons (.ret (.var 1)) .nil
def fn43_b0 : Ss := .cons (.ifs (.bi .all (.cons (.comp false fn43_x2 [3] (.name 3) (.rng (.cons (.bi .len (.cons (.var 0) .nil)) .nil)) .none) .nil)) fn43_c0 .nil) .nil
def fn43_a1 : Ss := .cons (.ret (.k .non)) .nil
def fn43_a0 : Ss := .cons (.for_ (.name 1) (.rng (.cons (.bin .add (.bi .len (.cons (.var 0) .nil)) (.k (.int 1))) .nil)) fn43_b0) fn43_a1
def fn43 : Fn := ⟨1, 4, fn43_a0, false⟩
/-! healed_within -/
def fn44_a1 : Ss := .cons (.ret (.call 43 [] (.cons (.var 0) .nil) .nil)) .nil
def fn44_a0 : Ss := .cons (.expr (.call 40 [] (.cons (.var 0) .nil) .nil)) fn44_a1
def fn44 : Fn := ⟨1, 1, fn44_a0, false⟩
/-! _law_purse -/
def fn45_b2 : Ss := .cons (.ret (.lst true (.cons (.var 3) (.cons (.bin .mod (.bi .int (.cons (.bin .add (.bin .add (.bin .mul (.var 2) (.k (.int 39373))) (.bin .mul (.k (.int 104723)) (.var 1))) (.k (.int 17))) .nil)) (.k (.int 2147483629))) (.cons (.k (.int 0)) .nil))))) .nil
def fn45_b1 : Ss := .cons (.asg (.tg (.name 3)) (.ite (.bop false (.cons (.cmp .lt (.var 2) (.k (.int 0))) (.cons (.cmp .ge (.var 2) (.bin .pow (.k (.int 10)) (.k (.int 18)))) .nil))) (.bi .abs (.cons (.var 2) .nil)) (.k (.int 0)))) fn45_b2
def fn45_b0 : Ss := .cons (.asg (.tg (.name 2)) (.sub (.var 0) (.var 1))) fn45_b1
def fn45_c0 : Ss := .cons (.asg (.tg (.name 4)) (.bin .mod (.bi .int (.cons (.bin .add (.bin .mul (.var 4) (.k (.int 48271))) (.var 2)) .nil)) (.k (.int 2147483587)))) .nil
def fn45_a3 : Ss := .cons (.ret (.lst true (.cons (.k (.int 0)) (.cons (.var 4) (.cons (.k (.int 0)) .nil))))) .nil
def fn45_a2 : Ss := .cons (.for_ (.name 2) (.val (.slice (.var 0) .none (.some (.k (.int 4))))) fn45_c0) fn45_a3
def fn45_a1 : Ss := .cons (.asg (.tg (.name 4)) (.bin .add (.bin .mul (.k (.int 86243)) (.var 1)) (.k (.int 131)))) fn45_a2
def fn45_a0 : Ss := .cons (.ifs (.cmp .lt (.var 1) (.bi .len (.cons (.var 0) .nil))) fn45_b0 .nil) fn45_a1
def fn45 : Fn := ⟨2, 5, fn45_a0, true⟩
/-! _law_draw -/
def fn46_b1 : Ss := .cons (.ret (.var 4)) .nil
def fn46_b0 : Ss := .cons (.asg (.tup (.cons (.sub (.var 0) (.k (.int 0))) (.cons (.tg (.name 4)) .nil))) (.bi .divmod (.cons (.sub (.var 0) (.k (.int 0))) (.cons (.var 1) .nil)))) fn46_b1
def fn46_a4 : Ss := .cons (.ret (.bin .mod (.bi .int (.cons (.bin .fdiv (.sub (.var 0) (.k (.int 1))) (.k (.int 89))) .nil)) (.var 1))) .nil
def fn46_a3 : Ss := .cons (.ifs (.cmp .gt (.sub (.var 0) (.k (.int 0))) (.k (.int 0))) fn46_b0 .nil) fn46_a4
def fn46_a2 : Ss := .cons (.asg (.sub (.var 0) (.k (.int 1))) (.bin .mod (.bi .int (.cons (.bin .add (.bin .add (.bin .mul (.var 2) (.var 3)) (.bin .mul (.k (.int 60013)) (.sub (.var 0) (.k (.int 2))))) (.k (.int 11))) .nil)) (.k (.int 2147483629)))) fn46_a3
def fn46_a1 : Ss := .cons (.asg (.sub (.var 0) (.k (.int 2))) (.bin .add (.sub (.var 0) (.k (.int 2))) (.k (.int 1)))) fn46_a2
def fn46_a0 : Ss := .cons (.par [2, 3] (.cons (.sub (.var 0) (.k (.int 1))) (.cons (.bin .add (.bin .mod (.bi .int (.cons (.sub (.var 0) (.k (.int 1))) .nil)) (.k (.int 40009))) (.k (.int 20021))) .nil))) fn46_a1
def fn46 : Fn := ⟨2, 5, fn46_a0, false⟩
/-! _law_pick -/
def fn47_a0 : Ss := .cons (.ret (.sub (.var 1) (.call 46 [] (.cons (.var 0) (.cons (.bi .len (.cons (.var 1) .nil)) .nil)) .nil))) .nil
def fn47 : Fn := ⟨2, 2, fn47_a0, false⟩
/-! _law_mixed -/
def fn48_b0 : Ss := .cons (.expr (.bm .append (.var 3) (.cons (.bm .pop (.var 2) (.cons (.call 46 [] (.cons (.var 0) (.cons (.bi .len (.cons (.var 2) .nil)) .nil)) .nil) .nil)) .nil))) .nil
def fn48_a2 : Ss := .cons (.ret (.bi .tuple (.cons (.var 3) .nil))) .nil
def fn48_a1 : Ss := .cons (.for_ (.name 4) (.rng (.cons (.var 1) .nil)) fn48_b0) fn48_a2
def fn48_a0 : Ss := .cons (.par [2, 3] (.cons (.lrng false true .none (.var 1)) (.cons (.lst true .nil) .nil))) fn48_a1
def fn48 : Fn := ⟨2, 5, fn48_a0, false⟩
/-! _law_card -/
def fn49_x0 : E := .tup (.cons (.var 7) (.cons (.call 48 [] (.cons (.var 0) (.cons (.var 4) .nil)) .nil) .nil))
def fn49_b1 : Ss := .cons (.expr (.bm .append (.var 8) (.cons (.ite (.bop true (.cons (.cmp .ne (.var 5) (.lst false .nil)) (.cons (.cmp .gt (.call 46 [] (.cons (.var 0) (.cons (.k (.int 5)) .nil)) .nil) (.k (.int 0))) .nil))) (.call 47 [] (.cons (.var 0) (.cons (.var 5) .nil)) .nil) (.var 10)) .nil))) .nil
def fn49_b0 : Ss := .cons (.asg (.tg (.name 10)) (.call 46 [] (.cons (.var 0) (.cons (.var 4) .nil)) .nil)) fn49_b1
def fn49_a6 : Ss := .cons (.ret (.lst false (.cons (.var 4) (.cons (.var 6) (.cons (.bi .tuple (.cons (.var 8) .nil)) (.cons (.var 11) (.cons (.bin .add (.k (.int 1)) (.call 46 [] (.cons (.var 0) (.cons (.var 3) .nil)) .nil)) .nil))))))) .nil
def fn49_a5 : Ss := .cons (.asg (.tg (.name 11)) (.call 47 [] (.cons (.var 0) (.cons (.lst false (.cons (.tup .nil) (.cons (.tup (.cons (.k (.str ("forget" : Str))) .nil)) (.cons (.tup (.cons (.k (.str ("forget" : Str))) .nil)) (.cons (.tup (.cons (.k (.str ("forget" : Str))) (.cons (.k (.str ("twice" : Str))) .nil))) (.cons (.tup (.cons (.k (.str ("twice" : Str))) .nil)) .nil)))))) .nil)) .nil)) fn49_a6
def fn49_a4 : Ss := .cons (.for_ (.name 9) (.rng (.cons (.bin .add (.k (.int 1)) (.call 46 [] (.cons (.var 0) (.cons (.var 2) .nil)) .nil)) .nil)) fn49_b0) fn49_a5
def fn49_a3 : Ss := .cons (.asg (.tg (.name 8)) (.lst true .nil)) fn49_a4
def fn49_a2 : Ss := .cons (.asg (.tg (.name 6)) (.bi .tuple (.cons (.comp false fn49_x0 [7] (.name 7) (.val (.var 5)) .none) .nil))) fn49_a3
def fn49_a1 : Ss := .cons (.asg (.tg (.name 5)) (.slice (.lst false (.cons (.k (.str ("over" : Str))) (.cons (.k (.str ("spin" : Str))) (.cons (.k (.str ("a" : Str))) (.cons (.k (.str ("z9" : Str))) .nil))))) .none (.some (.call 46 [] (.cons (.var 0) (.cons (.k (.int 4)) .nil)) .nil)))) fn49_a2
def fn49_a0 : Ss := .cons (.asg (.tg (.name 4)) (.bin .add (.k (.int 1)) (.call 46 [] (.cons (.var 0) (.cons (.var 1) .nil)) .nil))) fn49_a1
def fn49 : Fn := ⟨4, 12, fn49_a0, false⟩
/-! _law_made -/
def fn50_a0 : Ss := .cons (.ret (.make 1 [] (.cons (.sub (.var 0) (.k (.int 0))) (.cons (.sub (.var 0) (.k (.int 1))) (.cons (.sub (.var 0) (.k (.int 2))) (.cons (.sub (.var 0) (.k (.int 3))) (.cons (.sub (.var 0) (.k (.int 4))) .nil))))) .nil)) .nil
def fn50 : Fn := ⟨1, 1, fn50_a0, false⟩
/-! _law_image -/
def fn51_x0 : E := .var 4
def fn51_y1 : Eo := .some (.cmp .eq (.var 3) (.var 2))
def fn51_b0 : Ss := .cons (.ret (.sub (.comp false fn51_x0 [3, 4] (.tup (.cons (.name 3) (.cons (.name 4) .nil))) (.val (.sub (.var 0) (.k (.int 1)))) fn51_y1) (.k (.int 0)))) .nil
def fn51_a2 : Ss := .cons (.ret (.bin .mul (.tup (.cons (.var 2) .nil)) (.sub (.var 0) (.k (.int 0))))) .nil
def fn51_a1 : Ss := .cons (.ifs (.isi (.var 2) (.b "str")) fn51_b0 .nil) fn51_a2
def fn51_a0 : Ss := .cons (.asg (.tg (.name 2)) (.sub (.sub (.var 0) (.k (.int 2))) (.bin .mod (.bi .int (.cons (.var 1) .nil)) (.bi .len (.cons (.sub (.var 0) (.k (.int 2))) .nil))))) fn51_a1
def fn51 : Fn := ⟨2, 5, fn51_a0, false⟩
/-! _law_words -/
def fn52_a0 : Ss := .cons (.ret (.bi (.sorted false) (.cons (.bin .add (.lst false (.cons (.k (.str ("keep" : Str))) .nil)) (.ite (.cmp .eq (.sub (.var 1) (.k (.int 2))) (.sub (.var 0) (.k (.int 4)))) (.bi (.list false) (.cons (.sub (.var 0) (.k (.int 3))) .nil)) (.lst false .nil))) .nil))) .nil
def fn52 : Fn := ⟨2, 2, fn52_a0, false⟩
/-! _law_begin -/
def fn54_a0 : Ss := .cons (.ret (.tup (.cons (.var 1) (.cons (.k (.int 0)) (.cons (.sub (.var 0) (.k (.int 4))) .nil))))) .nil
def fn54 : Fn := ⟨2, 2, fn54_a0, false⟩
/-! _law_apart -/
def fn56_c0 : Ss := .cons (.ret (.k .non)) .nil
def fn56_b5 : Ss := .cons (.asg (.tg (.name 5)) (.bin .add (.var 5) (.k (.int 1)))) .nil
def fn56_b4 : Ss := .cons (.par [2, 3] (.cons (.sub (.var 7) (.var 2)) (.cons (.sub (.var 7) (.var 3)) .nil))) fn56_b5
def fn56_b3 : Ss := .cons (.asg (.tg (.name 7)) (.call 51 [] (.cons (.var 0) (.cons (.bin .add (.var 1) (.var 5)) .nil)) .nil)) fn56_b4
def fn56_b2 : Ss := .cons (.expr (.bm .append (.var 4) (.cons (.var 6) .nil))) fn56_b3
def fn56_b1 : Ss := .cons (.ifs (.cmp .isin (.var 6) (.var 4)) fn56_c0 .nil) fn56_b2
def fn56_b0 : Ss := .cons (.asg (.tg (.name 6)) (.tup (.cons (.bin .mod (.bi .int (.cons (.bin .add (.var 1) (.var 5)) .nil)) (.bi .len (.cons (.sub (.var 0) (.k (.int 2))) .nil))) (.cons (.var 2) (.cons (.var 3) .nil))))) fn56_b1
def fn56_a2 : Ss := .cons (.ret (.var 5)) .nil
def fn56_a1 : Ss := .cons (.while_ (.cmp .ne (.var 2) (.var 3)) fn56_b0) fn56_a2
def fn56_a0 : Ss := .cons (.par [4, 5] (.cons (.lst true .nil) (.cons (.k (.int 0)) .nil))) fn56_a1
def fn56 : Fn := ⟨4, 8, fn56_a0, false⟩
/-! _law_right -/
def fn57_b0 : Ss := .cons (.asg (.tg (.name 1)) (.bin .add (.bin .add (.slice (.var 1) .none (.some (.k (.int 2)))) (.lst false (.cons (.bin .add (.slice (.sub (.var 1) (.k (.int 2))) .none (.some (.k (.int 5)))) (.tup (.cons (.call 46 [] (.cons (.var 0) (.cons (.sub (.var 1) (.k (.int 0))) .nil)) .nil) .nil))) .nil))) (.slice (.var 1) (.some (.k (.int 3))) .none))) .nil
def fn57_e1 : Ss := .cons (.asg (.tg (.name 3)) (.ite (.bop false (.cons (.cmp .is_ (.var 7) (.k .non)) (.cons (.cmp .is_ (.var 3) (.k .non)) .nil))) (.k .non) (.bi .max (.cons (.var 3) (.cons (.var 7) .nil))))) .nil
def fn57_e0 : Ss := .cons (.asg (.tg (.name 7)) (.call 56 [] (.cons (.var 1) (.cons (.var 4) (.cons (.var 5) (.cons (.var 6) .nil)))) .nil)) fn57_e1
def fn57_d0 : Ss := .cons (.for_ (.name 6) (.rng (.cons (.var 5) .nil)) fn57_e0) .nil
def fn57_c0 : Ss := .cons (.for_ (.name 5) (.rng (.cons (.sub (.var 1) (.k (.int 0))) .nil)) fn57_d0) .nil
def fn57_f0 : Ss := .cons (.ret (.k (.bl false))) .nil
def fn57_x0 : E := .var 9
def fn57_y1 : Eo := .some (.not (.isi (.var 9) (.b "str")))
def fn57_a6 : Ss := .cons (.ret (.bop true (.cons (.cmp .eq (.cmp .isnot (.var 3) (.k .non)) (.bop false (.cons (.var 8) (.cons (.cmp .eq (.sub (.var 1) (.k (.int 0))) (.k (.int 1))) .nil)))) (.cons (.cmp .eq (.call 44 [] (.cons (.meth (.var 2) ("bare" : Str) [] .nil .nil) .nil) .nil) (.var 3)) .nil)))) .nil
def fn57_a5 : Ss := .cons (.asg (.tg (.name 8)) (.cmp .ne (.comp false fn57_x0 [9] (.name 9) (.val (.sub (.var 1) (.k (.int 2)))) fn57_y1) (.lst false .nil))) fn57_a6
def fn57_a4 : Ss := .cons (.ifs (.cmp .ne (.bi .repr (.cons (.lst false (.cons (.call 44 [] (.cons (.var 2) .nil) .nil) (.cons (.call 44 [("habit" : Str)] .nil (.cons (.var 2) .nil)) .nil))) .nil)) (.bi .repr (.cons (.lst false (.cons (.var 3) (.cons (.var 3) .nil))) .nil))) fn57_f0 .nil) fn57_a5
def fn57_a3 : Ss := .cons (.for_ (.name 4) (.rng (.cons (.bi .len (.cons (.sub (.var 1) (.k (.int 2))) .nil)) .nil)) fn57_c0) fn57_a4
def fn57_a2 : Ss := .cons (.par [2, 3] (.cons (.call 50 [] (.cons (.var 1) .nil) .nil) (.cons (.k (.int 0)) .nil))) fn57_a3
def fn57_a1 : Ss := .cons (.ifs (.cmp .eq (.call 46 [] (.cons (.var 0) (.cons (.k (.int 3)) .nil)) .nil) (.k (.int 0))) fn57_b0 .nil) fn57_a2
def fn57_a0 : Ss := .cons (.asg (.tg (.name 1)) (.call 49 [] (.cons (.var 0) (.cons (.k (.int 6)) (.cons (.k (.int 6)) (.cons (.k (.int 6)) .nil)))) .nil)) fn57_a1
def fn57 : Fn := ⟨1, 10, fn57_a0, false⟩
/-! law -/
def fn58_c0 : Ss := .cons (.ret (.k (.bl false))) .nil
def fn58_b0 : Ss := .cons (.ifs (.not (.call 57 [] (.cons (.call 45 [] (.cons (.var 0) (.cons (.var 1) .nil)) .nil) .nil) .nil)) fn58_c0 .nil) .nil
def fn58_a1 : Ss := .cons (.ret (.k (.bl true))) .nil
def fn58_a0 : Ss := .cons (.for_ (.name 1) (.rng (.cons (.bi .max (.cons (.k (.int 2)) (.cons (.bi .min (.cons (.bi .len (.cons (.var 0) .nil)) (.cons (.k (.int 5)) .nil))) .nil))) .nil)) fn58_b0) fn58_a1
def fn58 : Fn := ⟨1, 2, fn58_a0, false⟩
/-! Habit.bare -/
def fn59_a0 : Ss := .cons (.ret (.make 1 [] (.cons (.attr (.var 0) ("held_size" : Str)) (.cons (.attr (.var 0) ("held_turns" : Str)) (.cons (.attr (.var 0) ("held_calendar" : Str)) (.cons (.tup .nil) (.cons (.attr (.var 0) ("held_gap" : Str)) .nil))))) .nil)) .nil
def fn59 : Fn := ⟨1, 1, fn59_a0, false⟩
/-! Habit.read -/
def fn60_b0 : Ss := .cons .stop .nil
def fn60_c0 : Ss := .cons .stop .nil
def fn60_x0 : E := .call 11 [] (.cons (.var 5) .nil) .nil
def fn60_x1 : E := .call 12 [] (.cons (.var 7) .nil) .nil
def fn60_d0 : Ss := .cons (.asg (.tg (.name 8)) (.makeV (.var 0) 1 [] (.cons (.call 5 [] (.cons (.sub (.sub (.var 3) (.k (.int 0))) (.k (.int 0))) .nil) .nil) (.cons (.var 4) (.cons (.var 6) (.cons (.bi .tuple (.cons (.slice (.sub (.var 3) (.k (.int 2))) .none (.some (.neg (.k (.int 1))))) .nil)) (.cons (.call 5 [] (.cons (.sub (.sub (.var 3) (.k (.int 2))) (.neg (.k (.int 1)))) .nil) .nil) .nil))))) .nil)) .nil
def fn60_a7 : Ss := .cons (.ret (.var 8)) .nil
def fn60_a6 : Ss := .cons (.try_ fn60_d0 ("BadValue" : Str)) fn60_a7
def fn60_a5 : Ss := .cons (.asg (.tg (.name 6)) (.bi .tuple (.cons (.comp false fn60_x1 [7] (.name 7) (.val (.sub (.var 3) (.k (.int 1)))) .none) .nil))) fn60_a6
def fn60_a4 : Ss := .cons (.asg (.tg (.name 4)) (.bi .tuple (.cons (.comp false fn60_x0 [5] (.name 5) (.val (.slice (.var 2) (.some (.k (.int 1))) (.some (.neg (.k (.int 2)))))) .none) .nil))) fn60_a5
def fn60_a3 : Ss := .cons (.ifs (.bop false (.cons (.cmp .isin (.k .non) (.var 3)) (.cons (.cmp .ne (.bi .len (.cons (.sub (.var 3) (.k (.int 0))) .nil)) (.k (.int 1))) .nil))) fn60_c0 .nil) fn60_a4
def fn60_a2 : Ss := .cons (.asg (.tg (.name 3)) (.lst false (.cons (.call 13 [] (.cons (.sub (.var 2) (.k (.int 0))) (.cons (.k (.str ("habit" : Str))) .nil)) .nil) (.cons (.call 13 [] (.cons (.sub (.var 2) (.neg (.k (.int 2)))) (.cons (.k (.str ("calendar" : Str))) .nil)) .nil) (.cons (.call 13 [] (.cons (.sub (.var 2) (.neg (.k (.int 1)))) (.cons (.k (.str ("slips" : Str))) .nil)) .nil) .nil))))) fn60_a3
def fn60_a1 : Ss := .cons (.ifs (.cmp .lt (.bi .len (.cons (.var 2) .nil)) (.k (.int 3))) fn60_b0 .nil) fn60_a2
def fn60_a0 : Ss := .cons (.asg (.tg (.name 2)) (.ite (.isi (.var 1) (.b "str")) (.bm (.split false) (.var 1) (.cons (.k (.str ("\n" : Str))) .nil)) (.lst false .nil))) fn60_a1
def fn60 : Fn := ⟨2, 9, fn60_a0, false⟩
/-! _law_right -/
def fn61_d0 : Ss := .cons (.ret (.k (.bl false))) .nil
def fn61_c1 : Ss := .cons (.ifs (.bop false (.cons (.cmp .ne (.var 6) (.var 5)) (.cons (.cmp .ne (.bi .str (.cons (.var 6) .nil)) (.var 4)) (.cons (.cmp .ne (.bi .repr (.cons (.var 7) .nil)) (.bi .repr (.cons (.bi (.list false) (.cons (.var 3) .nil)) .nil))) .nil)))) fn61_d0 .nil) .nil
def fn61_c0 : Ss := .cons (.asg (.tg (.name 7)) (.lst false (.cons (.attr (.var 6) ("size" : Str)) (.cons (.attr (.var 6) ("turns" : Str)) (.cons (.attr (.var 6) ("calendar" : Str)) (.cons (.attr (.var 6) ("slips" : Str)) (.cons (.attr (.var 6) ("gap" : Str)) .nil))))))) fn61_c1
def fn61_x0 : E := .cmp .eq (.cmp .eq (.bi .str (.cons (.var 8) .nil)) (.var 4)) (.cmp .eq (.var 8) (.var 5))
def fn61_e0 : Ss := .cons (.ret (.k (.bl false))) .nil
def fn61_b4 : Ss := .cons (.expr (.bm .append (.var 1) (.cons (.var 5) .nil))) .nil
def fn61_b3 : Ss := .cons (.ifs (.not (.bi .all (.cons (.comp false fn61_x0 [8] (.name 8) (.val (.var 1)) .none) .nil))) fn61_e0 .nil) fn61_b4
def fn61_b2 : Ss := .cons (.for_ (.name 6) (.val (.lst false (.cons (.cmeth (.gcl 1) ("read" : Str) [] (.cons (.var 4) .nil) .nil) (.cons (.cmeth (.gcl 1) ("read" : Str) [("text" : Str)] .nil (.cons (.var 4) .nil)) .nil)))) fn61_c0) fn61_b3
def fn61_b1 : Ss := .cons (.asg (.tg (.tup (.cons (.name 4) (.cons (.name 5) .nil)))) (.tup (.cons (.call 21 [] (.cons (.var 3) .nil) .nil) (.cons (.call 20 [] (.cons (.var 3) .nil) .nil) .nil)))) fn61_b2
def fn61_b0 : Ss := .cons (.asg (.tg (.name 3)) (.call 19 [] (.cons (.var 0) (.cons (.k (.int 6)) (.cons (.k (.int 6)) .nil))) .nil)) fn61_b1
def fn61_a3 : Ss := .cons (.ret (.cmp .eq (.lst false (.cons (.attr (.var 9) ("turns" : Str)) (.cons (.attr (.var 9) ("calendar" : Str)) (.cons (.attr (.var 9) ("slips" : Str)) (.cons (.attr (.var 9) ("gap" : Str)) .nil))))) (.lst false (.cons (.tup (.cons (.tup (.cons (.k (.str ("over" : Str))) (.cons (.tup (.cons (.k (.int 1)) (.cons (.k (.int 0)) .nil))) .nil))) .nil)) (.cons (.tup (.cons (.k (.str ("over" : Str))) (.cons (.k (.int 0)) .nil))) (.cons (.tup (.cons (.k (.str ("forget" : Str))) (.cons (.k (.str ("twice" : Str))) .nil))) (.cons (.k (.int 3)) .nil))))))) .nil
def fn61_a2 : Ss := .cons (.asg (.tg (.name 9)) (.cmeth (.gcl 1) ("read" : Str) [] (.cons (.k (.str ("habit 2\nturn over 1 0\ncalendar over 0\nslips forget twice 3" : Str))) .nil) .nil)) fn61_a3
def fn61_a1 : Ss := .cons (.for_ (.name 2) (.rng (.cons (.k (.int 8)) .nil)) fn61_b0) fn61_a2
def fn61_a0 : Ss := .cons (.asg (.tg (.name 1)) (.lst true .nil)) fn61_a1
def fn61 : Fn := ⟨1, 10, fn61_a0, false⟩
/-! law -/
def fn62_x0 : E := .call 61 [] (.cons (.call 14 [] (.cons (.var 0) (.cons (.var 1) .nil)) .nil) .nil) .nil
def fn62_a0 : Ss := .cons (.ret (.bi .all (.cons (.comp false fn62_x0 [1] (.name 1) (.rng (.cons (.bi .max (.cons (.k (.int 2)) (.cons (.bi .min (.cons (.bi .len (.cons (.var 0) .nil)) (.cons (.k (.int 5)) .nil))) .nil))) .nil)) .none) .nil))) .nil
def fn62 : Fn := ⟨1, 2, fn62_a0, false⟩
/-! check_placement -/
def fn63_b0 : Ss := .cons .stop .nil
def fn63_a0 : Ss := .cons (.ifs (.not (.call 2 [] (.cons (.var 1) (.cons (.k (.int 0)) (.cons (.bin .sub (.attr (.var 0) ("size" : Str)) (.k (.int 1))) .nil))) .nil)) fn63_b0 .nil) .nil
def fn63 : Fn := ⟨2, 2, fn63_a0, false⟩
/-! words_at -/
def fn64_a0 : Ss := .cons (.ret (.bi (.sorted false) (.cons (.lst false (.cons (.glo ("KEEP" : Str)) (.star (.ite (.cmp .eq (.sub (.var 1) (.k (.int 2))) (.attr (.var 0) ("gap" : Str))) (.attr (.var 0) ("slips" : Str)) (.tup .nil)) .nil))) .nil))) .nil
def fn64 : Fn := ⟨2, 2, fn64_a0, false⟩
/-! step -/
def fn65_b0 : Ss := .cons (.asg (.tg (.name 3)) (.sub (.var 6) (.var 3))) .nil
def fn65_a4 : Ss := .cons (.ret (.tup (.cons (.var 3) (.cons (.bin .mod (.bin .add (.var 4) (.k (.int 1))) (.bi .len (.cons (.var 0) .nil))) (.cons (.var 5) .nil))))) .nil
def fn65_a3 : Ss := .cons (.asg (.tg (.name 5)) (.ite (.cmp .eq (.var 2) (.glo ("KEEP" : Str))) (.bi .min (.cons (.attr (.var 0) ("gap" : Str)) (.cons (.bin .add (.var 5) (.k (.int 1))) .nil))) (.k (.int 1)))) fn65_a4
def fn65_a2 : Ss := .cons (.for_ (.name 7) (.rng (.cons (.subG ("TIMES" : Str) (.var 2)) .nil)) fn65_b0) fn65_a3
def fn65_a1 : Ss := .cons (.asg (.tg (.name 6)) (.call 41 [] (.cons (.var 0) (.cons (.var 4) .nil)) .nil)) fn65_a2
def fn65_a0 : Ss := .cons (.asg (.tg (.tup (.cons (.name 3) (.cons (.name 4) (.cons (.name 5) .nil))))) (.var 1)) fn65_a1
def fn65 : Fn := ⟨3, 8, fn65_a0, false⟩
/-! first_of -/
def fn66_a0 : Ss := .cons (.ret (.tup (.cons (.var 1) (.cons (.k (.int 0)) (.cons (.attr (.var 0) ("gap" : Str)) .nil))))) .nil
def fn66 : Fn := ⟨2, 2, fn66_a0, false⟩
/-! way_of -/
def fn67_c0 : Ss := .cons (.ret (.k .non)) .nil
def fn67_b1 : Ss := .cons (.expr (.bm .append (.var 3) (.cons (.call 65 [] (.cons (.var 0) (.cons (.sub (.var 3) (.neg (.k (.int 1)))) (.cons (.var 4) .nil))) .nil) .nil))) .nil
def fn67_b0 : Ss := .cons (.ifs (.cmp .notin (.var 4) (.call 64 [] (.cons (.var 0) (.cons (.sub (.var 3) (.neg (.k (.int 1)))) .nil)) .nil)) fn67_c0 .nil) fn67_b1
def fn67_a2 : Ss := .cons (.ret (.var 3)) .nil
def fn67_a1 : Ss := .cons (.for_ (.name 4) (.val (.var 2)) fn67_b0) fn67_a2
def fn67_a0 : Ss := .cons (.asg (.tg (.name 3)) (.lst true (.cons (.var 1) .nil))) fn67_a1
def fn67 : Fn := ⟨3, 5, fn67_a0, false⟩
/-! is_row -/
def fn68_x0 : E := .isi (.var 2) (.b "str")
def fn68_b0 : Ss := .cons (.ret (.k (.bl false))) .nil
def fn68_a1 : Ss := .cons (.ret (.cmp .isnot (.call 67 [] (.cons (.var 0) (.cons (.call 66 [] (.cons (.var 0) (.cons (.k (.int 0)) .nil)) .nil) (.cons (.var 1) .nil))) .nil) (.k .non))) .nil
def fn68_a0 : Ss := .cons (.ifs (.bop false (.cons (.not (.isi (.var 1) (.b "tuple"))) (.cons (.not (.bi .all (.cons (.comp false fn68_x0 [2] (.name 2) (.val (.var 1)) .none) .nil))) .nil))) fn68_b0 .nil) fn68_a1
def fn68 : Fn := ⟨2, 3, fn68_a0, false⟩
/-! check_row -/
def fn69_b0 : Ss := .cons .stop .nil
def fn69_a0 : Ss := .cons (.ifs (.bop false (.cons (.not (.isi (.var 1) (.b "tuple"))) (.cons (.cmp .gt (.bi .len (.cons (.var 1) .nil)) (.glo ("MOST_ROW" : Str))) (.cons (.not (.call 68 [] (.cons (.var 0) (.cons (.var 1) .nil)) .nil)) .nil)))) fn69_b0 .nil) .nil
def fn69 : Fn := ⟨2, 2, fn69_a0, false⟩
/-! check_run -/
def fn70_a2 : Ss := .cons (.expr (.call 69 [] (.cons (.var 0) (.cons (.var 2) .nil)) .nil)) .nil
def fn70_a1 : Ss := .cons (.expr (.call 63 [] (.cons (.var 0) (.cons (.var 1) .nil)) .nil)) fn70_a2
def fn70_a0 : Ss := .cons (.expr (.call 40 [] (.cons (.var 0) .nil) .nil)) fn70_a1
def fn70 : Fn := ⟨3, 3, fn70_a0, false⟩
/-! walk -/
def fn71_x0 : E := .sub (.var 3) (.k (.int 0))
def fn71_a1 : Ss := .cons (.ret (.bi .tuple (.cons (.comp false fn71_x0 [3] (.name 3) (.val (.call 67 [] (.cons (.var 0) (.cons (.call 66 [] (.cons (.var 0) (.cons (.var 1) .nil)) .nil) (.cons (.var 2) .nil))) .nil)) .none) .nil))) .nil
def fn71_a0 : Ss := .cons (.expr (.call 70 [] (.cons (.var 0) (.cons (.var 1) (.cons (.var 2) .nil))) .nil)) fn71_a1
def fn71 : Fn := ⟨3, 4, fn71_a0, false⟩
/-! _law_laid -/
def fn72_a1 : Ss := .cons (.ret (.ite (.isi (.var 3) (.b "str")) (.sub (.sub (.bi .dict (.cons (.sub (.var 0) (.k (.int 1))) .nil)) (.var 3)) (.var 1)) (.var 3))) .nil
def fn72_a0 : Ss := .cons (.asg (.tg (.name 3)) (.sub (.sub (.var 0) (.k (.int 2))) (.bin .mod (.bi .int (.cons (.var 2) .nil)) (.bi .len (.cons (.sub (.var 0) (.k (.int 2))) .nil))))) fn72_a1
def fn72 : Fn := ⟨3, 4, fn72_a0, false⟩
/-! _law_let -/
def fn73_a0 : Ss := .cons (.ret (.bin .add (.lst false (.cons (.k (.str ("keep" : Str))) .nil)) (.ite (.cmp .ge (.var 1) (.sub (.var 0) (.k (.int 4)))) (.bi (.list false) (.cons (.sub (.var 0) (.k (.int 3))) .nil)) (.lst false .nil)))) .nil
def fn73 : Fn := ⟨2, 2, fn73_a0, false⟩
/-! _law_next -/
def fn74_b0 : Ss := .cons (.asg (.tg (.name 1)) (.call 72 [] (.cons (.var 0) (.cons (.var 1) (.cons (.var 2) .nil))) .nil)) .nil
def fn74_a1 : Ss := .cons (.ret (.var 1)) .nil
def fn74_a0 : Ss := .cons (.for_ (.name 4) (.rng (.cons (.sub (.dct false (.cons (.k (.str ("forget" : Str))) (.k (.int 0)) (.cons (.k (.str ("keep" : Str))) (.k (.int 1)) (.cons (.k (.str ("twice" : Str))) (.k (.int 2)) .nil)))) (.var 3)) .nil)) fn74_b0) fn74_a1
def fn74 : Fn := ⟨4, 5, fn74_a0, false⟩
/-! _law_drawn_words -/
def fn75_b2 : Ss := .cons (.asg (.tg (.name 3)) (.bin .add (.var 3) (.tup (.cons (.var 6) .nil)))) .nil
def fn75_b1 : Ss := .cons (.asg (.tg (.name 4)) (.ite (.cmp .eq (.var 6) (.k (.str ("keep" : Str)))) (.bin .add (.var 4) (.k (.int 1))) (.k (.int 1)))) fn75_b2
def fn75_b0 : Ss := .cons (.asg (.tg (.name 6)) (.call 16 [] (.cons (.var 0) (.cons (.bin .add (.call 73 [] (.cons (.var 1) (.cons (.var 4) .nil)) .nil) (.slice (.call 73 [] (.cons (.var 1) (.cons (.var 4) .nil)) .nil) (.some (.k (.int 1))) .none)) .nil)) .nil)) fn75_b1
def fn75_a2 : Ss := .cons (.ret (.var 3)) .nil
def fn75_a1 : Ss := .cons (.for_ (.name 5) (.rng (.cons (.var 2) .nil)) fn75_b0) fn75_a2
def fn75_a0 : Ss := .cons (.par [3, 4] (.cons (.tup .nil) (.cons (.sub (.var 1) (.k (.int 4))) .nil))) fn75_a1
def fn75 : Fn := ⟨3, 7, fn75_a0, false⟩
/-! _law_way -/
def fn76_b0 : Ss := .cons (.expr (.bm .append (.var 3) (.cons (.call 74 [] (.cons (.var 0) (.cons (.sub (.var 3) (.neg (.k (.int 1)))) (.cons (.var 4) (.cons (.sub (.var 2) (.var 4)) .nil)))) .nil) .nil))) .nil
def fn76_a2 : Ss := .cons (.ret (.bi .tuple (.cons (.var 3) .nil))) .nil
def fn76_a1 : Ss := .cons (.for_ (.name 4) (.rng (.cons (.bi .len (.cons (.var 2) .nil)) .nil)) fn76_b0) fn76_a2
def fn76_a0 : Ss := .cons (.asg (.tg (.name 3)) (.lst true (.cons (.var 1) .nil))) fn76_a1
def fn76 : Fn := ⟨3, 5, fn76_a0, false⟩
/-! _law_is_row -/
def fn77_b0 : Ss := .cons (.ret (.k (.bl false))) .nil
def fn77_d0 : Ss := .cons (.ret (.k (.bl false))) .nil
def fn77_f0 : Ss := .cons (.ret (.k (.bl false))) .nil
def fn77_e1 : Ss := .cons (.asg (.tg (.name 2)) (.var 3)) .nil
def fn77_e0 : Ss := .cons (.ifs (.cmp .lt (.bin .sub (.var 3) (.var 2)) (.sub (.var 0) (.k (.int 4)))) fn77_f0 .nil) fn77_e1
def fn77_c1 : Ss := .cons (.ifs (.cmp .ne (.sub (.var 1) (.var 3)) (.k (.str ("keep" : Str)))) fn77_e0 .nil) .nil
def fn77_c0 : Ss := .cons (.ifs (.bop false (.cons (.not (.isi (.sub (.var 1) (.var 3)) (.b "str"))) (.cons (.cmp .notin (.sub (.var 1) (.var 3)) (.bin .add (.tup (.cons (.k (.str ("keep" : Str))) .nil)) (.sub (.var 0) (.k (.int 3))))) .nil))) fn77_d0 .nil) fn77_c1
def fn77_a3 : Ss := .cons (.ret (.k (.bl true))) .nil
def fn77_a2 : Ss := .cons (.for_ (.name 3) (.rng (.cons (.bi .len (.cons (.var 1) .nil)) .nil)) fn77_c0) fn77_a3
def fn77_a1 : Ss := .cons (.asg (.tg (.name 2)) (.bin .sub (.k (.int 0)) (.sub (.var 0) (.k (.int 4))))) fn77_a2
def fn77_a0 : Ss := .cons (.ifs (.not (.isi (.var 1) (.b "tuple"))) fn77_b0 .nil) fn77_a1
def fn77 : Fn := ⟨2, 4, fn77_a0, false⟩
/-! _law_right -/
def fn78_d0 : Ss := .cons (.ret (.k (.bl false))) .nil
def fn78_e0 : Ss := .cons (.ret (.k (.bl false))) .nil
def fn78_c4 : Ss := .cons (.ifs (.cmp .ne (.call 71 [] (.cons (.var 3) (.cons (.var 5) (.cons (.slice (.var 6) .none (.some (.var 8))) .nil))) .nil) (.slice (.var 7) .none (.some (.bin .add (.var 8) (.k (.int 1)))))) fn78_e0 .nil) .nil
def fn78_c3 : Ss := .cons (.ifs (.bop false (.cons (.cmp .ne (.bi .repr (.cons (.var 9) .nil)) (.bi .repr (.cons (.lst false (.cons (.var 7) (.cons (.var 7) .nil))) .nil))) (.cons (.not (.call 77 [] (.cons (.var 2) (.cons (.var 6) .nil)) .nil)) .nil))) fn78_d0 .nil) fn78_c4
def fn78_c2 : Ss := .cons (.asg (.tg (.name 9)) (.lst false (.cons (.call 71 [] (.cons (.var 3) (.cons (.var 5) (.cons (.var 6) .nil))) .nil) (.cons (.call 71 [("row" : Str), ("start" : Str), ("habit" : Str)] .nil (.cons (.var 6) (.cons (.var 5) (.cons (.var 3) .nil)))) .nil)))) fn78_c3
def fn78_c1 : Ss := .cons (.par [7, 8] (.cons (.call 76 [] (.cons (.var 2) (.cons (.var 5) (.cons (.var 6) .nil))) .nil) (.cons (.call 15 [] (.cons (.var 0) (.cons (.bin .add (.bi .len (.cons (.var 6) .nil)) (.k (.int 1))) .nil)) .nil) .nil))) fn78_c2
def fn78_c0 : Ss := .cons (.par [5, 6] (.cons (.call 15 [] (.cons (.var 0) (.cons (.sub (.var 2) (.k (.int 0))) .nil)) .nil) (.cons (.call 75 [] (.cons (.var 0) (.cons (.var 2) (.cons (.call 15 [] (.cons (.var 0) (.cons (.k (.int 21)) .nil)) .nil) .nil))) .nil) .nil))) fn78_c1
def fn78_b2 : Ss := .cons (.for_ (.name 4) (.rng (.cons (.k (.int 4)) .nil)) fn78_c0) .nil
def fn78_b1 : Ss := .cons (.asg (.tg (.name 3)) (.call 20 [] (.cons (.var 2) .nil) .nil)) fn78_b2
def fn78_b0 : Ss := .cons (.asg (.tg (.name 2)) (.call 19 [] (.cons (.var 0) (.cons (.k (.int 6)) (.cons (.k (.int 6)) .nil))) .nil)) fn78_b1
def fn78_a1 : Ss := .cons (.ret (.k (.bl true))) .nil
def fn78_a0 : Ss := .cons (.for_ (.name 1) (.rng (.cons (.k (.int 6)) .nil)) fn78_b0) fn78_a1
def fn78 : Fn := ⟨1, 10, fn78_a0, false⟩
/-! law -/
def fn79_x0 : E := .call 78 [] (.cons (.call 14 [] (.cons (.var 0) (.cons (.var 1) .nil)) .nil) .nil) .nil
def fn79_a0 : Ss := .cons (.ret (.bi .all (.cons (.comp false fn79_x0 [1] (.name 1) (.rng (.cons (.bi .max (.cons (.k (.int 2)) (.cons (.bi .min (.cons (.bi .len (.cons (.var 0) .nil)) (.cons (.k (.int 5)) .nil))) .nil))) .nil)) .none) .nil))) .nil
def fn79 : Fn := ⟨1, 2, fn79_a0, false⟩
end MP
end S_Fz
section S_Gk08
namespace Gk08
open PySem PySem.Spec PyProof.Rows L2 MP
def top (i : Nat) : Stmt := PySem.Challenge.pw_turnedevenly_k08_whole_walks.main.body.getD i (.Pass ⟨0, 0, 0, 0⟩)
def sub (s : Stmt) (i : Nat) : Stmt := match s with
  | .ClassDef _ _ _ b _ _ _ _ _ _ _ => b.getD i (.Pass ⟨0, 0, 0, 0⟩)
  | s => s
def propFn (K : PySem.W.Frag) (p : Addr) : Addr := match PySem.W.recIn K p "property" with
  | some (.ref f :: _) => f
  | _ => 0

def d1 : FD := ⟨1, fun K => He.ga K "is_whole", some ("is_whole" : Str), "is_whole", "is_whole", defArgs (top 21), defBody (top 21), defScope (top 21), [], [("value" : Str)], [("value" : Str)], fn1⟩
def d2 : FD := ⟨2, fun K => He.ga K "is_integer", some ("is_integer" : Str), "is_integer", "is_integer", defArgs (top 22), defBody (top 22), defScope (top 22), [], [("value" : Str), ("least" : Str), ("greatest" : Str)], [("value" : Str), ("least" : Str), ("greatest" : Str)], fn2⟩
def d3 : FD := ⟨3, fun K => He.ga K "is_name", some ("is_name" : Str), "is_name", "is_name", defArgs (top 23), defBody (top 23), defScope (top 23), [], [("value" : Str)], [("value" : Str), ("sign" : Str)], fn3⟩
def d4 : FD := ⟨4, fun K => He.ga K "is_tuple_of", some ("is_tuple_of" : Str), "is_tuple_of", "is_tuple_of", defArgs (top 24), defBody (top 24), defScope (top 24), [], [("value" : Str), ("many" : Str)], [("value" : Str), ("many" : Str)], fn4⟩
def d5 : FD := ⟨5, fun K => He.ga K "digit_of", some ("digit_of" : Str), "digit_of", "digit_of", defArgs (top 25), defBody (top 25), defScope (top 25), [], [("text" : Str)], [("text" : Str)], fn5⟩
def d6 : FD := ⟨6, fun K => He.ga K "is_turn", some ("is_turn" : Str), "is_turn", "is_turn", defArgs (top 28), defBody (top 28), defScope (top 28), [], [("value" : Str), ("size" : Str), ("names" : Str)], [("value" : Str), ("size" : Str), ("names" : Str), ("target" : Str)], fn6⟩
def d7 : FD := ⟨7, fun K => He.ga K "is_entry", some ("is_entry" : Str), "is_entry", "is_entry", defArgs (top 29), defBody (top 29), defScope (top 29), [], [("value" : Str), ("size" : Str), ("names" : Str)], [("value" : Str), ("size" : Str), ("names" : Str)], fn7⟩
def d8 : FD := ⟨8, fun K => He.ga K "check_turns", some ("check_turns" : Str), "check_turns", "check_turns", defArgs (top 30), defBody (top 30), defScope (top 30), [], [("size" : Str), ("value" : Str)], [("size" : Str), ("value" : Str), ("names" : Str), ("index" : Str), ("turn" : Str)], fn8⟩
def d9 : FD := ⟨9, fun K => He.ga K "check_calendar", some ("check_calendar" : Str), "check_calendar", "check_calendar", defArgs (top 31), defBody (top 31), defScope (top 31), [], [("size" : Str), ("names" : Str), ("value" : Str)], [("size" : Str), ("names" : Str), ("value" : Str), ("index" : Str), ("entry" : Str)], fn9⟩
def d10 : FD := ⟨10, fun K => He.ga K "are_slips", some ("are_slips" : Str), "are_slips", "are_slips", defArgs (top 32), defBody (top 32), defScope (top 32), [], [("value" : Str)], [("value" : Str), ("word" : Str)], fn10⟩
def d11 : FD := ⟨11, fun K => He.ga K "turn_of", some ("turn_of" : Str), "turn_of", "turn_of", defArgs (top 33), defBody (top 33), defScope (top 33), [], [("row" : Str)], [("row" : Str), ("words" : Str), ("word" : Str)], fn11⟩
def d12 : FD := ⟨12, fun K => He.ga K "entry_of", some ("entry_of" : Str), "entry_of", "entry_of", defArgs (top 34), defBody (top 34), defScope (top 34), [], [("word" : Str)], [("word" : Str), ("number" : Str)], fn12⟩
def d13 : FD := ⟨13, fun K => He.ga K "words_behind", some ("words_behind" : Str), "words_behind", "words_behind", defArgs (top 35), defBody (top 35), defScope (top 35), [], [("row" : Str), ("head" : Str)], [("row" : Str), ("head" : Str), ("words" : Str)], fn13⟩
def d40 : FD := ⟨40, fun K => He.ga K "check_habit", some ("check_habit" : Str), "check_habit", "check_habit", defArgs (top 37), defBody (top 37), defScope (top 37), [], [("value" : Str)], [("value" : Str)], fn40⟩
def d63 : FD := ⟨63, fun K => He.ga K "check_placement", some ("check_placement" : Str), "check_placement", "check_placement", defArgs (top 38), defBody (top 38), defScope (top 38), [], [("habit" : Str), ("value" : Str)], [("habit" : Str), ("value" : Str)], fn63⟩
def d41 : FD := ⟨41, fun K => He.ga K "image_of", some ("image_of" : Str), "image_of", "image_of", defArgs (top 39), defBody (top 39), defScope (top 39), [], [("habit" : Str), ("month" : Str)], [("habit" : Str), ("month" : Str), ("entry" : Str), ("name" : Str), ("image" : Str)], fn41⟩
def d64 : FD := ⟨64, fun K => He.ga K "words_at", some ("words_at" : Str), "words_at", "words_at", defArgs (top 43), defBody (top 43), defScope (top 43), [], [("habit" : Str), ("standing" : Str)], [("habit" : Str), ("standing" : Str)], fn64⟩
def d65 : FD := ⟨65, fun K => He.ga K "step", some ("step" : Str), "step", "step", defArgs (top 44), defBody (top 44), defScope (top 44), [], [("habit" : Str), ("standing" : Str), ("word" : Str)], [("habit" : Str), ("standing" : Str), ("word" : Str), ("placement" : Str), ("month" : Str), ("rest" : Str), ("image" : Str), ("turn" : Str)], fn65⟩
def d66 : FD := ⟨66, fun K => He.ga K "first_of", some ("first_of" : Str), "first_of", "first_of", defArgs (top 45), defBody (top 45), defScope (top 45), [], [("habit" : Str), ("placement" : Str)], [("habit" : Str), ("placement" : Str)], fn66⟩
def d67 : FD := ⟨67, fun K => He.ga K "way_of", some ("way_of" : Str), "way_of", "way_of", defArgs (top 46), defBody (top 46), defScope (top 46), [], [("habit" : Str), ("standing" : Str), ("row" : Str)], [("habit" : Str), ("standing" : Str), ("row" : Str), ("found" : Str), ("word" : Str)], fn67⟩
def d68 : FD := ⟨68, fun K => He.ga K "is_row", some ("is_row" : Str), "is_row", "is_row", defArgs (top 47), defBody (top 47), defScope (top 47), [], [("habit" : Str), ("value" : Str)], [("habit" : Str), ("value" : Str), ("word" : Str)], fn68⟩
def d69 : FD := ⟨69, fun K => He.ga K "check_row", some ("check_row" : Str), "check_row", "check_row", defArgs (top 48), defBody (top 48), defScope (top 48), [], [("habit" : Str), ("value" : Str)], [("habit" : Str), ("value" : Str)], fn69⟩
def d70 : FD := ⟨70, fun K => He.ga K "check_run", some ("check_run" : Str), "check_run", "check_run", defArgs (top 49), defBody (top 49), defScope (top 49), [], [("habit" : Str), ("start" : Str), ("row" : Str)], [("habit" : Str), ("start" : Str), ("row" : Str)], fn70⟩
def d71 : FD := ⟨71, fun K => He.ga K "walk", some ("walk" : Str), "walk", "walk", defArgs (top 50), defBody (top 50), defScope (top 50), [], [("habit" : Str), ("start" : Str), ("row" : Str)], [("habit" : Str), ("start" : Str), ("row" : Str), ("standing" : Str)], fn71⟩
def d14 : FD := ⟨14, fun K => He.ga K "_law_urn", some ("_law_urn" : Str), "_law_urn", "_law_urn", defArgs (top 52), defBody (top 52), defScope (top 52), [], [("_law_cells" : Str), ("_law_k" : Str)], [("_law_cells" : Str), ("_law_k" : Str), ("_law_cell" : Str), ("_law_mixed" : Str), ("_law_each" : Str)], fn14⟩
def d15 : FD := ⟨15, fun K => He.ga K "_law_take", some ("_law_take" : Str), "_law_take", "_law_take", defArgs (top 53), defBody (top 53), defScope (top 53), [], [("_law_urn_here" : Str), ("_law_many" : Str)], [("_law_urn_here" : Str), ("_law_many" : Str), ("_law_old" : Str), ("_law_digit" : Str)], fn15⟩
def d16 : FD := ⟨16, fun K => He.ga K "_law_of", some ("_law_of" : Str), "_law_of", "_law_of", defArgs (top 54), defBody (top 54), defScope (top 54), [], [("_law_urn_here" : Str), ("_law_things" : Str)], [("_law_urn_here" : Str), ("_law_things" : Str)], fn16⟩
def d17 : FD := ⟨17, fun K => He.ga K "_law_tags", some ("_law_tags" : Str), "_law_tags", "_law_tags", defArgs (top 55), defBody (top 55), defScope (top 55), [], [("_law_urn_here" : Str), ("_law_many" : Str)], [("_law_urn_here" : Str), ("_law_many" : Str), ("_law_menu" : Str), ("_law_begin" : Str), ("_law_k" : Str), ("_law_signs" : Str), ("_law_found" : Str), ("_law_tail" : Str), ("_law_turn" : Str)], fn17⟩
def d18 : FD := ⟨18, fun K => He.ga K "_law_image", some ("_law_image" : Str), "_law_image", "_law_image", defArgs (top 56), defBody (top 56), defScope (top 56), [], [("_law_urn_here" : Str), ("_law_size" : Str)], [("_law_urn_here" : Str), ("_law_size" : Str), ("_law_found" : Str), ("_law_k" : Str)], fn18⟩
def d19 : FD := ⟨19, fun K => He.ga K "_law_parts", some ("_law_parts" : Str), "_law_parts", "_law_parts", defArgs (top 57), defBody (top 57), defScope (top 57), [], [("_law_urn_here" : Str), ("_law_most" : Str), ("_law_entries_most" : Str)], [("_law_urn_here" : Str), ("_law_most" : Str), ("_law_entries_most" : Str), ("_law_size" : Str), ("_law_tags_here" : Str), ("_law_turns_here" : Str), ("_law_tag" : Str), ("_law_entries" : Str), ("_law_k" : Str), ("_law_slips_here" : Str)], fn19⟩
def d20 : FD := ⟨20, fun K => He.ga K "_law_made", some ("_law_made" : Str), "_law_made", "_law_made", defArgs (top 58), defBody (top 58), defScope (top 58), [], [("_law_parts_here" : Str)], [("_law_parts_here" : Str)], fn20⟩
def d72 : FD := ⟨72, fun K => He.ga K "_law_laid", some ("_law_laid" : Str), "_law_laid", "_law_laid", defArgs (top 59), defBody (top 59), defScope (top 59), [], [("_law_parts_here" : Str), ("_law_spot" : Str), ("_law_month" : Str)], [("_law_parts_here" : Str), ("_law_spot" : Str), ("_law_month" : Str), ("_law_entry" : Str)], fn72⟩
def d73 : FD := ⟨73, fun K => He.ga K "_law_let", some ("_law_let" : Str), "_law_let", "_law_let", defArgs (top 60), defBody (top 60), defScope (top 60), [], [("_law_parts_here" : Str), ("_law_rest" : Str)], [("_law_parts_here" : Str), ("_law_rest" : Str)], fn73⟩
def d74 : FD := ⟨74, fun K => He.ga K "_law_next", some ("_law_next" : Str), "_law_next", "_law_next", defArgs (top 61), defBody (top 61), defScope (top 61), [], [("_law_parts_here" : Str), ("_law_spot" : Str), ("_law_month" : Str), ("_law_word" : Str)], [("_law_parts_here" : Str), ("_law_spot" : Str), ("_law_month" : Str), ("_law_word" : Str), ("_law_turn" : Str)], fn74⟩
def d75 : FD := ⟨75, fun K => He.ga K "_law_drawn_words", some ("_law_drawn_words" : Str), "_law_drawn_words", "_law_drawn_words", defArgs (top 62), defBody (top 62), defScope (top 62), [], [("_law_urn_here" : Str), ("_law_parts_here" : Str), ("_law_many" : Str)], [("_law_urn_here" : Str), ("_law_parts_here" : Str), ("_law_many" : Str), ("_law_found" : Str), ("_law_rest" : Str), ("_law_turn" : Str), ("_law_word" : Str)], fn75⟩
def d76 : FD := ⟨76, fun K => He.ga K "_law_way", some ("_law_way" : Str), "_law_way", "_law_way", defArgs (top 63), defBody (top 63), defScope (top 63), [], [("_law_parts_here" : Str), ("_law_spot" : Str), ("_law_words_here" : Str)], [("_law_parts_here" : Str), ("_law_spot" : Str), ("_law_words_here" : Str), ("_law_found" : Str), ("_law_k" : Str)], fn76⟩
def d77 : FD := ⟨77, fun K => He.ga K "_law_is_row", some ("_law_is_row" : Str), "_law_is_row", "_law_is_row", defArgs (top 64), defBody (top 64), defScope (top 64), [], [("_law_parts_here" : Str), ("_law_thing" : Str)], [("_law_parts_here" : Str), ("_law_thing" : Str), ("_law_last" : Str), ("_law_k" : Str)], fn77⟩
def d78 : FD := ⟨78, fun K => He.ga K "_law_right", some ("_law_right" : Str), "_law_right", "_law_right", defArgs (top 65), defBody (top 65), defScope (top 65), [], [("_law_urn_here" : Str)], [("_law_urn_here" : Str), ("_law_lap" : Str), ("_law_parts_here" : Str), ("_law_here" : Str), ("_law_turn" : Str), ("_law_spot" : Str), ("_law_words_here" : Str), ("_law_due" : Str), ("_law_cut" : Str), ("_law_came" : Str)], fn78⟩
def d79 : FD := ⟨79, fun K => He.ga K "law", some ("law" : Str), "law", "law", defArgs (top 66), defBody (top 66), defScope (top 66), [], [("_law_cells" : Str)], [("_law_cells" : Str), ("_law_k" : Str)], fn79⟩
def d24 : FD := ⟨24, fun K => He.ma K (He.ga K "Habit") "__init__", none, "__init__", "Habit.__init__", defArgs (sub (top 36) 0), defBody (sub (top 36) 0), defScope (sub (top 36) 0), [.adr (He.dflAt ("Habit", some "__init__") 0), .int 1], [("self" : Str), ("size" : Str), ("turns" : Str), ("calendar" : Str), ("slips" : Str), ("gap" : Str)], [("self" : Str), ("size" : Str), ("turns" : Str), ("calendar" : Str), ("slips" : Str), ("gap" : Str), ("turn" : Str)], fn24⟩
def d25 : FD := ⟨25, fun K => He.ma K (He.ga K "Habit") "__len__", none, "__len__", "Habit.__len__", defArgs (sub (top 36) 7), defBody (sub (top 36) 7), defScope (sub (top 36) 7), [], [("self" : Str)], [("self" : Str)], fn25⟩
def d26 : FD := ⟨26, fun K => He.ma K (He.ga K "Habit") "__bool__", none, "__bool__", "Habit.__bool__", defArgs (sub (top 36) 8), defBody (sub (top 36) 8), defScope (sub (top 36) 8), [], [("self" : Str)], [("self" : Str)], fn26⟩
def d27 : FD := ⟨27, fun K => He.ma K (He.ga K "Habit") "__str__", none, "__str__", "Habit.__str__", defArgs (sub (top 36) 10), defBody (sub (top 36) 10), defScope (sub (top 36) 10), [], [("self" : Str)], [("self" : Str), ("rows" : Str), ("target" : Str), ("name" : Str), ("image" : Str), ("calendar" : Str), ("entry" : Str), ("slips" : Str)], fn27⟩
def d28 : FD := ⟨28, fun K => He.ma K (He.ga K "Habit") "__eq__", none, "__eq__", "Habit.__eq__", defArgs (sub (top 36) 11), defBody (sub (top 36) 11), defScope (sub (top 36) 11), [], [("self" : Str), ("other" : Str)], [("self" : Str), ("other" : Str)], fn28⟩
def d29 : FD := ⟨29, fun K => propFn K (He.ma K (He.ga K "Habit") "size"), none, "size", "Habit.size", defArgs (sub (top 36) 2), defBody (sub (top 36) 2), defScope (sub (top 36) 2), [], [("self" : Str)], [("self" : Str)], fn29⟩
def d30 : FD := ⟨30, fun K => propFn K (He.ma K (He.ga K "Habit") "turns"), none, "turns", "Habit.turns", defArgs (sub (top 36) 3), defBody (sub (top 36) 3), defScope (sub (top 36) 3), [], [("self" : Str)], [("self" : Str)], fn30⟩
def d31 : FD := ⟨31, fun K => propFn K (He.ma K (He.ga K "Habit") "calendar"), none, "calendar", "Habit.calendar", defArgs (sub (top 36) 4), defBody (sub (top 36) 4), defScope (sub (top 36) 4), [], [("self" : Str)], [("self" : Str)], fn31⟩
def d32 : FD := ⟨32, fun K => propFn K (He.ma K (He.ga K "Habit") "slips"), none, "slips", "Habit.slips", defArgs (sub (top 36) 5), defBody (sub (top 36) 5), defScope (sub (top 36) 5), [], [("self" : Str)], [("self" : Str)], fn32⟩
def d33 : FD := ⟨33, fun K => propFn K (He.ma K (He.ga K "Habit") "gap"), none, "gap", "Habit.gap", defArgs (sub (top 36) 6), defBody (sub (top 36) 6), defScope (sub (top 36) 6), [], [("self" : Str)], [("self" : Str)], fn33⟩
def d60 : FD := ⟨60, fun K => cmFn K (He.ma K (He.ga K "Habit") "read"), none, "read", "Habit.read", defArgs (sub (top 36) 1), defBody (sub (top 36) 1), defScope (sub (top 36) 1), [], [("cls" : Str), ("text" : Str)], [("cls" : Str), ("text" : Str), ("rows" : Str), ("heads" : Str), ("turns" : Str), ("row" : Str), ("calendar" : Str), ("word" : Str), ("habit" : Str)], fn60⟩
def c1 : CD := ⟨1, "Habit", [("held_size" : Str), ("held_turns" : Str), ("held_calendar" : Str), ("held_slips" : Str), ("held_gap" : Str)], some ⟨24, false⟩, [(("size" : Str), 29), (("turns" : Str), 30), (("calendar" : Str), 31), (("slips" : Str), 32), (("gap" : Str), 33)], [], [(("read" : Str), 60)], some 25, some 27, some 26, some 28⟩
def c100 : CD := ⟨100, "BadValue", [], none, [], [], [], none, none, none, none⟩
def pd : PD := ⟨[d1, d2, d3, d4, d5, d6, d7, d8, d9, d10, d11, d12, d13, d40, d63, d41, d64, d65, d66, d67, d68, d69, d70, d71, d14, d15, d16, d17, d18, d19, d20, d72, d73, d74, d75, d76, d77, d78, d79, d24, d25, d26, d27, d28, d29, d30, d31, d32, d33, d60], [c1, c100],
  [(("MOST_SIZE" : Str), 6), (("MOST_TURNS" : Str), 4), (("MOST_ENTRIES" : Str), 6), (("MOST_GAP" : Str), 6), (("MOST_ROW" : Str), 10000), (("LONGEST_NAME" : Str), 8)],
  [(("LETTERS" : Str), ("abcdefghijklmnopqrstuvwxyz" : Str)), (("DIGITS" : Str), ("0123456789" : Str)), (("KEEP" : Str), ("keep" : Str))],
  [(("SLIPS" : Str), [(.tup []), (.tup [(.str ("forget" : Str))]), (.tup [(.str ("forget" : Str)), (.str ("twice" : Str))]), (.tup [(.str ("twice" : Str))])])],
  [(("TIMES" : Str), [(("forget" : Str), 0), (("keep" : Str), 1), (("twice" : Str), 2)])],
  [("len" : Str), ("abs" : Str), ("min" : Str), ("max" : Str), ("int" : Str), ("str" : Str), ("bool" : Str), ("tuple" : Str), ("all" : Str), ("divmod" : Str), ("repr" : Str), ("dict" : Str), ("list" : Str), ("sorted" : Str), ("range" : Str), ("enumerate" : Str), ("isinstance" : Str)],
  [((1, 1, []), plainSh 1), ((4, 2, []), plainSh 2), ((3, 1, []), plainSh 1), ((2, 3, []), plainSh 3), ((6, 3, []), plainSh 3), ((7, 3, []), plainSh 3), ((5, 1, []), plainSh 1), ((41, 2, []), plainSh 2), ((64, 2, []), plainSh 2), ((65, 3, []), plainSh 3), ((67, 3, []), plainSh 3), ((66, 2, []), plainSh 2), ((68, 2, []), plainSh 2), ((40, 1, []), plainSh 1), ((63, 2, []), plainSh 2), ((69, 2, []), plainSh 2), ((70, 3, []), plainSh 3), ((15, 2, []), plainSh 2), ((17, 2, []), plainSh 2), ((18, 2, []), plainSh 2), ((16, 2, []), plainSh 2), ((24, 6, []), plainSh 6), ((72, 3, []), plainSh 3), ((73, 2, []), plainSh 2), ((74, 4, []), plainSh 4), ((19, 3, []), plainSh 3), ((20, 1, []), plainSh 1), ((75, 3, []), plainSh 3), ((76, 3, []), plainSh 3), ((71, 0, [("row" : Str), ("start" : Str), ("habit" : Str)]), [.inl 2, .inl 1, .inl 0]), ((71, 3, []), plainSh 3), ((77, 2, []), plainSh 2), ((78, 1, []), plainSh 1), ((14, 2, []), plainSh 2), ((8, 2, []), plainSh 2), ((9, 3, []), plainSh 3), ((10, 1, []), plainSh 1), ((13, 2, []), plainSh 2), ((11, 1, []), plainSh 1), ((12, 1, []), plainSh 1)],
  [((.b "NoneType", .own 1), false), ((.b "bool", .own 1), false), ((.b "int", .own 1), false), ((.b "str", .own 1), false), ((.b "tuple", .own 1), false), ((.b "list", .own 1), false), ((.own 1, .own 1), true), ((.b "NoneType", .b "bool"), false), ((.b "bool", .b "bool"), true), ((.b "int", .b "bool"), false), ((.b "str", .b "bool"), false), ((.b "tuple", .b "bool"), false), ((.b "list", .b "bool"), false), ((.own 1, .b "bool"), false), ((.b "NoneType", .b "int"), false), ((.b "bool", .b "int"), true), ((.b "int", .b "int"), true), ((.b "str", .b "int"), false), ((.b "tuple", .b "int"), false), ((.b "list", .b "int"), false), ((.own 1, .b "int"), false), ((.b "NoneType", .b "str"), false), ((.b "bool", .b "str"), false), ((.b "int", .b "str"), false), ((.b "str", .b "str"), true), ((.b "tuple", .b "str"), false), ((.b "list", .b "str"), false), ((.own 1, .b "str"), false), ((.b "NoneType", .b "tuple"), false), ((.b "bool", .b "tuple"), false), ((.b "int", .b "tuple"), false), ((.b "str", .b "tuple"), false), ((.b "tuple", .b "tuple"), true), ((.b "list", .b "tuple"), false), ((.own 1, .b "tuple"), false)],
  [.b "NoneType", .b "bool", .b "int", .b "str", .b "tuple", .b "list", .own 1]⟩
theorem sB : pd.sB = true := by kernel_rfl
theorem ck1 : chkSs pd.tab pd.nm d1.F.body ⟨d1.N, d1.scope, fun _ => true⟩ d1.body = true := by kernel_rfl
theorem ck2 : chkSs pd.tab pd.nm d2.F.body ⟨d2.N, d2.scope, fun _ => true⟩ d2.body = true := by kernel_rfl
theorem ck3 : chkSs pd.tab pd.nm d3.F.body ⟨d3.N, d3.scope, fun _ => true⟩ d3.body = true := by kernel_rfl
theorem ck4 : chkSs pd.tab pd.nm d4.F.body ⟨d4.N, d4.scope, fun _ => true⟩ d4.body = true := by kernel_rfl
theorem ck5 : chkSs pd.tab pd.nm d5.F.body ⟨d5.N, d5.scope, fun _ => true⟩ d5.body = true := by kernel_rfl
theorem ck6 : chkSs pd.tab pd.nm d6.F.body ⟨d6.N, d6.scope, fun _ => true⟩ d6.body = true := by kernel_rfl
theorem ck7 : chkSs pd.tab pd.nm d7.F.body ⟨d7.N, d7.scope, fun _ => true⟩ d7.body = true := by kernel_rfl
theorem ck8 : chkSs pd.tab pd.nm d8.F.body ⟨d8.N, d8.scope, fun _ => true⟩ d8.body = true := by kernel_rfl
theorem ck9 : chkSs pd.tab pd.nm d9.F.body ⟨d9.N, d9.scope, fun _ => true⟩ d9.body = true := by kernel_rfl
theorem ck10 : chkSs pd.tab pd.nm d10.F.body ⟨d10.N, d10.scope, fun _ => true⟩ d10.body = true := by kernel_rfl
theorem ck11 : chkSs pd.tab pd.nm d11.F.body ⟨d11.N, d11.scope, fun _ => true⟩ d11.body = true := by kernel_rfl
theorem ck12 : chkSs pd.tab pd.nm d12.F.body ⟨d12.N, d12.scope, fun _ => true⟩ d12.body = true := by kernel_rfl
theorem ck13 : chkSs pd.tab pd.nm d13.F.body ⟨d13.N, d13.scope, fun _ => true⟩ d13.body = true := by kernel_rfl
theorem ck40 : chkSs pd.tab pd.nm d40.F.body ⟨d40.N, d40.scope, fun _ => true⟩ d40.body = true := by kernel_rfl
theorem ck63 : chkSs pd.tab pd.nm d63.F.body ⟨d63.N, d63.scope, fun _ => true⟩ d63.body = true := by kernel_rfl
theorem ck41 : chkSs pd.tab pd.nm d41.F.body ⟨d41.N, d41.scope, fun _ => true⟩ d41.body = true := by kernel_rfl
theorem ck64 : chkSs pd.tab pd.nm d64.F.body ⟨d64.N, d64.scope, fun _ => true⟩ d64.body = true := by kernel_rfl
theorem ck65 : chkSs pd.tab pd.nm d65.F.body ⟨d65.N, d65.scope, fun _ => true⟩ d65.body = true := by kernel_rfl
theorem ck66 : chkSs pd.tab pd.nm d66.F.body ⟨d66.N, d66.scope, fun _ => true⟩ d66.body = true := by kernel_rfl
theorem ck67 : chkSs pd.tab pd.nm d67.F.body ⟨d67.N, d67.scope, fun _ => true⟩ d67.body = true := by kernel_rfl
theorem ck68 : chkSs pd.tab pd.nm d68.F.body ⟨d68.N, d68.scope, fun _ => true⟩ d68.body = true := by kernel_rfl
theorem ck69 : chkSs pd.tab pd.nm d69.F.body ⟨d69.N, d69.scope, fun _ => true⟩ d69.body = true := by kernel_rfl
theorem ck70 : chkSs pd.tab pd.nm d70.F.body ⟨d70.N, d70.scope, fun _ => true⟩ d70.body = true := by kernel_rfl
theorem ck71 : chkSs pd.tab pd.nm d71.F.body ⟨d71.N, d71.scope, fun _ => true⟩ d71.body = true := by kernel_rfl
theorem ck14 : chkSs pd.tab pd.nm d14.F.body ⟨d14.N, d14.scope, fun _ => true⟩ d14.body = true := by kernel_rfl
theorem ck15 : chkSs pd.tab pd.nm d15.F.body ⟨d15.N, d15.scope, fun _ => true⟩ d15.body = true := by kernel_rfl
theorem ck16 : chkSs pd.tab pd.nm d16.F.body ⟨d16.N, d16.scope, fun _ => true⟩ d16.body = true := by kernel_rfl
theorem ck17 : chkSs pd.tab pd.nm d17.F.body ⟨d17.N, d17.scope, fun _ => true⟩ d17.body = true := by kernel_rfl
theorem ck18 : chkSs pd.tab pd.nm d18.F.body ⟨d18.N, d18.scope, fun _ => true⟩ d18.body = true := by kernel_rfl
theorem ck19 : chkSs pd.tab pd.nm d19.F.body ⟨d19.N, d19.scope, fun _ => true⟩ d19.body = true := by kernel_rfl
theorem ck20 : chkSs pd.tab pd.nm d20.F.body ⟨d20.N, d20.scope, fun _ => true⟩ d20.body = true := by kernel_rfl
theorem ck72 : chkSs pd.tab pd.nm d72.F.body ⟨d72.N, d72.scope, fun _ => true⟩ d72.body = true := by kernel_rfl
theorem ck73 : chkSs pd.tab pd.nm d73.F.body ⟨d73.N, d73.scope, fun _ => true⟩ d73.body = true := by kernel_rfl
theorem ck74 : chkSs pd.tab pd.nm d74.F.body ⟨d74.N, d74.scope, fun _ => true⟩ d74.body = true := by kernel_rfl
theorem ck75 : chkSs pd.tab pd.nm d75.F.body ⟨d75.N, d75.scope, fun _ => true⟩ d75.body = true := by kernel_rfl
theorem ck76 : chkSs pd.tab pd.nm d76.F.body ⟨d76.N, d76.scope, fun _ => true⟩ d76.body = true := by kernel_rfl
theorem ck77 : chkSs pd.tab pd.nm d77.F.body ⟨d77.N, d77.scope, fun _ => true⟩ d77.body = true := by kernel_rfl
theorem ck78 : chkSs pd.tab pd.nm d78.F.body ⟨d78.N, d78.scope, fun _ => true⟩ d78.body = true := by kernel_rfl
theorem ck79 : chkSs pd.tab pd.nm d79.F.body ⟨d79.N, d79.scope, fun _ => true⟩ d79.body = true := by kernel_rfl
theorem ck24 : chkSs pd.tab pd.nm d24.F.body ⟨d24.N, d24.scope, fun _ => true⟩ d24.body = true := by kernel_rfl
theorem ck25 : chkSs pd.tab pd.nm d25.F.body ⟨d25.N, d25.scope, fun _ => true⟩ d25.body = true := by kernel_rfl
theorem ck26 : chkSs pd.tab pd.nm d26.F.body ⟨d26.N, d26.scope, fun _ => true⟩ d26.body = true := by kernel_rfl
theorem ck27 : chkSs pd.tab pd.nm d27.F.body ⟨d27.N, d27.scope, fun _ => true⟩ d27.body = true := by kernel_rfl
theorem ck28 : chkSs pd.tab pd.nm d28.F.body ⟨d28.N, d28.scope, fun _ => true⟩ d28.body = true := by kernel_rfl
theorem ck29 : chkSs pd.tab pd.nm d29.F.body ⟨d29.N, d29.scope, fun _ => true⟩ d29.body = true := by kernel_rfl
theorem ck30 : chkSs pd.tab pd.nm d30.F.body ⟨d30.N, d30.scope, fun _ => true⟩ d30.body = true := by kernel_rfl
theorem ck31 : chkSs pd.tab pd.nm d31.F.body ⟨d31.N, d31.scope, fun _ => true⟩ d31.body = true := by kernel_rfl
theorem ck32 : chkSs pd.tab pd.nm d32.F.body ⟨d32.N, d32.scope, fun _ => true⟩ d32.body = true := by kernel_rfl
theorem ck33 : chkSs pd.tab pd.nm d33.F.body ⟨d33.N, d33.scope, fun _ => true⟩ d33.body = true := by kernel_rfl
theorem ck60 : chkSs pd.tab pd.nm d60.F.body ⟨d60.N, d60.scope, fun _ => true⟩ d60.body = true := by kernel_rfl
theorem hc : ∀ d ∈ pd.fns, chkSs pd.tab pd.nm d.F.body ⟨d.N, d.scope, fun _ => true⟩ d.body = true := EachP.mem (show EachP (fun d : FD => chkSs pd.tab pd.nm d.F.body ⟨d.N, d.scope, fun _ => true⟩ d.body = true) (d1 :: d2 :: d3 :: d4 :: d5 :: d6 :: d7 :: d8 :: d9 :: d10 :: d11 :: d12 :: d13 :: d40 :: d63 :: d41 :: d64 :: d65 :: d66 :: d67 :: d68 :: d69 :: d70 :: d71 :: d14 :: d15 :: d16 :: d17 :: d18 :: d19 :: d20 :: d72 :: d73 :: d74 :: d75 :: d76 :: d77 :: d78 :: d79 :: d24 :: d25 :: d26 :: d27 :: d28 :: d29 :: d30 :: d31 :: d32 :: d33 :: d60 :: []) from ⟨ck1, ck2, ck3, ck4, ck5, ck6, ck7, ck8, ck9, ck10, ck11, ck12, ck13, ck40, ck63, ck41, ck64, ck65, ck66, ck67, ck68, ck69, ck70, ck71, ck14, ck15, ck16, ck17, ck18, ck19, ck20, ck72, ck73, ck74, ck75, ck76, ck77, ck78, ck79, ck24, ck25, ck26, ck27, ck28, ck29, ck30, ck31, ck32, ck33, ck60, trivial⟩)
theorem bn1 {K : PySem.W.Frag} (F : FunOf K d1) : Binds K (fdOf K (d1.pa K)) d1.ps [] := FunD.bindsN F fun _ _ _ _ _ _ us hl => match us, hl with | [_], _ => rfl
theorem bn3 {K : PySem.W.Frag} (F : FunOf K d3) : Binds K (fdOf K (d3.pa K)) d3.ps [] := FunD.bindsN F fun _ _ _ _ _ _ us hl => match us, hl with | [_], _ => rfl
theorem bn4 {K : PySem.W.Frag} (F : FunOf K d4) : Binds K (fdOf K (d4.pa K)) d4.ps [] := FunD.bindsN F fun _ _ _ _ _ _ us hl => match us, hl with | [_, _], _ => rfl
theorem bn5 {K : PySem.W.Frag} (F : FunOf K d5) : Binds K (fdOf K (d5.pa K)) d5.ps [] := FunD.bindsN F fun _ _ _ _ _ _ us hl => match us, hl with | [_], _ => rfl
theorem bn8 {K : PySem.W.Frag} (F : FunOf K d8) : Binds K (fdOf K (d8.pa K)) d8.ps [] := FunD.bindsN F fun _ _ _ _ _ _ us hl => match us, hl with | [_, _], _ => rfl
theorem bn10 {K : PySem.W.Frag} (F : FunOf K d10) : Binds K (fdOf K (d10.pa K)) d10.ps [] := FunD.bindsN F fun _ _ _ _ _ _ us hl => match us, hl with | [_], _ => rfl
theorem bn11 {K : PySem.W.Frag} (F : FunOf K d11) : Binds K (fdOf K (d11.pa K)) d11.ps [] := FunD.bindsN F fun _ _ _ _ _ _ us hl => match us, hl with | [_], _ => rfl
theorem bn12 {K : PySem.W.Frag} (F : FunOf K d12) : Binds K (fdOf K (d12.pa K)) d12.ps [] := FunD.bindsN F fun _ _ _ _ _ _ us hl => match us, hl with | [_], _ => rfl
theorem bn13 {K : PySem.W.Frag} (F : FunOf K d13) : Binds K (fdOf K (d13.pa K)) d13.ps [] := FunD.bindsN F fun _ _ _ _ _ _ us hl => match us, hl with | [_, _], _ => rfl
theorem bn40 {K : PySem.W.Frag} (F : FunOf K d40) : Binds K (fdOf K (d40.pa K)) d40.ps [] := FunD.bindsN F fun _ _ _ _ _ _ us hl => match us, hl with | [_], _ => rfl
theorem bn63 {K : PySem.W.Frag} (F : FunOf K d63) : Binds K (fdOf K (d63.pa K)) d63.ps [] := FunD.bindsN F fun _ _ _ _ _ _ us hl => match us, hl with | [_, _], _ => rfl
theorem bn41 {K : PySem.W.Frag} (F : FunOf K d41) : Binds K (fdOf K (d41.pa K)) d41.ps [] := FunD.bindsN F fun _ _ _ _ _ _ us hl => match us, hl with | [_, _], _ => rfl
theorem bn64 {K : PySem.W.Frag} (F : FunOf K d64) : Binds K (fdOf K (d64.pa K)) d64.ps [] := FunD.bindsN F fun _ _ _ _ _ _ us hl => match us, hl with | [_, _], _ => rfl
theorem bn66 {K : PySem.W.Frag} (F : FunOf K d66) : Binds K (fdOf K (d66.pa K)) d66.ps [] := FunD.bindsN F fun _ _ _ _ _ _ us hl => match us, hl with | [_, _], _ => rfl
theorem bn68 {K : PySem.W.Frag} (F : FunOf K d68) : Binds K (fdOf K (d68.pa K)) d68.ps [] := FunD.bindsN F fun _ _ _ _ _ _ us hl => match us, hl with | [_, _], _ => rfl
theorem bn69 {K : PySem.W.Frag} (F : FunOf K d69) : Binds K (fdOf K (d69.pa K)) d69.ps [] := FunD.bindsN F fun _ _ _ _ _ _ us hl => match us, hl with | [_, _], _ => rfl
theorem bn14 {K : PySem.W.Frag} (F : FunOf K d14) : Binds K (fdOf K (d14.pa K)) d14.ps [] := FunD.bindsN F fun _ _ _ _ _ _ us hl => match us, hl with | [_, _], _ => rfl
theorem bn15 {K : PySem.W.Frag} (F : FunOf K d15) : Binds K (fdOf K (d15.pa K)) d15.ps [] := FunD.bindsN F fun _ _ _ _ _ _ us hl => match us, hl with | [_, _], _ => rfl
theorem bn16 {K : PySem.W.Frag} (F : FunOf K d16) : Binds K (fdOf K (d16.pa K)) d16.ps [] := FunD.bindsN F fun _ _ _ _ _ _ us hl => match us, hl with | [_, _], _ => rfl
theorem bn17 {K : PySem.W.Frag} (F : FunOf K d17) : Binds K (fdOf K (d17.pa K)) d17.ps [] := FunD.bindsN F fun _ _ _ _ _ _ us hl => match us, hl with | [_, _], _ => rfl
theorem bn18 {K : PySem.W.Frag} (F : FunOf K d18) : Binds K (fdOf K (d18.pa K)) d18.ps [] := FunD.bindsN F fun _ _ _ _ _ _ us hl => match us, hl with | [_, _], _ => rfl
theorem bn20 {K : PySem.W.Frag} (F : FunOf K d20) : Binds K (fdOf K (d20.pa K)) d20.ps [] := FunD.bindsN F fun _ _ _ _ _ _ us hl => match us, hl with | [_], _ => rfl
theorem bn73 {K : PySem.W.Frag} (F : FunOf K d73) : Binds K (fdOf K (d73.pa K)) d73.ps [] := FunD.bindsN F fun _ _ _ _ _ _ us hl => match us, hl with | [_, _], _ => rfl
theorem bn77 {K : PySem.W.Frag} (F : FunOf K d77) : Binds K (fdOf K (d77.pa K)) d77.ps [] := FunD.bindsN F fun _ _ _ _ _ _ us hl => match us, hl with | [_, _], _ => rfl
theorem bn78 {K : PySem.W.Frag} (F : FunOf K d78) : Binds K (fdOf K (d78.pa K)) d78.ps [] := FunD.bindsN F fun _ _ _ _ _ _ us hl => match us, hl with | [_], _ => rfl
theorem bn79 {K : PySem.W.Frag} (F : FunOf K d79) : Binds K (fdOf K (d79.pa K)) d79.ps [] := FunD.bindsN F fun _ _ _ _ _ _ us hl => match us, hl with | [_], _ => rfl
theorem bn25 {K : PySem.W.Frag} (F : FunOf K d25) : Binds K (fdOf K (d25.pa K)) d25.ps [] := FunD.bindsN F fun _ _ _ _ _ _ us hl => match us, hl with | [_], _ => rfl
theorem bn26 {K : PySem.W.Frag} (F : FunOf K d26) : Binds K (fdOf K (d26.pa K)) d26.ps [] := FunD.bindsN F fun _ _ _ _ _ _ us hl => match us, hl with | [_], _ => rfl
theorem bn27 {K : PySem.W.Frag} (F : FunOf K d27) : Binds K (fdOf K (d27.pa K)) d27.ps [] := FunD.bindsN F fun _ _ _ _ _ _ us hl => match us, hl with | [_], _ => rfl
theorem bn28 {K : PySem.W.Frag} (F : FunOf K d28) : Binds K (fdOf K (d28.pa K)) d28.ps [] := FunD.bindsN F fun _ _ _ _ _ _ us hl => match us, hl with | [_, _], _ => rfl
theorem bn29 {K : PySem.W.Frag} (F : FunOf K d29) : Binds K (fdOf K (d29.pa K)) d29.ps [] := FunD.bindsN F fun _ _ _ _ _ _ us hl => match us, hl with | [_], _ => rfl
theorem bn30 {K : PySem.W.Frag} (F : FunOf K d30) : Binds K (fdOf K (d30.pa K)) d30.ps [] := FunD.bindsN F fun _ _ _ _ _ _ us hl => match us, hl with | [_], _ => rfl
theorem bn31 {K : PySem.W.Frag} (F : FunOf K d31) : Binds K (fdOf K (d31.pa K)) d31.ps [] := FunD.bindsN F fun _ _ _ _ _ _ us hl => match us, hl with | [_], _ => rfl
theorem bn32 {K : PySem.W.Frag} (F : FunOf K d32) : Binds K (fdOf K (d32.pa K)) d32.ps [] := FunD.bindsN F fun _ _ _ _ _ _ us hl => match us, hl with | [_], _ => rfl
theorem bn33 {K : PySem.W.Frag} (F : FunOf K d33) : Binds K (fdOf K (d33.pa K)) d33.ps [] := FunD.bindsN F fun _ _ _ _ _ _ us hl => match us, hl with | [_], _ => rfl
theorem bn60 {K : PySem.W.Frag} (F : FunOf K d60) : Binds K (fdOf K (d60.pa K)) d60.ps [] := FunD.bindsN F fun _ _ _ _ _ _ us hl => match us, hl with | [_, _], _ => rfl
theorem hb1 (K : PySem.W.Frag) : ∀ d ∈ pd.fns, (d.ps.length = 1 ∨ d.ps.length = 2) → d.dfl = [] ∧ (FunOf K d → Binds K (fdOf K (d.pa K)) d.ps []) := EachP.mem (show EachP (fun d : FD => (d.ps.length = 1 ∨ d.ps.length = 2) → d.dfl = [] ∧ (FunOf K d → Binds K (fdOf K (d.pa K)) d.ps [])) (d1 :: d2 :: d3 :: d4 :: d5 :: d6 :: d7 :: d8 :: d9 :: d10 :: d11 :: d12 :: d13 :: d40 :: d63 :: d41 :: d64 :: d65 :: d66 :: d67 :: d68 :: d69 :: d70 :: d71 :: d14 :: d15 :: d16 :: d17 :: d18 :: d19 :: d20 :: d72 :: d73 :: d74 :: d75 :: d76 :: d77 :: d78 :: d79 :: d24 :: d25 :: d26 :: d27 :: d28 :: d29 :: d30 :: d31 :: d32 :: d33 :: d60 :: []) from ⟨fun _ => ⟨rfl, bn1⟩, fun h => absurd h (by decide), fun _ => ⟨rfl, bn3⟩, fun _ => ⟨rfl, bn4⟩, fun _ => ⟨rfl, bn5⟩, fun h => absurd h (by decide), fun h => absurd h (by decide), fun _ => ⟨rfl, bn8⟩, fun h => absurd h (by decide), fun _ => ⟨rfl, bn10⟩, fun _ => ⟨rfl, bn11⟩, fun _ => ⟨rfl, bn12⟩, fun _ => ⟨rfl, bn13⟩, fun _ => ⟨rfl, bn40⟩, fun _ => ⟨rfl, bn63⟩, fun _ => ⟨rfl, bn41⟩, fun _ => ⟨rfl, bn64⟩, fun h => absurd h (by decide), fun _ => ⟨rfl, bn66⟩, fun h => absurd h (by decide), fun _ => ⟨rfl, bn68⟩, fun _ => ⟨rfl, bn69⟩, fun h => absurd h (by decide), fun h => absurd h (by decide), fun _ => ⟨rfl, bn14⟩, fun _ => ⟨rfl, bn15⟩, fun _ => ⟨rfl, bn16⟩, fun _ => ⟨rfl, bn17⟩, fun _ => ⟨rfl, bn18⟩, fun h => absurd h (by decide), fun _ => ⟨rfl, bn20⟩, fun h => absurd h (by decide), fun _ => ⟨rfl, bn73⟩, fun h => absurd h (by decide), fun h => absurd h (by decide), fun h => absurd h (by decide), fun _ => ⟨rfl, bn77⟩, fun _ => ⟨rfl, bn78⟩, fun _ => ⟨rfl, bn79⟩, fun h => absurd h (by decide), fun _ => ⟨rfl, bn25⟩, fun _ => ⟨rfl, bn26⟩, fun _ => ⟨rfl, bn27⟩, fun _ => ⟨rfl, bn28⟩, fun _ => ⟨rfl, bn29⟩, fun _ => ⟨rfl, bn30⟩, fun _ => ⟨rfl, bn31⟩, fun _ => ⟨rfl, bn32⟩, fun _ => ⟨rfl, bn33⟩, fun _ => ⟨rfl, bn60⟩, trivial⟩)
theorem bs0 {K : PySem.W.Frag} (tk : TupK K d1) (F : FunOf K d1) : BindOk K (pd.g K) (fdOf K (d1.pa K)) d1.ps 1 [] (plainSh 1) := BindOk.plain (ps := d1.ps) (FunD.bindsN F fun _ _ _ _ _ _ us hl => match us, hl with | [_], _ => rfl)
theorem bs1 {K : PySem.W.Frag} (tk : TupK K d4) (F : FunOf K d4) : BindOk K (pd.g K) (fdOf K (d4.pa K)) d4.ps 2 [] (plainSh 2) := BindOk.plain (ps := d4.ps) (FunD.bindsN F fun _ _ _ _ _ _ us hl => match us, hl with | [_, _], _ => rfl)
theorem bs2 {K : PySem.W.Frag} (tk : TupK K d3) (F : FunOf K d3) : BindOk K (pd.g K) (fdOf K (d3.pa K)) d3.ps 1 [] (plainSh 1) := BindOk.plain (ps := d3.ps) (FunD.bindsN F fun _ _ _ _ _ _ us hl => match us, hl with | [_], _ => rfl)
theorem bs3 {K : PySem.W.Frag} (tk : TupK K d2) (F : FunOf K d2) : BindOk K (pd.g K) (fdOf K (d2.pa K)) d2.ps 3 [] (plainSh 3) := BindOk.plain (ps := d2.ps) (FunD.bindsN F fun _ _ _ _ _ _ us hl => match us, hl with | [_, _, _], _ => rfl)
theorem bs4 {K : PySem.W.Frag} (tk : TupK K d6) (F : FunOf K d6) : BindOk K (pd.g K) (fdOf K (d6.pa K)) d6.ps 3 [] (plainSh 3) := BindOk.plain (ps := d6.ps) (FunD.bindsN F fun _ _ _ _ _ _ us hl => match us, hl with | [_, _, _], _ => rfl)
theorem bs5 {K : PySem.W.Frag} (tk : TupK K d7) (F : FunOf K d7) : BindOk K (pd.g K) (fdOf K (d7.pa K)) d7.ps 3 [] (plainSh 3) := BindOk.plain (ps := d7.ps) (FunD.bindsN F fun _ _ _ _ _ _ us hl => match us, hl with | [_, _, _], _ => rfl)
theorem bs6 {K : PySem.W.Frag} (tk : TupK K d5) (F : FunOf K d5) : BindOk K (pd.g K) (fdOf K (d5.pa K)) d5.ps 1 [] (plainSh 1) := BindOk.plain (ps := d5.ps) (FunD.bindsN F fun _ _ _ _ _ _ us hl => match us, hl with | [_], _ => rfl)
theorem bs7 {K : PySem.W.Frag} (tk : TupK K d41) (F : FunOf K d41) : BindOk K (pd.g K) (fdOf K (d41.pa K)) d41.ps 2 [] (plainSh 2) := BindOk.plain (ps := d41.ps) (FunD.bindsN F fun _ _ _ _ _ _ us hl => match us, hl with | [_, _], _ => rfl)
theorem bs8 {K : PySem.W.Frag} (tk : TupK K d64) (F : FunOf K d64) : BindOk K (pd.g K) (fdOf K (d64.pa K)) d64.ps 2 [] (plainSh 2) := BindOk.plain (ps := d64.ps) (FunD.bindsN F fun _ _ _ _ _ _ us hl => match us, hl with | [_, _], _ => rfl)
theorem bs9 {K : PySem.W.Frag} (tk : TupK K d65) (F : FunOf K d65) : BindOk K (pd.g K) (fdOf K (d65.pa K)) d65.ps 3 [] (plainSh 3) := BindOk.plain (ps := d65.ps) (FunD.bindsN F fun _ _ _ _ _ _ us hl => match us, hl with | [_, _, _], _ => rfl)
theorem bs10 {K : PySem.W.Frag} (tk : TupK K d67) (F : FunOf K d67) : BindOk K (pd.g K) (fdOf K (d67.pa K)) d67.ps 3 [] (plainSh 3) := BindOk.plain (ps := d67.ps) (FunD.bindsN F fun _ _ _ _ _ _ us hl => match us, hl with | [_, _, _], _ => rfl)
theorem bs11 {K : PySem.W.Frag} (tk : TupK K d66) (F : FunOf K d66) : BindOk K (pd.g K) (fdOf K (d66.pa K)) d66.ps 2 [] (plainSh 2) := BindOk.plain (ps := d66.ps) (FunD.bindsN F fun _ _ _ _ _ _ us hl => match us, hl with | [_, _], _ => rfl)
theorem bs12 {K : PySem.W.Frag} (tk : TupK K d68) (F : FunOf K d68) : BindOk K (pd.g K) (fdOf K (d68.pa K)) d68.ps 2 [] (plainSh 2) := BindOk.plain (ps := d68.ps) (FunD.bindsN F fun _ _ _ _ _ _ us hl => match us, hl with | [_, _], _ => rfl)
theorem bs13 {K : PySem.W.Frag} (tk : TupK K d40) (F : FunOf K d40) : BindOk K (pd.g K) (fdOf K (d40.pa K)) d40.ps 1 [] (plainSh 1) := BindOk.plain (ps := d40.ps) (FunD.bindsN F fun _ _ _ _ _ _ us hl => match us, hl with | [_], _ => rfl)
theorem bs14 {K : PySem.W.Frag} (tk : TupK K d63) (F : FunOf K d63) : BindOk K (pd.g K) (fdOf K (d63.pa K)) d63.ps 2 [] (plainSh 2) := BindOk.plain (ps := d63.ps) (FunD.bindsN F fun _ _ _ _ _ _ us hl => match us, hl with | [_, _], _ => rfl)
theorem bs15 {K : PySem.W.Frag} (tk : TupK K d69) (F : FunOf K d69) : BindOk K (pd.g K) (fdOf K (d69.pa K)) d69.ps 2 [] (plainSh 2) := BindOk.plain (ps := d69.ps) (FunD.bindsN F fun _ _ _ _ _ _ us hl => match us, hl with | [_, _], _ => rfl)
theorem bs16 {K : PySem.W.Frag} (tk : TupK K d70) (F : FunOf K d70) : BindOk K (pd.g K) (fdOf K (d70.pa K)) d70.ps 3 [] (plainSh 3) := BindOk.plain (ps := d70.ps) (FunD.bindsN F fun _ _ _ _ _ _ us hl => match us, hl with | [_, _, _], _ => rfl)
theorem bs17 {K : PySem.W.Frag} (tk : TupK K d15) (F : FunOf K d15) : BindOk K (pd.g K) (fdOf K (d15.pa K)) d15.ps 2 [] (plainSh 2) := BindOk.plain (ps := d15.ps) (FunD.bindsN F fun _ _ _ _ _ _ us hl => match us, hl with | [_, _], _ => rfl)
theorem bs18 {K : PySem.W.Frag} (tk : TupK K d17) (F : FunOf K d17) : BindOk K (pd.g K) (fdOf K (d17.pa K)) d17.ps 2 [] (plainSh 2) := BindOk.plain (ps := d17.ps) (FunD.bindsN F fun _ _ _ _ _ _ us hl => match us, hl with | [_, _], _ => rfl)
theorem bs19 {K : PySem.W.Frag} (tk : TupK K d18) (F : FunOf K d18) : BindOk K (pd.g K) (fdOf K (d18.pa K)) d18.ps 2 [] (plainSh 2) := BindOk.plain (ps := d18.ps) (FunD.bindsN F fun _ _ _ _ _ _ us hl => match us, hl with | [_, _], _ => rfl)
theorem bs20 {K : PySem.W.Frag} (tk : TupK K d16) (F : FunOf K d16) : BindOk K (pd.g K) (fdOf K (d16.pa K)) d16.ps 2 [] (plainSh 2) := BindOk.plain (ps := d16.ps) (FunD.bindsN F fun _ _ _ _ _ _ us hl => match us, hl with | [_, _], _ => rfl)
theorem bs21 {K : PySem.W.Frag} (tk : TupK K d24) (F : FunOf K d24) : BindOk K (pd.g K) (fdOf K (d24.pa K)) d24.ps 6 [] (plainSh 6) := by
  obtain ⟨its, hb⟩ := FunD.kbindsD F 6 [] (fun us its ws => [0, 1, 2, 3, 4, 5].filterMap fun i => (us ++ its ++ ws)[i]?) (by simp [d24]) (fun r1 r2 r3 => vals_pick _ ((r1.append r2).append r3)) fun T kV doc pm an cdv ct us its ws hu hi hw => match us, its, ws, hu, hi, hw with | [a0, a1, a2, a3, a4, a5], [b0, b1], [], _, _, _ => ⟨_, rfl, show _ = pure (List.zip d24.ps [a0, a1, a2, a3, a4, a5]) from rfl⟩
  exact BindOk.kw (sv := [.inl 0, .inl 1, .inl 2, .inl 3, .inl 4, .inl 5]) hb (.inl (.inl (.inl (.inl (.inl (.inl .nil)))))) (fun vs zs h1 h2 => match vs, zs, h1, h2 with | [_, _, _, _, _, _], [], _, _ => rfl)
theorem bs22 {K : PySem.W.Frag} (tk : TupK K d72) (F : FunOf K d72) : BindOk K (pd.g K) (fdOf K (d72.pa K)) d72.ps 3 [] (plainSh 3) := BindOk.plain (ps := d72.ps) (FunD.bindsN F fun _ _ _ _ _ _ us hl => match us, hl with | [_, _, _], _ => rfl)
theorem bs23 {K : PySem.W.Frag} (tk : TupK K d73) (F : FunOf K d73) : BindOk K (pd.g K) (fdOf K (d73.pa K)) d73.ps 2 [] (plainSh 2) := BindOk.plain (ps := d73.ps) (FunD.bindsN F fun _ _ _ _ _ _ us hl => match us, hl with | [_, _], _ => rfl)
theorem bs24 {K : PySem.W.Frag} (tk : TupK K d74) (F : FunOf K d74) : BindOk K (pd.g K) (fdOf K (d74.pa K)) d74.ps 4 [] (plainSh 4) := BindOk.plain (ps := d74.ps) (FunD.bindsN F fun _ _ _ _ _ _ us hl => match us, hl with | [_, _, _, _], _ => rfl)
theorem bs25 {K : PySem.W.Frag} (tk : TupK K d19) (F : FunOf K d19) : BindOk K (pd.g K) (fdOf K (d19.pa K)) d19.ps 3 [] (plainSh 3) := BindOk.plain (ps := d19.ps) (FunD.bindsN F fun _ _ _ _ _ _ us hl => match us, hl with | [_, _, _], _ => rfl)
theorem bs26 {K : PySem.W.Frag} (tk : TupK K d20) (F : FunOf K d20) : BindOk K (pd.g K) (fdOf K (d20.pa K)) d20.ps 1 [] (plainSh 1) := BindOk.plain (ps := d20.ps) (FunD.bindsN F fun _ _ _ _ _ _ us hl => match us, hl with | [_], _ => rfl)
theorem bs27 {K : PySem.W.Frag} (tk : TupK K d75) (F : FunOf K d75) : BindOk K (pd.g K) (fdOf K (d75.pa K)) d75.ps 3 [] (plainSh 3) := BindOk.plain (ps := d75.ps) (FunD.bindsN F fun _ _ _ _ _ _ us hl => match us, hl with | [_, _, _], _ => rfl)
theorem bs28 {K : PySem.W.Frag} (tk : TupK K d76) (F : FunOf K d76) : BindOk K (pd.g K) (fdOf K (d76.pa K)) d76.ps 3 [] (plainSh 3) := BindOk.plain (ps := d76.ps) (FunD.bindsN F fun _ _ _ _ _ _ us hl => match us, hl with | [_, _, _], _ => rfl)
theorem bs29 {K : PySem.W.Frag} (tk : TupK K d71) (F : FunOf K d71) : BindOk K (pd.g K) (fdOf K (d71.pa K)) d71.ps 0 [("row" : Str), ("start" : Str), ("habit" : Str)] ([.inl 2, .inl 1, .inl 0]) := BindOk.kw (sv := [.inl 2, .inl 1, .inl 0]) (FunD.kbindsN F 0 [("row" : Str), ("start" : Str), ("habit" : Str)] (fun us ws => [2, 1, 0].filterMap fun i => (us ++ ws)[i]?) (fun r1 r2 => vals_pick _ (r1.append r2)) fun kV doc pm an cdv ct us ws hu hw => match us, ws, hu, hw with | [], [c0, c1, c2], _, _ => (show _ = pure (List.zip d71.ps [c2, c1, c0]) from rfl)) (.inl (.inl (.inl .nil))) (fun vs zs h1 h2 => match vs, zs, h1, h2 with | [], [_, _, _], _, _ => rfl)
theorem bs30 {K : PySem.W.Frag} (tk : TupK K d71) (F : FunOf K d71) : BindOk K (pd.g K) (fdOf K (d71.pa K)) d71.ps 3 [] (plainSh 3) := BindOk.plain (ps := d71.ps) (FunD.bindsN F fun _ _ _ _ _ _ us hl => match us, hl with | [_, _, _], _ => rfl)
theorem bs31 {K : PySem.W.Frag} (tk : TupK K d77) (F : FunOf K d77) : BindOk K (pd.g K) (fdOf K (d77.pa K)) d77.ps 2 [] (plainSh 2) := BindOk.plain (ps := d77.ps) (FunD.bindsN F fun _ _ _ _ _ _ us hl => match us, hl with | [_, _], _ => rfl)
theorem bs32 {K : PySem.W.Frag} (tk : TupK K d78) (F : FunOf K d78) : BindOk K (pd.g K) (fdOf K (d78.pa K)) d78.ps 1 [] (plainSh 1) := BindOk.plain (ps := d78.ps) (FunD.bindsN F fun _ _ _ _ _ _ us hl => match us, hl with | [_], _ => rfl)
theorem bs33 {K : PySem.W.Frag} (tk : TupK K d14) (F : FunOf K d14) : BindOk K (pd.g K) (fdOf K (d14.pa K)) d14.ps 2 [] (plainSh 2) := BindOk.plain (ps := d14.ps) (FunD.bindsN F fun _ _ _ _ _ _ us hl => match us, hl with | [_, _], _ => rfl)
theorem bs34 {K : PySem.W.Frag} (tk : TupK K d8) (F : FunOf K d8) : BindOk K (pd.g K) (fdOf K (d8.pa K)) d8.ps 2 [] (plainSh 2) := BindOk.plain (ps := d8.ps) (FunD.bindsN F fun _ _ _ _ _ _ us hl => match us, hl with | [_, _], _ => rfl)
theorem bs35 {K : PySem.W.Frag} (tk : TupK K d9) (F : FunOf K d9) : BindOk K (pd.g K) (fdOf K (d9.pa K)) d9.ps 3 [] (plainSh 3) := BindOk.plain (ps := d9.ps) (FunD.bindsN F fun _ _ _ _ _ _ us hl => match us, hl with | [_, _, _], _ => rfl)
theorem bs36 {K : PySem.W.Frag} (tk : TupK K d10) (F : FunOf K d10) : BindOk K (pd.g K) (fdOf K (d10.pa K)) d10.ps 1 [] (plainSh 1) := BindOk.plain (ps := d10.ps) (FunD.bindsN F fun _ _ _ _ _ _ us hl => match us, hl with | [_], _ => rfl)
theorem bs37 {K : PySem.W.Frag} (tk : TupK K d13) (F : FunOf K d13) : BindOk K (pd.g K) (fdOf K (d13.pa K)) d13.ps 2 [] (plainSh 2) := BindOk.plain (ps := d13.ps) (FunD.bindsN F fun _ _ _ _ _ _ us hl => match us, hl with | [_, _], _ => rfl)
theorem bs38 {K : PySem.W.Frag} (tk : TupK K d11) (F : FunOf K d11) : BindOk K (pd.g K) (fdOf K (d11.pa K)) d11.ps 1 [] (plainSh 1) := BindOk.plain (ps := d11.ps) (FunD.bindsN F fun _ _ _ _ _ _ us hl => match us, hl with | [_], _ => rfl)
theorem bs39 {K : PySem.W.Frag} (tk : TupK K d12) (F : FunOf K d12) : BindOk K (pd.g K) (fdOf K (d12.pa K)) d12.ps 1 [] (plainSh 1) := BindOk.plain (ps := d12.ps) (FunD.bindsN F fun _ _ _ _ _ _ us hl => match us, hl with | [_], _ => rfl)
theorem hb (K : PySem.W.Frag) : ∀ q ∈ pd.shapes, ∀ d, pd.fn q.1.1 = some d → TupK K d → FunOf K d → BindOk K (pd.g K) (fdOf K (d.pa K)) d.ps q.1.2.1 q.1.2.2 q.2 := EachP.mem (show EachP (fun q : (Nat × Nat × List Str) × Fill => ∀ d, pd.fn q.1.1 = some d → TupK K d → FunOf K d → BindOk K (pd.g K) (fdOf K (d.pa K)) d.ps q.1.2.1 q.1.2.2 q.2) (((1, 1, []), plainSh 1) :: ((4, 2, []), plainSh 2) :: ((3, 1, []), plainSh 1) :: ((2, 3, []), plainSh 3) :: ((6, 3, []), plainSh 3) :: ((7, 3, []), plainSh 3) :: ((5, 1, []), plainSh 1) :: ((41, 2, []), plainSh 2) :: ((64, 2, []), plainSh 2) :: ((65, 3, []), plainSh 3) :: ((67, 3, []), plainSh 3) :: ((66, 2, []), plainSh 2) :: ((68, 2, []), plainSh 2) :: ((40, 1, []), plainSh 1) :: ((63, 2, []), plainSh 2) :: ((69, 2, []), plainSh 2) :: ((70, 3, []), plainSh 3) :: ((15, 2, []), plainSh 2) :: ((17, 2, []), plainSh 2) :: ((18, 2, []), plainSh 2) :: ((16, 2, []), plainSh 2) :: ((24, 6, []), plainSh 6) :: ((72, 3, []), plainSh 3) :: ((73, 2, []), plainSh 2) :: ((74, 4, []), plainSh 4) :: ((19, 3, []), plainSh 3) :: ((20, 1, []), plainSh 1) :: ((75, 3, []), plainSh 3) :: ((76, 3, []), plainSh 3) :: ((71, 0, [("row" : Str), ("start" : Str), ("habit" : Str)]), [.inl 2, .inl 1, .inl 0]) :: ((71, 3, []), plainSh 3) :: ((77, 2, []), plainSh 2) :: ((78, 1, []), plainSh 1) :: ((14, 2, []), plainSh 2) :: ((8, 2, []), plainSh 2) :: ((9, 3, []), plainSh 3) :: ((10, 1, []), plainSh 1) :: ((13, 2, []), plainSh 2) :: ((11, 1, []), plainSh 1) :: ((12, 1, []), plainSh 1) :: []) from ⟨fun d (e : some d1 = some d) tk F => by have e1 : d1 = d := Option.some.inj e; subst e1; exact bs0 tk F, fun d (e : some d4 = some d) tk F => by have e1 : d4 = d := Option.some.inj e; subst e1; exact bs1 tk F, fun d (e : some d3 = some d) tk F => by have e1 : d3 = d := Option.some.inj e; subst e1; exact bs2 tk F, fun d (e : some d2 = some d) tk F => by have e1 : d2 = d := Option.some.inj e; subst e1; exact bs3 tk F, fun d (e : some d6 = some d) tk F => by have e1 : d6 = d := Option.some.inj e; subst e1; exact bs4 tk F, fun d (e : some d7 = some d) tk F => by have e1 : d7 = d := Option.some.inj e; subst e1; exact bs5 tk F, fun d (e : some d5 = some d) tk F => by have e1 : d5 = d := Option.some.inj e; subst e1; exact bs6 tk F, fun d (e : some d41 = some d) tk F => by have e1 : d41 = d := Option.some.inj e; subst e1; exact bs7 tk F, fun d (e : some d64 = some d) tk F => by have e1 : d64 = d := Option.some.inj e; subst e1; exact bs8 tk F, fun d (e : some d65 = some d) tk F => by have e1 : d65 = d := Option.some.inj e; subst e1; exact bs9 tk F, fun d (e : some d67 = some d) tk F => by have e1 : d67 = d := Option.some.inj e; subst e1; exact bs10 tk F, fun d (e : some d66 = some d) tk F => by have e1 : d66 = d := Option.some.inj e; subst e1; exact bs11 tk F, fun d (e : some d68 = some d) tk F => by have e1 : d68 = d := Option.some.inj e; subst e1; exact bs12 tk F, fun d (e : some d40 = some d) tk F => by have e1 : d40 = d := Option.some.inj e; subst e1; exact bs13 tk F, fun d (e : some d63 = some d) tk F => by have e1 : d63 = d := Option.some.inj e; subst e1; exact bs14 tk F, fun d (e : some d69 = some d) tk F => by have e1 : d69 = d := Option.some.inj e; subst e1; exact bs15 tk F, fun d (e : some d70 = some d) tk F => by have e1 : d70 = d := Option.some.inj e; subst e1; exact bs16 tk F, fun d (e : some d15 = some d) tk F => by have e1 : d15 = d := Option.some.inj e; subst e1; exact bs17 tk F, fun d (e : some d17 = some d) tk F => by have e1 : d17 = d := Option.some.inj e; subst e1; exact bs18 tk F, fun d (e : some d18 = some d) tk F => by have e1 : d18 = d := Option.some.inj e; subst e1; exact bs19 tk F, fun d (e : some d16 = some d) tk F => by have e1 : d16 = d := Option.some.inj e; subst e1; exact bs20 tk F, fun d (e : some d24 = some d) tk F => by have e1 : d24 = d := Option.some.inj e; subst e1; exact bs21 tk F, fun d (e : some d72 = some d) tk F => by have e1 : d72 = d := Option.some.inj e; subst e1; exact bs22 tk F, fun d (e : some d73 = some d) tk F => by have e1 : d73 = d := Option.some.inj e; subst e1; exact bs23 tk F, fun d (e : some d74 = some d) tk F => by have e1 : d74 = d := Option.some.inj e; subst e1; exact bs24 tk F, fun d (e : some d19 = some d) tk F => by have e1 : d19 = d := Option.some.inj e; subst e1; exact bs25 tk F, fun d (e : some d20 = some d) tk F => by have e1 : d20 = d := Option.some.inj e; subst e1; exact bs26 tk F, fun d (e : some d75 = some d) tk F => by have e1 : d75 = d := Option.some.inj e; subst e1; exact bs27 tk F, fun d (e : some d76 = some d) tk F => by have e1 : d76 = d := Option.some.inj e; subst e1; exact bs28 tk F, fun d (e : some d71 = some d) tk F => by have e1 : d71 = d := Option.some.inj e; subst e1; exact bs29 tk F, fun d (e : some d71 = some d) tk F => by have e1 : d71 = d := Option.some.inj e; subst e1; exact bs30 tk F, fun d (e : some d77 = some d) tk F => by have e1 : d77 = d := Option.some.inj e; subst e1; exact bs31 tk F, fun d (e : some d78 = some d) tk F => by have e1 : d78 = d := Option.some.inj e; subst e1; exact bs32 tk F, fun d (e : some d14 = some d) tk F => by have e1 : d14 = d := Option.some.inj e; subst e1; exact bs33 tk F, fun d (e : some d8 = some d) tk F => by have e1 : d8 = d := Option.some.inj e; subst e1; exact bs34 tk F, fun d (e : some d9 = some d) tk F => by have e1 : d9 = d := Option.some.inj e; subst e1; exact bs35 tk F, fun d (e : some d10 = some d) tk F => by have e1 : d10 = d := Option.some.inj e; subst e1; exact bs36 tk F, fun d (e : some d13 = some d) tk F => by have e1 : d13 = d := Option.some.inj e; subst e1; exact bs37 tk F, fun d (e : some d11 = some d) tk F => by have e1 : d11 = d := Option.some.inj e; subst e1; exact bs38 tk F, fun d (e : some d12 = some d) tk F => by have e1 : d12 = d := Option.some.inj e; subst e1; exact bs39 tk F, trivial⟩)
theorem hbl (K : PySem.W.Frag) (F : FunOf K d79) : ∀ (s : Shared) (u : Value), BindsTo s (fdOf K (d79.pa K)) ⟨[u], []⟩ [("_law_cells", u)] := fun s u => FunD.bindsA (ps := ["_law_cells"]) F (fun _ _ _ _ _ _ us hl => match us, hl with | [_], _ => rfl) s [u] rfl
end Gk08
end S_Gk08
section S_Hk08
namespace Gk08
open PySem PySem.Spec PyProof.Rows L2 MP
abbrev R : PySem.W.OpenRow := PySem.W.OpenLaw.row PySem.Challenge.rw_turnedevenly_k08_whole_walks
def loose : List PySem.Str := (["_wall", "BadValue", "InvalidText", "InvalidSize", "InvalidSlips", "InvalidGap", "InvalidPlacement", "InvalidRow", "NotAHabit", "InvalidTurns", "InvalidCalendar", "MOST_SIZE", "MOST_TURNS", "MOST_ENTRIES", "MOST_GAP", "MOST_ROW", "LETTERS", "DIGITS", "LONGEST_NAME", "is_whole", "is_integer", "is_name", "is_tuple_of", "digit_of", "SLIPS", "is_turn", "is_entry", "check_turns", "check_calendar", "are_slips"] : List PySem.Str) ++ (["turn_of", "entry_of", "words_behind", "Habit", "check_habit", "check_placement", "image_of", "KEEP", "TIMES", "words_at", "step", "first_of", "way_of", "is_row", "check_row", "check_run", "walk", "_law_urn", "_law_take", "_law_of", "_law_tags", "_law_image", "_law_parts", "_law_made", "_law_laid", "_law_let", "_law_next", "_law_drawn_words", "_law_way", "_law_is_row"] : List PySem.Str) ++ (["_law_right"] : List PySem.Str)
abbrev hk : PySem.W.Hook := hookY pd 6
def ob (s : PySem.W.SharedT) : AlY := obsY pd 6 (HandSHeadRun.getT s)
theorem ob_eq (s : PySem.W.SharedT) : ob s = hk.obs s.abs := obsY_eq (HandSHeadRun.getT_eq s)
theorem runF (w : World) : HandSHeadRun.RunEq R (PySem.W.view R.prog [66]) hk ob 80000 loose (w.withFollow "special-get-raises" false) := by
  intro os
  kernel_rfl
theorem runT (w : World) : HandSHeadRun.RunEq R (PySem.W.view R.prog [66]) hk ob 80000 loose (w.withFollow "special-get-raises" true) := by
  intro os
  kernel_rfl
theorem run (w : World) : HandSHeadRun.RunEq R (PySem.W.view R.prog [66]) hk ob 80000 loose w := PySem.W.byRow2 "special-get-raises" (P := fun w => HandSHeadRun.RunEq R (PySem.W.view R.prog [66]) hk ob 80000 loose w) runF runT w
end Gk08
end S_Hk08
section S_MRa
/-! MRa: reasoning about abstract runs. -/
namespace MP
open PySem L2

/-! ### heaps -/
/-- nothing points beyond -/
def Clo (h : Hh) : Prop := h.all (O.below h.length) = true
theorem Clo.cutT {h : Hh} (c : Clo h) (t : Hh) : cut h.length (h ++ t) = some h := by
  unfold Clo at c
  unfold cut
  rw [List.take_left' rfl, if_pos ⟨by simp, c⟩]
theorem Clo.cutZ {h : Hh} (c : Clo h) : cut h.length h = some h := by
  have := c.cutT []
  rwa [List.append_nil] at this
theorem A.below_mono {n m : Nat} (l : n ≤ m) {a : A} (h : a.below n = true) : a.below m = true := by
  cases a with
  | d x => rfl
  | ref i => simp only [A.below, decide_eq_true_eq] at h ⊢; omega
theorem O.below_mono {n m : Nat} (l : n ≤ m) {o : O} (h : o.below n = true) : o.below m = true := by
  cases o with
  | dead => rfl
  | lst xs => simp only [O.below, List.all_eq_true] at h ⊢; exact fun x hx => A.below_mono l (h x hx)
  | dk xs => simp only [O.below, List.all_eq_true] at h ⊢; exact fun x hx => A.below_mono l (h x hx)
  | dt xs => simp only [O.below, List.all_eq_true] at h ⊢; exact fun x hx => A.below_mono l (h x hx)
  | ins c xs => simp only [O.below, List.all_eq_true] at h ⊢; exact fun x hx => A.below_mono l (h x hx)
theorem Clo.app {h : Hh} {o : O} (c : Clo h) (b : o.below (h.length + 1) = true) : Clo (h ++ [o]) := by
  unfold Clo at *
  rw [List.all_eq_true] at *
  intro x hx
  rw [List.length_append, List.length_singleton]
  rcases List.mem_append.mp hx with hx | hx
  · exact O.below_mono (Nat.le_succ _) (c x hx)
  · rw [List.mem_singleton.mp hx]; exact b
theorem Clo.set {h : Hh} {o : O} {i : Nat} (c : Clo h) (b : o.below h.length = true) : Clo (h.set i o) := by
  unfold Clo at *
  rw [List.all_eq_true] at *
  intro x hx
  rw [List.length_set]
  rcases List.mem_or_eq_of_mem_set hx with hx | hx
  · exact c x hx
  · rw [hx]; exact b
theorem Clo.nil : Clo [] := rfl
theorem retD {h : Hh} {x : D} (c : Clo h) (t : Hh) : retA h.length (.d x) (h ++ t) = some (.d x, h) := by
  have := c.cutT t
  simp [retA, this]
theorem retD0 {h : Hh} {x : D} (c : Clo h) : retA h.length (.d x) h = some (.d x, h) := by
  have := c.cutZ
  simp [retA, this]
theorem below_map (n : Nat) (ds : List D) : (ds.map A.d).all (A.below n) = true := by
  rw [List.all_eq_true]
  intro x hx
  obtain ⟨d, _, rfl⟩ := List.mem_map.mp hx
  rfl
theorem lst_below (n : Nat) (ds : List D) : (O.lst (ds.map .d)).below n = true := below_map n ds

/-! ### loops -/
theorem loopF_inv {ft : A → Sl → Option Sl} {fb : Sl → Hh → OS} {m : Option Nat} {h0 : Hh} {xs : List A} (I : Nat → Sl → Hh → Prop)
    (st : ∀ (k : Nat) (x : A) (s : Sl) (h : Hh), xs[k]? = some x → I k s h → ∃ s1 s2 h2, ft x s = some s1 ∧ (fb s1 h = .nx s2 h2 ∨ fb s1 h = .ct s2 h2) ∧ keepO m h0 h2 ∧ I (k + 1) s2 h2)
    {s : Sl} {h : Hh} (i0 : I 0 s h) : ∃ s' h', loopF ft fb m h0 xs s h = .nx s' h' ∧ I xs.length s' h' := by
  suffices ∀ (ys : List A) (k : Nat) (s : Sl) (h : Hh), (∀ j, ys[j]? = xs[k + j]?) → k + ys.length = xs.length → I k s h → ∃ s' h', loopF ft fb m h0 ys s h = .nx s' h' ∧ I xs.length s' h' by
    exact this xs 0 s h (fun j => by rw [Nat.zero_add]) (by rw [Nat.zero_add]) i0
  intro ys
  induction ys with
  | nil =>
    intro k s h _ hl i
    have e : k = xs.length := by simpa using hl
    exact ⟨s, h, rfl, e ▸ i⟩
  | cons y r ih =>
    intro k s h hy hl i
    have hk : xs[k]? = some y := by have := hy 0; simpa using this.symm
    obtain ⟨s1, s2, h2, e1, e2, e3, i'⟩ := st k y s h hk i
    have hl' : k + 1 + r.length = xs.length := by simp at hl; omega
    have hr : ∀ j, r[j]? = xs[k + 1 + j]? := fun j => by
      have := hy (j + 1)
      rw [List.getElem?_cons_succ] at this
      rw [this]; congr 1; omega
    obtain ⟨s', h', e', i''⟩ := ih (k + 1) s2 h2 hr hl' i'
    refine ⟨s', h', ?_, i''⟩
    rw [loopF, e1]
    dsimp only
    rcases e2 with e2 | e2 <;> rw [e2] <;> dsimp only <;> rw [if_pos e3] <;> exact e'
theorem loopC_inv {fe : A → Hh → Out (Option A)} {m : Option Nat} {h0 : Hh} {xs : List A} (I : Nat → List A → Hh → Prop)
    (st : ∀ (k : Nat) (x : A) (ys : List A) (h : Hh), xs[k]? = some x → I k ys h → ∃ o h2, fe x h = .ok o h2 ∧ keepO m h0 h2 ∧ I (k + 1) (ys ++ o.toList) h2)
    {h : Hh} (i0 : I 0 [] h) : ∃ ys h', loopC fe m h0 xs h = .ok ys h' ∧ I xs.length ys h' := by
  suffices ∀ (zs : List A) (k : Nat) (ys : List A) (h : Hh), (∀ j, zs[j]? = xs[k + j]?) → k + zs.length = xs.length → I k ys h → ∃ ys' h', loopC fe m h0 zs h = .ok ys' h' ∧ I xs.length (ys ++ ys') h' by
    have := this xs 0 [] h (fun j => by rw [Nat.zero_add]) (by rw [Nat.zero_add]) i0
    simpa using this
  intro zs
  induction zs with
  | nil =>
    intro k ys h _ hl i
    have e : k = xs.length := by simpa using hl
    exact ⟨[], h, rfl, by rw [List.append_nil]; exact e ▸ i⟩
  | cons y r ih =>
    intro k ys h hy hl i
    have hk : xs[k]? = some y := by have := hy 0; simpa using this.symm
    obtain ⟨o, h2, e1, e3, i'⟩ := st k y ys h hk i
    have hl' : k + 1 + r.length = xs.length := by simp at hl; omega
    have hr : ∀ j, r[j]? = xs[k + 1 + j]? := fun j => by
      have := hy (j + 1)
      rw [List.getElem?_cons_succ] at this
      rw [this]; congr 1; omega
    obtain ⟨ys', h', e', i''⟩ := ih (k + 1) (ys ++ o.toList) h2 hr hl' i'
    refine ⟨o.toList ++ ys', h', ?_, by rwa [List.append_assoc] at i''⟩
    rw [loopC, e1]
    dsimp only
    rw [if_pos e3, e']
    rfl
/-- a comprehension that reads only -/
theorem loopC_pure {fe : A → Hh → Out (Option A)} {m : Option Nat} {h : Hh} {f : A → Option A} : ∀ {xs : List A}, (∀ x ∈ xs, fe x h = .ok (f x) h) → loopC fe m h xs h = .ok (xs.filterMap f) h
  | [], _ => rfl
  | x :: r, hx => by
    rw [loopC, hx x (List.mem_cons_self ..)]
    dsimp only
    rw [if_pos (keepO_refl _ _), loopC_pure fun y hy => hx y (List.mem_cons_of_mem _ hy)]
    cases e : f x <;> simp [Out.bind, e]
theorem loopC_map {fe : A → Hh → Out (Option A)} {m : Option Nat} {h : Hh} {f : A → A} {xs : List A} (hx : ∀ x ∈ xs, fe x h = .ok (some (f x)) h) : loopC fe m h xs h = .ok (xs.map f) h := by
  rw [loopC_pure (f := fun x => some (f x)) hx]
  congr 1
  induction xs with
  | nil => rfl
  | cons a r ih => simp

/-! ### stepping: only the first part is looked at -/
theorem OS.seq_ct (s : Sl) (h : Hh) (f : Sl → Hh → OS) : (OS.ct s h).seq f = .ct s h := rfl
theorem OS.seq_bk (s : Sl) (h : Hh) (f : Sl → Hh → OS) : (OS.bk s h).seq f = .bk s h := rfl
theorem optH_some (r : A × Hh) : optH (some r) = .ok r.1 r.2 := rfl

theorem tg_name (i : Nat) (a : A) (s : Sl) : (Tg.name i).set a s = some (s.set i (some a)) := by rw [Tg.set]
theorem tg_tup (ts : Tgs) (xs : List D) (s : Sl) : (Tg.tup ts).set (.d (.tup xs)) s = if xs.length = ts.len then ts.set (xs.map .d) s else none := by rw [Tg.set]
theorem tgs_nil (s : Sl) : Tgs.nil.set [] s = some s := by rw [Tgs.set]
theorem tgs_cons (t : Tg) (r : Tgs) (a : A) (q : List A) (s : Sl) : (Tgs.cons t r).set (a :: q) s = (t.set a s).bind fun s' => r.set q s' := by rw [Tgs.set]

/-! ### calls -/
section
variable {T : Tab} {n f np ns : Nat} {body : Ss} {as : List A} {h h1 h' : Hh} {a b : A} {s : Sl}
theorem callN_rt (hf : T.fn f = some ⟨np, ns, body, false⟩) (hl : as.length = np) (e : exSs T (callN T n) body (startS ns as) h = .rt a h1) (er : retA h.length a h1 = some (b, h')) : callN T (n + 1) f as h = .ok b h' := by
  rw [callN]; dsimp only; rw [hf]; dsimp only; rw [if_pos hl, e]; simp [finC, er, optH]
theorem callN_nx (hf : T.fn f = some ⟨np, ns, body, false⟩) (hl : as.length = np) (e : exSs T (callN T n) body (startS ns as) h = .nx s h1) (er : retA h.length (.d .non) h1 = some (b, h')) : callN T (n + 1) f as h = .ok b h' := by
  rw [callN]; dsimp only; rw [hf]; dsimp only; rw [if_pos hl, e]; simp [finC, er, optH]
theorem callN_keep (hf : T.fn f = some ⟨np, ns, body, true⟩) (hl : as.length = np) (e : exSs T (callN T n) body (startS ns as) h = .rt a h1) : callN T (n + 1) f as h = .ok a h1 := by
  rw [callN]; dsimp only; rw [hf]; dsimp only; rw [if_pos hl, e]; simp [finC]
end

section
variable {T : Tab} {C : CallT} {e : E} {es : Es} {s : Sl} {h : Hh}
theorem evi_val : evi T C (.val e) s h = ((evP T C e).v s h).bind fun a h1 => opt (iterV a h1) h1 := by rw [evi]
theorem evi_rng : evi T C (.rng es) s h = (evs T C es s h).bind fun as h1 => opt (rngA as) h1 := by rw [evi]
theorem evi_enum : evi T C (.enum e) s h = ((evP T C e).v s h).bind fun a h1 => opt (enumA a) h1 := by rw [evi]
theorem evc_none : evc T C .none s h = .ok true h := by rw [evc]
theorem evc_some : evc T C (.some e) s h = (evP T C e).t s h := by rw [evc]
theorem evo_none : evo T C .none s h = .ok none h := by rw [evo]
theorem evo_some : evo T C (.some e) s h = ((evP T C e).v s h).bind fun a h1 => (opt (intA a) h1).bind fun i h1 => .ok (some i) h1 := by rw [evo]
end
/-! ### reading -/
theorem addA_int {i j : Int} {h : Hh} : addA (.d (.int i)) (.d (.int j)) h = some (.d (.int (i + j))) := rfl
theorem addA_str {x y : Str} {h : Hh} : addA (.d (.str x)) (.d (.str y)) h = if x.length + y.length ≤ sizeLine then some (.d (.str (x ++ y))) else none := rfl
theorem subF_ref {h : Hh} {i : Nat} {xs : List A} {k : Int} (e : h[i]? = some (.lst xs)) : subF (.ref i) (.d (.int k)) h = L2.atI xs k := by
  simp [subF, lookA, asDk, asDt, subA2, asSeq, asLst, e]
theorem subF_tup {h : Hh} {xs : List D} {k : Int} : subF (.d (.tup xs)) (.d (.int k)) h = L2.atI (xs.map .d) k := by
  simp [subF, lookA, asDk, asDt, subA2, asSeq, asLst]
theorem subF_lst {h : Hh} {xs : List D} {k : Int} : subF (.d (.lst xs)) (.d (.int k)) h = L2.atI (xs.map .d) k := by
  simp [subF, lookA, asDk, asDt, subA2, asSeq, asLst]
theorem subF_str {h : Hh} {x : Str} {k : Int} : subF (.d (.str x)) (.d (.int k)) h = if x.length ≤ sizeLine then (strAt x k).map .d else none := by
  simp [subF, lookA, asDk, asDt, subA2]
theorem subF_scr {h : Hh} {ns : List Int} {k : Int} : subF (.d (.scr ns)) (.d (.int k)) h = (L2.atI ns k).map fun n => .d (.int n) := by
  simp [subF, lookA, asDk, asDt, subA2]
theorem atI_nat {α : Type} {xs : List α} {n : Nat} : L2.atI xs (n : Int) = xs[n]? := by
  unfold L2.atI L2.ixN
  rw [if_pos (Int.natCast_nonneg n)]
  by_cases h : n < xs.length
  · rw [if_pos (by omega)]; simp
  · rw [if_neg (by omega)]; simp; omega
theorem atI_of {α : Type} {xs : List α} {i : Int} (h0 : 0 ≤ i) : L2.atI xs i = xs[i.toNat]? := by
  have := atI_nat (xs := xs) (n := i.toNat)
  rwa [Int.toNat_of_nonneg h0] at this
theorem atI_0 {α : Type} {a : α} {r : List α} : L2.atI (a :: r) 0 = some a := atI_nat (n := 0)
theorem atI_1 {α : Type} {a b : α} {r : List α} : L2.atI (a :: b :: r) 1 = some b := atI_nat (n := 1)
theorem atI_2 {α : Type} {a b c : α} {r : List α} : L2.atI (a :: b :: c :: r) 2 = some c := atI_nat (n := 2)
theorem atI_3 {α : Type} {a b c d : α} {r : List α} : L2.atI (a :: b :: c :: d :: r) 3 = some d := atI_nat (n := 3)
theorem atI_4 {α : Type} {a b c d e : α} {r : List α} : L2.atI (a :: b :: c :: d :: e :: r) 4 = some e := atI_nat (n := 4)
theorem setA_lst {h : Hh} {i : Nat} {xs : List A} {k : Nat} {v : A} (e : h[i]? = some (.lst xs)) (hk : k < xs.length) : setA (.ref i) (.d (.int (k : Int))) v h = some (h.set i (.lst (xs.set k v))) := by
  have : L2.ixN xs.length (k : Int) = some k := by unfold L2.ixN; rw [if_pos (by omega), if_pos (by omega)]; simp
  simp [setA, e, this]
theorem asLst_ref {h : Hh} {i : Nat} {xs : List A} (e : h[i]? = some (.lst xs)) : asLst (.ref i) h = some xs := by simp [asLst, e]
theorem get_app {h : Hh} {o : O} : (h ++ [o])[h.length]? = some o := by simp
theorem set_app {h : Hh} {o o' : O} : (h ++ [o]).set h.length o' = h ++ [o'] := by
  rw [List.set_append_right _ _ (Nat.le_refl _)]; simp
theorem set_same {h : Hh} {u : Nat} {o : O} (e : h[u]? = some o) : h.set u o = h := by
  apply List.ext_getElem?
  intro i
  by_cases hi : u = i
  · subst hi
    rw [List.getElem?_set_self (List.getElem?_eq_some_iff.mp e).1, e]
  · rw [List.getElem?_set_ne hi]
end MP
end S_MRa
section S_MRb
/-! MRb: what is asked of a table (printed by gencore.py). -/
namespace MP
open PySem
structure Core (T : Tab) : Prop where
  f1 : T.fn 1 = some fn1
  n1 : T.np 1 = 1
  f2 : T.fn 2 = some fn2
  n2 : T.np 2 = 3
  f3 : T.fn 3 = some fn3
  n3 : T.np 3 = 1
  f4 : T.fn 4 = some fn4
  n4 : T.np 4 = 2
  f5 : T.fn 5 = some fn5
  n5 : T.np 5 = 1
  f6 : T.fn 6 = some fn6
  n6 : T.np 6 = 3
  f7 : T.fn 7 = some fn7
  n7 : T.np 7 = 3
  f8 : T.fn 8 = some fn8
  n8 : T.np 8 = 2
  f9 : T.fn 9 = some fn9
  n9 : T.np 9 = 3
  f10 : T.fn 10 = some fn10
  n10 : T.np 10 = 1
  f24 : T.fn 24 = some fn24
  n24 : T.np 24 = 6
  f25 : T.fn 25 = some fn25
  n25 : T.np 25 = 1
  f26 : T.fn 26 = some fn26
  n26 : T.np 26 = 1
  f27 : T.fn 27 = some fn27
  n27 : T.np 27 = 1
  f28 : T.fn 28 = some fn28
  n28 : T.np 28 = 2
  f29 : T.fn 29 = some fn29
  n29 : T.np 29 = 1
  f30 : T.fn 30 = some fn30
  n30 : T.np 30 = 1
  f31 : T.fn 31 = some fn31
  n31 : T.np 31 = 1
  f32 : T.fn 32 = some fn32
  n32 : T.np 32 = 1
  f33 : T.fn 33 = some fn33
  n33 : T.np 33 = 1
  s1 : T.shape 1 1 [] = some (plainSh 1)
  s2 : T.shape 2 3 [] = some (plainSh 3)
  s3 : T.shape 3 1 [] = some (plainSh 1)
  s4 : T.shape 4 2 [] = some (plainSh 2)
  s6 : T.shape 6 3 [] = some (plainSh 3)
  s7 : T.shape 7 3 [] = some (plainSh 3)
  s8 : T.shape 8 2 [] = some (plainSh 2)
  s9 : T.shape 9 3 [] = some (plainSh 3)
  s10 : T.shape 10 1 [] = some (plainSh 1)
  s24 : T.shape 24 6 [] = some (plainSh 6)
  g_MOST_SIZE : T.glo ("MOST_SIZE" : Str) = some (.int 6)
  g_MOST_TURNS : T.glo ("MOST_TURNS" : Str) = some (.int 4)
  g_MOST_ENTRIES : T.glo ("MOST_ENTRIES" : Str) = some (.int 6)
  g_MOST_GAP : T.glo ("MOST_GAP" : Str) = some (.int 6)
  g_LONGEST_NAME : T.glo ("LONGEST_NAME" : Str) = some (.int 8)
  g_LETTERS : T.glo ("LETTERS" : Str) = some (.str ("abcdefghijklmnopqrstuvwxyz" : Str))
  g_DIGITS : T.glo ("DIGITS" : Str) = some (.str ("0123456789" : Str))
  g_SLIPS : T.gt ("SLIPS" : Str) = some [.tup [], .tup [.str ("forget" : Str)], .tup [.str ("forget" : Str), .str ("twice" : Str)], .tup [.str ("twice" : Str)]]
  i_NoneType_int : T.isi (.b "NoneType") (.b "int") = some false
  i_bool_int : T.isi (.b "bool") (.b "int") = some true
  i_int_int : T.isi (.b "int") (.b "int") = some true
  i_str_int : T.isi (.b "str") (.b "int") = some false
  i_tuple_int : T.isi (.b "tuple") (.b "int") = some false
  i_list_int : T.isi (.b "list") (.b "int") = some false
  i_own_int : T.isi (.own 1) (.b "int") = some false
  i_NoneType_bool : T.isi (.b "NoneType") (.b "bool") = some false
  i_bool_bool : T.isi (.b "bool") (.b "bool") = some true
  i_int_bool : T.isi (.b "int") (.b "bool") = some false
  i_str_bool : T.isi (.b "str") (.b "bool") = some false
  i_tuple_bool : T.isi (.b "tuple") (.b "bool") = some false
  i_list_bool : T.isi (.b "list") (.b "bool") = some false
  i_own_bool : T.isi (.own 1) (.b "bool") = some false
  i_NoneType_str : T.isi (.b "NoneType") (.b "str") = some false
  i_bool_str : T.isi (.b "bool") (.b "str") = some false
  i_int_str : T.isi (.b "int") (.b "str") = some false
  i_str_str : T.isi (.b "str") (.b "str") = some true
  i_tuple_str : T.isi (.b "tuple") (.b "str") = some false
  i_list_str : T.isi (.b "list") (.b "str") = some false
  i_own_str : T.isi (.own 1) (.b "str") = some false
  i_NoneType_tuple : T.isi (.b "NoneType") (.b "tuple") = some false
  i_bool_tuple : T.isi (.b "bool") (.b "tuple") = some false
  i_int_tuple : T.isi (.b "int") (.b "tuple") = some false
  i_str_tuple : T.isi (.b "str") (.b "tuple") = some false
  i_tuple_tuple : T.isi (.b "tuple") (.b "tuple") = some true
  i_list_tuple : T.isi (.b "list") (.b "tuple") = some false
  i_own_tuple : T.isi (.own 1) (.b "tuple") = some false
  i_NoneType_own : T.isi (.b "NoneType") (.own 1) = some false
  i_bool_own : T.isi (.b "bool") (.own 1) = some false
  i_int_own : T.isi (.b "int") (.own 1) = some false
  i_str_own : T.isi (.b "str") (.own 1) = some false
  i_tuple_own : T.isi (.b "tuple") (.own 1) = some false
  i_list_own : T.isi (.b "list") (.own 1) = some false
  i_own_own : T.isi (.own 1) (.own 1) = some true
  k_NoneType : Kd.b "NoneType" ∈ T.kinds
  k_bool : Kd.b "bool" ∈ T.kinds
  k_int : Kd.b "int" ∈ T.kinds
  k_str : Kd.b "str" ∈ T.kinds
  k_tuple : Kd.b "tuple" ∈ T.kinds
  k_list : Kd.b "list" ∈ T.kinds
  k_own : Kd.own 1 ∈ T.kinds
  c1 : T.cl 1 = some ⟨24, false⟩
  lay1 : T.lay 1 = [("held_size" : Str), ("held_turns" : Str), ("held_calendar" : Str), ("held_slips" : Str), ("held_gap" : Str)]
  len1 : T.len 1 = some 25
  bool1 : T.bool 1 = some 26
  str1 : T.str 1 = some 27
  eq1 : T.eq 1 = some 28
  p_size : T.prop 1 ("size" : Str) = some 29
  p_turns : T.prop 1 ("turns" : Str) = some 30
  p_calendar : T.prop 1 ("calendar" : Str) = some 31
  p_slips : T.prop 1 ("slips" : Str) = some 32
  p_gap : T.prop 1 ("gap" : Str) = some 33
  q_held_size : T.prop 1 ("held_size" : Str) = none
  q_held_turns : T.prop 1 ("held_turns" : Str) = none
  q_held_calendar : T.prop 1 ("held_calendar" : Str) = none
  q_held_slips : T.prop 1 ("held_slips" : Str) = none
  q_held_gap : T.prop 1 ("held_gap" : Str) = none
structure Urn (T : Tab) : Prop where
  f14 : T.fn 14 = some fn14
  n14 : T.np 14 = 2
  f15 : T.fn 15 = some fn15
  n15 : T.np 15 = 2
  f16 : T.fn 16 = some fn16
  n16 : T.np 16 = 2
  f17 : T.fn 17 = some fn17
  n17 : T.np 17 = 2
  f18 : T.fn 18 = some fn18
  n18 : T.np 18 = 2
  f19 : T.fn 19 = some fn19
  n19 : T.np 19 = 3
  s14 : T.shape 14 2 [] = some (plainSh 2)
  s15 : T.shape 15 2 [] = some (plainSh 2)
  s16 : T.shape 16 2 [] = some (plainSh 2)
  s17 : T.shape 17 2 [] = some (plainSh 2)
  s18 : T.shape 18 2 [] = some (plainSh 2)
end MP
end S_MRb
section S_RUa
/-! RUa: the urn. -/
namespace MP
open PySem L2
def urnO (a b c : Int) : O := .lst [.d (.int a), .d (.int b), .d (.int c)]
/-- h1 is h but for what is drawn of the urn at u -/
structure Sd (u : Nat) (h h1 : Hh) : Prop where
  lt : u < h.length
  bc : Clo h
  ex : ∃ a b c : Int, 0 ≤ a ∧ 0 ≤ b ∧ b < 4294967296 ∧ h1 = h.set u (urnO a b c)
theorem urnO_below (n : Nat) (a b c : Int) : (urnO a b c).below n = true := rfl
section
variable {u : Nat} {h h1 h2 : Hh}
theorem Sd.len (s : Sd u h h1) : h1.length = h.length := by
  obtain ⟨_, _, ⟨a, b, c, _, _, _, rfl⟩⟩ := s; simp
theorem Sd.cl (s : Sd u h h1) : Clo h1 := by
  obtain ⟨_, bc, ⟨a, b, c, _, _, _, rfl⟩⟩ := s; exact bc.set (urnO_below _ _ _ _)
theorem Sd.refl (s : Sd u h h1) : Sd u h1 h1 := by
  obtain ⟨lt, bc, ⟨a, b, c, h1, h2, h3, rfl⟩⟩ := s
  exact ⟨by simpa using lt, bc.set (urnO_below _ _ _ _), a, b, c, h1, h2, h3, by simp⟩
theorem Sd.trans (s : Sd u h h1) (t : Sd u h1 h2) : Sd u h h2 := by
  obtain ⟨lt, bc, ⟨a, b, c, _, _, _, rfl⟩⟩ := s
  obtain ⟨_, _, ⟨a', b', c', i1, i2, i3, rfl⟩⟩ := t
  exact ⟨lt, bc, a', b', c', i1, i2, i3, by simp⟩
theorem Sd.app {o : O} (s : Sd u h h1) (hb : o.below (h.length + 1) = true) : Sd u (h ++ [o]) (h1 ++ [o]) := by
  obtain ⟨lt, bc, ⟨a, b, c, i1, i2, i3, rfl⟩⟩ := s
  exact ⟨by simp; omega, bc.app hb, a, b, c, i1, i2, i3, by rw [List.set_append_left _ _ lt]⟩
theorem Sd.unapp {o : O} (lt : u < h.length) (bc : Clo h) (s : Sd u (h ++ [o]) h2) : ∃ h1, Sd u h h1 ∧ h2 = h1 ++ [o] := by
  obtain ⟨_, _, ⟨a, b, c, i1, i2, i3, rfl⟩⟩ := s
  exact ⟨h.set u (urnO a b c), ⟨lt, bc, a, b, c, i1, i2, i3, rfl⟩, by rw [List.set_append_left _ _ lt]⟩
/-- the base may carry what is local -/
theorem Sd.up {o o' : O} (s : Sd u (h ++ [o]) (h1 ++ [o])) (lt : u < h.length) (bc : Clo h) : Sd u h h1 := by
  obtain ⟨h', s', e⟩ := s.unapp lt bc
  have := List.append_inj_left' e rfl
  subst this
  exact s'
end
theorem take_ok {T : Tab} (U : Urn T) {n u : Nat} {h0 h : Hh} {m : Int} (s : Sd u h0 h) (hm : 0 < m) (hm2 : m < 1073741824) : ∃ r h1, callN T (n + 1) 15 [.ref u, .d (.int m)] h = .ok (.d (.int r)) h1 ∧ 0 ≤ r ∧ r < m ∧ Sd u h0 h1 := by
  obtain ⟨lt, bc, ⟨a, b, c, ha, hb, hb2, rfl⟩⟩ := s
  have hg : ∀ o : O, (h0.set u o)[u]? = some o := fun o => List.getElem?_set_self lt
  have hcl : ∀ (a b c : Int) (x : D), retA h0.length (.d x) (h0.set u (.lst [.d (.int a), .d (.int b), .d (.int c)])) = some (.d x, (h0.set u (.lst [.d (.int a), .d (.int b), .d (.int c)]))) := fun a b c x => by
    have := retD0 (x := x) (bc.set (i := u) (urnO_below _ a b c))
    rwa [List.length_set] at this
  have hw : -(2 ^ 64 : Int) < b ∧ b < 2 ^ 64 := ⟨by omega, by omega⟩
  have hs0 : ∀ (x y z v : A), setA (.ref u) (.d (.int 0)) v (h0.set u (.lst [x, y, z])) = some (h0.set u (.lst [v, y, z])) := fun x y z v => by
    have := setA_lst (k := 0) (v := v) (hg (.lst [x, y, z])) (by simp)
    simpa using this
  have hs1 : ∀ (x y z v : A), setA (.ref u) (.d (.int 1)) v (h0.set u (.lst [x, y, z])) = some (h0.set u (.lst [x, v, z])) := fun x y z v => by
    have := setA_lst (k := 1) (v := v) (hg (.lst [x, y, z])) (by simp)
    simpa using this
  have hs2 : ∀ (x y z v : A), setA (.ref u) (.d (.int 2)) v (h0.set u (.lst [x, y, z])) = some (h0.set u (.lst [x, y, v])) := fun x y z v => by
    have := setA_lst (k := 2) (v := v) (hg (.lst [x, y, z])) (by simp)
    simpa using this
  generalize hB : (b * (b % 16033 + 27011) + 50021 * (c + 1) + 37) % 2147483123 = B
  have hB1 : 0 ≤ B := by rw [← hB]; exact Int.emod_nonneg _ (by decide)
  have hB2 : B < 2147483123 := by rw [← hB]; exact Int.emod_lt_of_pos _ (by decide)
  have hc1 : (-(2 ^ 64 : Int) < 50021 ∧ (50021 : Int) < 2 ^ 64) := by decide
  have hc2 : (0 : Int) < 2147483123 := by decide
  have hc3 : (0 : Int) < 16033 := by decide
  have hc4 : (0 : Int) < 109 ∧ (109 : Int) < 1073741824 := by decide
  by_cases h0a : 0 < a
  · refine ⟨a % m, h0.set u (urnO (a / m) B (c + 1)), ?_, Int.emod_nonneg _ (by omega), Int.emod_lt_of_pos _ hm, lt, bc, a / m, B, c + 1, Int.ediv_nonneg ha (by omega), hB1, by omega, rfl⟩
    rw [callN]
    simp only [U.f15, fn15, fn15_a0, fn15_a1, fn15_a2, fn15_a3, fn15_a4, fn15_b0, fn15_b1]
    simp only [exSs, exS1, ev, evT, evP, evs, evB, evo_none, evo_some, evc_none, evc_some, evi_val, evi_rng, evi_enum, evL, evLs, vt, getS, opt_some, optH_some, Out.bind_ok, Out.bind_ex, Out.st_ok, Out.st_ex, OS.seq_nx, OS.seq_rt, OS.seq_ex, OS.seq_ct, OS.seq_bk, startS, Es.len, tg_name, tg_tup, tgs_nil, tgs_cons, Tgs.len, Lvs.len, setAll, List.getElem?_cons_zero, List.getElem?_cons_succ, List.set_cons_zero, List.set_cons_succ, List.map_cons, List.map_nil, List.cons_append, List.nil_append, List.replicate, List.length_cons, List.length_nil, Nat.reduceAdd, Nat.reduceSub, if_true, if_false, if_pos, reduceIte, reduceCtorEq, finC, blA, argF, plainSh, List.range', fillA, callF, Option.map_some, Option.bind_some, Option.map_none, Option.bind_none, and_self, true_and, and_true, intA, wipeS, Bool.not_true, Bool.not_false, Bool.false_eq_true, decide_true, decide_false, Bool.true_eq_false, clsA, binA, cmpO, cmpA, mtF, biF, Mt.ty, bmF, tyA, truthO, truthA, truthD, ne_eq, not_true_eq_false, not_false_eq_true, String.reduceBEq, beq_self_eq_true, addA_int, addA_str, subA, mulA, fdivA, modA, powA, ordA, negA, intTA, divmodA, absA, lenO, lenA, maxA, minA, max2A, min2A, urnO, subF_ref (hg _), atI_0, atI_1, atI_2, hs0, hs1, hs2, hw, hc1, hc2, hc3, true_or, hB, h0a, hm, hm2, List.length_set, hcl]
  · refine ⟨B / 109 % m, h0.set u (urnO a B (c + 1)), ?_, Int.emod_nonneg _ (by omega), Int.emod_lt_of_pos _ hm, lt, bc, a, B, c + 1, ha, hB1, by omega, rfl⟩
    rw [callN]
    simp only [U.f15, fn15, fn15_a0, fn15_a1, fn15_a2, fn15_a3, fn15_a4, fn15_b0, fn15_b1]
    simp only [exSs, exS1, ev, evT, evP, evs, evB, evo_none, evo_some, evc_none, evc_some, evi_val, evi_rng, evi_enum, evL, evLs, vt, getS, opt_some, optH_some, Out.bind_ok, Out.bind_ex, Out.st_ok, Out.st_ex, OS.seq_nx, OS.seq_rt, OS.seq_ex, OS.seq_ct, OS.seq_bk, startS, Es.len, tg_name, tg_tup, tgs_nil, tgs_cons, Tgs.len, Lvs.len, setAll, List.getElem?_cons_zero, List.getElem?_cons_succ, List.set_cons_zero, List.set_cons_succ, List.map_cons, List.map_nil, List.cons_append, List.nil_append, List.replicate, List.length_cons, List.length_nil, Nat.reduceAdd, Nat.reduceSub, if_true, if_false, if_pos, reduceIte, reduceCtorEq, finC, blA, argF, plainSh, List.range', fillA, callF, Option.map_some, Option.bind_some, Option.map_none, Option.bind_none, and_self, true_and, and_true, intA, wipeS, Bool.not_true, Bool.not_false, Bool.false_eq_true, decide_true, decide_false, Bool.true_eq_false, clsA, binA, cmpO, cmpA, mtF, biF, Mt.ty, bmF, tyA, truthO, truthA, truthD, ne_eq, not_true_eq_false, not_false_eq_true, String.reduceBEq, beq_self_eq_true, addA_int, addA_str, subA, mulA, fdivA, modA, powA, ordA, negA, intTA, divmodA, absA, lenO, lenA, maxA, minA, max2A, min2A, urnO, subF_ref (hg _), atI_0, atI_1, atI_2, hs0, hs1, hs2, hw, hc1, hc2, hc3, hc4, true_or, hB, h0a, hm, hm2, List.length_set, hcl]
end MP
end S_RUa
section S_MRc
/-! MRc: values compared, comprehensions. -/
namespace MP
open PySem L2
def clsD : D → Option Nat
  | .obj c _ => some c
  | _ => none
theorem clsA_d (x : D) (h : Hh) : clsA (.d x) h = clsD x := by cases x <;> rfl
section
variable {C : CallT} {tb : Nat → Option Nat} {ks : List Kd} {h : Hh}
theorem eqO_d {x y : D} (hc : clsD x = none) (px : x.pure = true) (py : y.pure = true) (hd : x.depth ≤ 64) : eqO C tb ks false (.d x) (.d y) h = some (.d (.bl (x.eqb y)), h) := by
  have : min x.depth y.depth ≤ 64 := Nat.le_trans (Nat.min_le_left _ _) hd
  simp [eqO, clsA_d, hc, eqA, asP, px, py, this]
theorem neO_d {x y : D} (hc : clsD x = none) (px : x.pure = true) (py : y.pure = true) (hd : x.depth ≤ 64) : eqO C tb ks true (.d x) (.d y) h = some (.d (.bl (!x.eqb y)), h) := by
  have : min x.depth y.depth ≤ 64 := Nat.le_trans (Nat.min_le_left _ _) hd
  simp [eqO, clsA_d, hc, neA, asP, px, py, this]
theorem eqO_int {i j : Int} : eqO C tb ks false (.d (.int i)) (.d (.int j)) h = some (.d (.bl (i == j)), h) := by
  rw [eqO_d rfl rfl rfl (by simp [D.depth])]; rfl
theorem neO_int {i j : Int} : eqO C tb ks true (.d (.int i)) (.d (.int j)) h = some (.d (.bl (i != j)), h) := by
  rw [neO_d rfl rfl rfl (by simp [D.depth])]; rfl
theorem eqO_str {i j : Str} : eqO C tb ks false (.d (.str i)) (.d (.str j)) h = some (.d (.bl (i == j)), h) := by
  rw [eqO_d rfl rfl rfl (by simp [D.depth])]; rfl
theorem neO_str {i j : Str} : eqO C tb ks true (.d (.str i)) (.d (.str j)) h = some (.d (.bl (i != j)), h) := by
  rw [neO_d rfl rfl rfl (by simp [D.depth])]; rfl
theorem eqO_bl {i j : Bool} : eqO C tb ks false (.d (.bl i)) (.d (.bl j)) h = some (.d (.bl (i == j)), h) := by
  rw [eqO_d rfl rfl rfl (by simp [D.depth])]; rfl
theorem neO_bl {i j : Bool} : eqO C tb ks true (.d (.bl i)) (.d (.bl j)) h = some (.d (.bl (i != j)), h) := by
  rw [neO_d rfl rfl rfl (by simp [D.depth])]; rfl
end
mutual
theorem eqb_refl : ∀ x : D, x.pure = true → x.eqb x = true
  | .non, _ => by simp [D.eqb]
  | .bl _, _ => by simp [D.eqb]
  | .int _, _ => by simp [D.eqb]
  | .str _, _ => by simp [D.eqb]
  | .tup xs, h => by rw [D.eqb]; exact eqbL_refl xs (by simpa [D.pure] using h)
  | .lst xs, h => by rw [D.eqb]; exact eqbL_refl xs (by simpa [D.pure] using h)
  | .dk _, h => by simp [D.pure] at h
  | .dt _, h => by simp [D.pure] at h
  | .obj _ _, h => by simp [D.pure] at h
  | .fn _, h => by simp [D.pure] at h
  | .cls _, h => by simp [D.pure] at h
  | .scr _, h => by simp [D.pure] at h
theorem eqbL_refl : ∀ xs : List D, pureL xs = true → eqbL xs xs = true
  | [], _ => by simp [eqbL]
  | x :: r, h => by
    rw [pureL, Bool.and_eq_true] at h
    rw [eqbL, eqb_refl x h.1, eqbL_refl r h.2]; rfl
end

theorem tupleA_lst {xs : List D} {h : Hh} : tupleA [.d (.lst xs)] h = some (.d (.tup xs), h) := by
  have := allD_map xs
  simp only [tupleA, asLst, this, Option.map_some]
theorem tupleA_tup {xs : List D} {h : Hh} : tupleA [.d (.tup xs)] h = some (.d (.tup xs), h) := rfl
theorem tupA_0 : tupA [] = some (.d (.tup [])) := by simp [tupA, allD, turnsD]
theorem tupA_1 : (∀ (x : Str), tupA [A.d (.str x)] = some (.d (.tup [(.str x)]))) ∧ (∀ (i : Int), tupA [A.d (.int i)] = some (.d (.tup [(.int i)]))) ∧ (∀ (o : Bool), tupA [A.d (.bl o)] = some (.d (.tup [(.bl o)]))) ∧ (∀ (c : Nat) (fs : List D), tupA [A.d (.obj c fs)] = some (.d (.tup [(.obj c fs)]))) ∧ (∀ (fs : List D), tupA [A.d (.lst fs)] = some (.d (.tup [(.lst fs)]))) := by
  refine ⟨?_, ?_, ?_, ?_, ?_⟩ <;> intros <;> simp [tupA, allD, sizeLine, turnsD]
theorem tupA_2 : (∀ (x : Str) (y : D), tupA [A.d (.str x), A.d y] = some (.d (.tup [(.str x), y]))) ∧ (∀ (i : Int) (y : D), tupA [A.d (.int i), A.d y] = some (.d (.tup [(.int i), y]))) ∧ (∀ (o : Bool) (y : D), tupA [A.d (.bl o), A.d y] = some (.d (.tup [(.bl o), y]))) ∧ (∀ (c : Nat) (fs : List D) (y : D), tupA [A.d (.obj c fs), A.d y] = some (.d (.tup [(.obj c fs), y]))) ∧ (∀ (fs : List D) (y : D), tupA [A.d (.lst fs), A.d y] = some (.d (.tup [(.lst fs), y]))) := by
  refine ⟨?_, ?_, ?_, ?_, ?_⟩ <;> intros <;> simp [tupA, allD, sizeLine, turnsD]
theorem tupA_3 : (∀ (x : Str) (y z : D), tupA [A.d (.str x), A.d y, A.d z] = some (.d (.tup [(.str x), y, z]))) ∧ (∀ (i : Int) (y z : D), tupA [A.d (.int i), A.d y, A.d z] = some (.d (.tup [(.int i), y, z]))) ∧ (∀ (o : Bool) (y z : D), tupA [A.d (.bl o), A.d y, A.d z] = some (.d (.tup [(.bl o), y, z]))) ∧ (∀ (c : Nat) (fs : List D) (y z : D), tupA [A.d (.obj c fs), A.d y, A.d z] = some (.d (.tup [(.obj c fs), y, z]))) ∧ (∀ (fs : List D) (y z : D), tupA [A.d (.lst fs), A.d y, A.d z] = some (.d (.tup [(.lst fs), y, z]))) := by
  refine ⟨?_, ?_, ?_, ?_, ?_⟩ <;> intros <;> simp [tupA, allD, sizeLine, turnsD]
theorem tupA_4 : (∀ (x : Str) (y z v : D), tupA [A.d (.str x), A.d y, A.d z, A.d v] = some (.d (.tup [(.str x), y, z, v]))) ∧ (∀ (i : Int) (y z v : D), tupA [A.d (.int i), A.d y, A.d z, A.d v] = some (.d (.tup [(.int i), y, z, v]))) ∧ (∀ (o : Bool) (y z v : D), tupA [A.d (.bl o), A.d y, A.d z, A.d v] = some (.d (.tup [(.bl o), y, z, v]))) ∧ (∀ (c : Nat) (fs : List D) (y z v : D), tupA [A.d (.obj c fs), A.d y, A.d z, A.d v] = some (.d (.tup [(.obj c fs), y, z, v]))) ∧ (∀ (fs : List D) (y z v : D), tupA [A.d (.lst fs), A.d y, A.d z, A.d v] = some (.d (.tup [(.lst fs), y, z, v]))) := by
  refine ⟨?_, ?_, ?_, ?_, ?_⟩ <;> intros <;> simp [tupA, allD, sizeLine, turnsD]
theorem tupA_5 : (∀ (x : Str) (y z v w : D), tupA [A.d (.str x), A.d y, A.d z, A.d v, A.d w] = some (.d (.tup [(.str x), y, z, v, w]))) ∧ (∀ (i : Int) (y z v w : D), tupA [A.d (.int i), A.d y, A.d z, A.d v, A.d w] = some (.d (.tup [(.int i), y, z, v, w]))) ∧ (∀ (o : Bool) (y z v w : D), tupA [A.d (.bl o), A.d y, A.d z, A.d v, A.d w] = some (.d (.tup [(.bl o), y, z, v, w]))) ∧ (∀ (c : Nat) (fs : List D) (y z v w : D), tupA [A.d (.obj c fs), A.d y, A.d z, A.d v, A.d w] = some (.d (.tup [(.obj c fs), y, z, v, w]))) ∧ (∀ (fs : List D) (y z v w : D), tupA [A.d (.lst fs), A.d y, A.d z, A.d v, A.d w] = some (.d (.tup [(.lst fs), y, z, v, w]))) := by
  refine ⟨?_, ?_, ?_, ?_, ?_⟩ <;> intros <;> simp [tupA, allD, sizeLine, turnsD]

/-! ### comprehensions -/
theorem compF_of {mu : Bool} {fi : Sl → Hh → Out (List A × Option Nat)} {ft : A → Sl → Option Sl} {ff : Sl → Hh → Out Bool} {fe : Sl → Hh → Out A} {own : List Nat} {s : Sl} {h h1 h2 : Hh} {p : List A × Option Nat} {ys : List A} {r : A × Hh}
    (e1 : fi s h = .ok p h1) (e2 : loopC (turnC ft ff fe (wipeS s own)) p.2 h1 p.1 h1 = .ok ys h2) (e3 : newL mu ys h2 = some r) : compF mu fi ft ff fe own s h = .ok r.1 r.2 := by
  unfold compF
  rw [e1, Out.bind_ok, e2, Out.bind_ok, e3]; rfl
theorem newL_d {ds : List D} {h : Hh} (hl : ds.length ≤ sizeLine) : newL false (ds.map .d) h = some (.d (.lst ds), h) := by
  simp [newL, hl, allD_map]
theorem turnC_name {i : Nat} {ff : Sl → Hh → Out Bool} {fe : Sl → Hh → Out A} {s : Sl} {x : A} {h : Hh} : turnC (Tg.name i).set ff fe s x h = (ff (s.set i (some x)) h).bind fun k h1 => if k = true then (fe (s.set i (some x)) h1).bind fun y h2 => .ok (some y) h2 else .ok none h1 := by
  unfold turnC; rw [tg_name]
/-- [e for x in xs], read only, no condition -/
theorem comp_map {T : Tab} {C : CallT} {it : It} {i : Nat} {e : E} {own : List Nat} {s : Sl} {h h1 : Hh} {xs : List A} {m : Option Nat} {f : A → D}
    (e1 : evi T C it s h = .ok (xs, m) h1) (e2 : ∀ x ∈ xs, (evP T C e).v ((wipeS s own).set i (some x)) h1 = .ok (.d (f x)) h1) (hl : xs.length ≤ sizeLine) : compF false (evi T C it) (Tg.name i).set (evc T C .none) (evP T C e).v own s h = .ok (.d (.lst (xs.map f))) h1 := by
  refine compF_of (ys := (xs.map f).map .d) (r := (.d (.lst (xs.map f)), h1)) e1 ?_ (newL_d (by simpa using hl))
  rw [List.map_map]
  refine loopC_map fun x hx => ?_
  rw [turnC_name, evc_none, Out.bind_ok, if_pos rfl, e2 x hx]; rfl
theorem rng1 {n : Nat} (hn : n < 1000000) : rngA [.d (.int n)] = some (rngL 0 n, none) := by
  have : -(2 ^ 62 : Int) ≤ (n : Int) ∧ (n : Int) < 2 ^ 62 := ⟨by omega, by omega⟩
  simp only [rngA, this, and_self, if_true, Int.toNat_natCast]
theorem lt_size {n : Nat} (h : n < 1000000) : n ≤ sizeLine := by unfold sizeLine; omega
theorem lt_size' {n : Nat} (h : n < 1000000) : n < sizeLine := by unfold sizeLine; omega
theorem newL_m {xs : List A} {h : Hh} (hl : xs.length < 1000000) : newL true xs h = some (.ref h.length, h ++ [.lst xs]) := by
  simp [newL, lt_size hl]
theorem newL_n {h : Hh} : newL true [] h = some (.ref h.length, h ++ [.lst []]) := newL_m (by simp)
end MP
end S_MRc
section S_RUb
/-! RUb: things drawn: one of a list, orders. -/
namespace MP
open PySem L2
section
variable {T : Tab} {n u : Nat} {h0 h h1 h2 : Hh}
theorem Sd.ret {x : D} (s : Sd u h0 h) (s1 : Sd u h0 h1) : retA h.length (.d x) h1 = some (.d x, h1) := by
  have := retD0 (x := x) s1.cl
  rwa [s1.len, ← s.len] at this
theorem Sd.retT {x : D} {t : Hh} (s : Sd u h0 h) (s1 : Sd u h0 h1) : retA h.length (.d x) (h1 ++ t) = some (.d x, h1) := by
  have := retD (x := x) s1.cl t
  rwa [s1.len, ← s.len] at this
theorem of_ok (U : Urn T) {xs : List D} (s : Sd u h0 h) (hx : xs ≠ []) (hl : xs.length < 1073741824) : ∃ x h1, callN T (n + 2) 16 [.ref u, .d (.lst xs)] h = .ok (.d x) h1 ∧ x ∈ xs ∧ Sd u h0 h1 := by
  have hpos : (0 : Int) < (xs.length : Int) := by
    have := List.length_pos_iff.mpr hx; omega
  obtain ⟨r, h1, e, r1, r2, s1⟩ := take_ok U (n := n) (m := xs.length) s hpos (by omega)
  have hr : r.toNat < xs.length := by omega
  refine ⟨xs[r.toNat], h1, ?_, List.getElem_mem _, s1⟩
  have ha : L2.atI (xs.map A.d) r = some (.d xs[r.toNat]) := by
    rw [atI_of r1, List.getElem?_map, List.getElem?_eq_getElem hr]; rfl
  rw [callN]
  simp only [U.f16, fn16, fn16_a0]
  simp -implicitDefEqProofs only [exSs, exS1, ev, evT, evP, evs, evB, evo_none, evo_some, evc_none, evc_some, evi_val, evi_rng, evi_enum, evL, evLs, vt, getS, opt_some, optH_some, Out.bind_ok, Out.bind_ex, Out.st_ok, Out.st_ex, OS.seq_nx, OS.seq_rt, OS.seq_ex, OS.seq_ct, OS.seq_bk, startS, Es.len, tg_name, tg_tup, tgs_nil, tgs_cons, Tgs.len, Lvs.len, setAll, List.getElem?_cons_zero, List.getElem?_cons_succ, List.set_cons_zero, List.set_cons_succ, List.map_cons, List.map_nil, List.cons_append, List.nil_append, List.replicate, List.length_cons, List.length_nil, Nat.reduceAdd, Nat.reduceSub, if_true, if_false, if_pos, reduceIte, reduceCtorEq, finC, blA, argF, plainSh, List.range', fillA, callF, Option.map_some, Option.bind_some, Option.map_none, Option.bind_none, and_self, true_and, and_true, intA, wipeS, Bool.not_true, Bool.not_false, Bool.false_eq_true, decide_true, decide_false, Bool.true_eq_false, clsA, binA, cmpO, cmpA, mtF, biF, Mt.ty, bmF, tyA, truthO, truthA, truthD, ne_eq, not_true_eq_false, not_false_eq_true, String.reduceBEq, beq_self_eq_true, addA_int, addA_str, subA, mulA, fdivA, modA, powA, ordA, negA, intTA, divmodA, absA, lenO, lenA, maxA, minA, max2A, min2A, U.s15, U.n15, asSeq, asLst, List.length_map, e, subF_lst, ha, s.ret s1]
def iL (l : List Nat) : List D := l.map fun (n : Nat) => D.int n
theorem iL_len (l : List Nat) : (iL l).length = l.length := by simp [iL]
theorem rngL_get {lo : Int} {m k : Nat} {x : A} (e : (rngL lo m)[k]? = some x) : k < m ∧ x = .d (.int (lo + k)) := by
  unfold rngL at e
  rw [List.getElem?_map] at e
  by_cases hk : k < m
  · rw [List.getElem?_range hk] at e
    exact ⟨hk, by cases e; rfl⟩
  · rw [List.getElem?_eq_none (by simpa using hk)] at e
    cases e
theorem rngL_len (lo : Int) (m : Nat) : (rngL lo m).length = m := by simp [rngL]
theorem insert_perm {fs : List Nat} {k r : Nat} (p : fs.Perm (List.range k)) : (fs.take r ++ [k] ++ fs.drop r).Perm (List.range (k + 1)) := by
  have a : (fs.take r ++ [k] ++ fs.drop r).Perm ([k] ++ (fs.take r ++ fs.drop r)) := by
    rw [← List.append_assoc]
    exact (List.perm_append_comm).append_right _
  rw [List.take_append_drop] at a
  refine a.trans ?_
  rw [List.range_succ]
  exact (List.perm_append_comm).trans (p.append_right _)
theorem image_step (U : Urn T) {m k : Nat} {q : Hh} {fs : List Nat} (s : Sd u h0 h) (hq : Sd u h q) (pf : fs.Perm (List.range k)) (hk : k < 1000) : ∃ r q3, Sd u h q3 ∧ exSs T (callN T (n + 1)) fn18_b0 [some (.ref u), some (.d (.int m)), some (.ref h.length), some (.d (.int k))] (q ++ [.lst ((iL fs).map .d)]) = .nx [some (.ref u), some (.d (.int m)), some (.ref h.length), some (.d (.int k))] (q3 ++ [.lst ((iL (fs.take r ++ [k] ++ fs.drop r)).map .d)]) := by
  have ul : u < h.length := by rw [s.len]; exact s.lt
  have sq : Sd u (h ++ [.lst ((iL fs).map .d)]) (q ++ [.lst ((iL fs).map .d)]) := hq.app (lst_below _ _)
  obtain ⟨r, q2, e, r1, r2, sq2⟩ := take_ok U (n := n) (m := (k : Int) + 1) sq (by omega) (by omega)
  obtain ⟨q3, hq3, rfl⟩ := sq2.unapp ul s.cl
  refine ⟨r.toNat, q3, hq3, ?_⟩
  have hl : q3.length = h.length := hq3.len
  have hl1 : q.length = h.length := hq.len
  have hg : (q ++ [O.lst ((iL fs).map .d)])[h.length]? = some (.lst ((iL fs).map .d)) := by rw [← hl1]; exact get_app
  have hg3 : (q3 ++ [O.lst ((iL fs).map .d)])[h.length]? = some (.lst ((iL fs).map .d)) := by rw [← hl]; exact get_app
  have hs3 : ∀ o, (q3 ++ [O.lst ((iL fs).map .d)]).set h.length o = q3 ++ [o] := fun o => by rw [← hl]; exact set_app
  have hfl : fs.length < sizeLine := by
    have := pf.length_eq; simp at this; unfold sizeLine; omega
  have hr3 : r < 2 ^ 63 := by omega
  have hiL : iL (fs.take r.toNat ++ [k] ++ fs.drop r.toNat) = (iL fs).take r.toNat ++ [.int k] ++ (iL fs).drop r.toNat := by simp [iL]
  rw [hiL]
  simp -implicitDefEqProofs only [fn18_b0, exSs, exS1, ev, evT, evP, evs, evB, evo_none, evo_some, evc_none, evc_some, evi_val, evi_rng, evi_enum, evL, evLs, vt, getS, opt_some, optH_some, Out.bind_ok, Out.bind_ex, Out.st_ok, Out.st_ex, OS.seq_nx, OS.seq_rt, OS.seq_ex, OS.seq_ct, OS.seq_bk, startS, Es.len, tg_name, tg_tup, tgs_nil, tgs_cons, Tgs.len, Lvs.len, setAll, List.getElem?_cons_zero, List.getElem?_cons_succ, List.set_cons_zero, List.set_cons_succ, List.map_cons, List.map_nil, List.cons_append, List.nil_append, List.replicate, List.length_cons, List.length_nil, Nat.reduceAdd, Nat.reduceSub, if_true, if_false, if_pos, reduceIte, reduceCtorEq, finC, blA, argF, plainSh, List.range', fillA, callF, Option.map_some, Option.bind_some, Option.map_none, Option.bind_none, and_self, true_and, and_true, intA, wipeS, Bool.not_true, Bool.not_false, Bool.false_eq_true, decide_true, decide_false, Bool.true_eq_false, clsA, binA, cmpO, cmpA, mtF, biF, Mt.ty, bmF, tyA, truthO, truthA, truthD, ne_eq, not_true_eq_false, not_false_eq_true, String.reduceBEq, beq_self_eq_true, addA_int, addA_str, subA, mulA, fdivA, modA, powA, ordA, negA, intTA, divmodA, absA, lenO, lenA, maxA, minA, max2A, min2A, hg, U.s15, U.n15, e, insertM, hg3, hs3, List.length_map, iL_len, hfl, r1, hr3, List.map_append, List.map_take, List.map_drop]
theorem image_loop (U : Urn T) {m : Nat} (s : Sd u h0 h) (hm : m ≤ 1000) : ∃ v3 fs q, loopF (Tg.name 3).set (exSs T (callN T (n + 1)) fn18_b0) none (h ++ [.lst []]) (rngL 0 m) [some (.ref u), some (.d (.int m)), some (.ref h.length), none] (h ++ [.lst []]) = .nx [some (.ref u), some (.d (.int m)), some (.ref h.length), v3] (q ++ [.lst ((iL fs).map .d)]) ∧ Sd u h q ∧ fs.Perm (List.range m) := by
  obtain ⟨s', h', e', q, fs, hq, pf, v3, hs', hh'⟩ := loopF_inv (ft := (Tg.name 3).set) (fb := exSs T (callN T (n + 1)) fn18_b0) (m := none) (h0 := h ++ [.lst []]) (xs := rngL 0 m) (s := [some (.ref u), some (.d (.int m)), some (.ref h.length), none]) (h := h ++ [.lst []])
    (fun k s h' => ∃ q fs, Sd u h q ∧ fs.Perm (List.range k) ∧ ∃ v3, s = [some (.ref u), some (.d (.int m)), some (.ref h.length), v3] ∧ h' = q ++ [.lst ((iL fs).map .d)])
    (fun k x s2 h2 hk ⟨q, fs, hq, pf, v3, e1, e2⟩ => by
      obtain ⟨hk, rfl⟩ := rngL_get hk
      subst e1 e2
      obtain ⟨r, q3, hq3, e⟩ := image_step (n := n) (m := m) U s hq pf (by omega)
      exact ⟨[some (.ref u), some (.d (.int m)), some (.ref h.length), some (.d (.int k))], _, _, by simp [Tg.set], .inl e, trivial, q3, _, hq3, insert_perm pf, _, rfl, rfl⟩)
    ⟨h, [], s.refl, by simp, none, rfl, by simp [iL]⟩
  subst hs' hh'
  exact ⟨v3, fs, q, e', hq, by simpa [rngL_len] using pf⟩
theorem image_ok (U : Urn T) {m : Nat} (s : Sd u h0 h) (hm : m ≤ 1000) : ∃ p h1, callN T (n + 2) 18 [.ref u, .d (.int m)] h = .ok (.d (.tup (iL p))) h1 ∧ p.Perm (List.range m) ∧ Sd u h0 h1 := by
  have hb : -(2 ^ 62 : Int) ≤ (m : Int) ∧ (m : Int) < 2 ^ 62 := ⟨by omega, by omega⟩
  obtain ⟨v3, fs, q, e', hq, pf⟩ := image_loop (n := n) U s hm
  refine ⟨fs, q, ?_, pf, s.trans hq⟩
  have hl1 : q.length = h.length := hq.len
  have hg : (q ++ [O.lst ((iL fs).map .d)])[h.length]? = some (.lst ((iL fs).map .d)) := by rw [← hl1]; exact get_app
  refine callN_rt U.f18 rfl ?_ (s.refl.retT (t := [.lst ((iL fs).map .d)]) hq)
  simp -implicitDefEqProofs only [fn18_a0, fn18_a1, fn18_a2, exSs, exS1, ev, evT, evP, evs, evB, evo_none, evo_some, evc_none, evc_some, evi_val, evi_rng, evi_enum, evL, evLs, vt, getS, opt_some, optH_some, Out.bind_ok, Out.bind_ex, Out.st_ok, Out.st_ex, OS.seq_nx, OS.seq_rt, OS.seq_ex, OS.seq_ct, OS.seq_bk, startS, Es.len, tg_name, tg_tup, tgs_nil, tgs_cons, Tgs.len, Lvs.len, setAll, List.getElem?_cons_zero, List.getElem?_cons_succ, List.set_cons_zero, List.set_cons_succ, List.map_cons, List.map_nil, List.cons_append, List.nil_append, List.replicate, List.length_cons, List.length_nil, Nat.reduceAdd, Nat.reduceSub, if_true, if_false, if_pos, reduceIte, reduceCtorEq, finC, blA, argF, plainSh, List.range', fillA, callF, Option.map_some, Option.bind_some, Option.map_none, Option.bind_none, and_self, true_and, and_true, intA, wipeS, Bool.not_true, Bool.not_false, Bool.false_eq_true, decide_true, decide_false, Bool.true_eq_false, clsA, binA, cmpO, cmpA, mtF, biF, Mt.ty, bmF, tyA, truthO, truthA, truthD, ne_eq, not_true_eq_false, not_false_eq_true, String.reduceBEq, beq_self_eq_true, newL_n, rng1 (show m < 1000000 by omega), e', tupleA, asLst, hg, allD_map]
end
end MP
end S_RUb
section S_RUc
/-! RUc: names drawn. -/
namespace MP
open PySem L2
def letters : Str := "abcdefghijklmnopqrstuvwxyz"
def alnum : Str := "abcdefghijklmnopqrstuvwxyz0123456789"
/-- what is a name -/
structure NameOk (x : Str) : Prop where
  len : x.length ≤ 8
  hd : ∃ c r, x.cps.toList = c :: r ∧ c ∈ letters.cps.toList
  al : ∀ c ∈ x.cps.toList, c ∈ alnum.cps.toList
def menu : List Str := ["over", "turn", "slips", "calendar", "habit", "keep", "z9"]
def nameB (x : Str) : Bool := decide (x.length ≤ 8) && (match x.cps.toList with | c :: _ => decide (c ∈ letters.cps.toList) | [] => false) && x.cps.toList.all fun c => decide (c ∈ alnum.cps.toList)
theorem nameB_ok {x : Str} (h : nameB x = true) : NameOk x := by
  unfold nameB at h
  simp only [Bool.and_eq_true, decide_eq_true_eq, List.all_eq_true] at h
  obtain ⟨⟨h1, h2⟩, h3⟩ := h
  refine ⟨h1, ?_, h3⟩
  split at h2
  · rename_i c r e; exact ⟨c, r, e, of_decide_eq_true h2⟩
  · cases h2
def menuN (b m : Nat) : List Str := (List.range m).map fun k => menu.getD ((b + 3 * k) % 7) ""
theorem menuN_ok : ∀ b, b < 7 → ∀ m, m < 5 → ((menuN b m).Nodup ∧ ∀ x ∈ menuN b m, nameB x = true) := by decide +kernel
theorem menu_get {b k : Nat} : menu[(b + 3 * k) % 7]? = some (menu.getD ((b + 3 * k) % 7) "") := by
  have h : (b + 3 * k) % 7 < menu.length := Nat.mod_lt _ (by decide)
  rw [List.getD_eq_getElem?_getD, List.getElem?_eq_getElem h]; rfl
def sL (l : List Str) : List D := l.map .str
section
variable {T : Tab} {n u : Nat} {h0 h h1 h2 : Hh}
theorem tags_x0 {C : CallT} {b k : Nat} {s0 s1 s5 s6 s7 s8 : Option A} : (evP T C fn17_x0).v [s0, s1, some (.d (.lst (sL menu))), some (.d (.int b)), some (.d (.int k)), s5, s6, s7, s8] h = .ok (.d (.str (menu.getD ((b + 3 * k) % 7) ""))) h := by
  have e : ((b : Int) + 3 * (k : Int)) % 7 = (((b + 3 * k) % 7 : Nat) : Int) := by omega
  have c3 : (-(2 ^ 64 : Int) < 3 ∧ (3 : Int) < 2 ^ 64) := by decide
  have c7 : (0 : Int) < 7 := by decide
  simp -implicitDefEqProofs only [fn17_x0, exSs, exS1, ev, evT, evP, evs, evB, evo_none, evo_some, evc_none, evc_some, evi_val, evi_rng, evi_enum, evL, evLs, vt, getS, opt_some, optH_some, Out.bind_ok, Out.bind_ex, Out.st_ok, Out.st_ex, OS.seq_nx, OS.seq_rt, OS.seq_ex, OS.seq_ct, OS.seq_bk, startS, Es.len, tg_name, tg_tup, tgs_nil, tgs_cons, Tgs.len, Lvs.len, setAll, List.getElem?_cons_zero, List.getElem?_cons_succ, List.set_cons_zero, List.set_cons_succ, List.map_cons, List.map_nil, List.cons_append, List.nil_append, List.replicate, List.length_cons, List.length_nil, Nat.reduceAdd, Nat.reduceSub, if_true, if_false, if_pos, reduceIte, reduceCtorEq, finC, blA, argF, plainSh, List.range', fillA, callF, Option.map_some, Option.bind_some, Option.map_none, Option.bind_none, and_self, true_and, and_true, intA, wipeS, Bool.not_true, Bool.not_false, Bool.false_eq_true, decide_true, decide_false, Bool.true_eq_false, clsA, binA, cmpO, cmpA, mtF, biF, Mt.ty, bmF, tyA, truthO, truthA, truthD, ne_eq, not_true_eq_false, not_false_eq_true, String.reduceBEq, beq_self_eq_true, addA_int, addA_str, subA, mulA, fdivA, modA, powA, ordA, negA, intTA, divmodA, absA, lenO, lenA, maxA, minA, max2A, min2A, c3, c7, true_or, e, subF_lst, atI_nat, List.getElem?_map, sL, List.map_map, menu_get, Function.comp]
theorem tags_b (U : Urn T) {m : Nat} (s : Sd u h0 h) (hm : m < 5) (n : Nat) : ∃ (xs : List Str) (h1 : Hh), exSs T (callN T (n + 1)) fn17_b0 [some (.ref u), some (.d (.int m)), none, none, none, none, none, none, none] h = .rt (.d (.lst (sL xs))) h1 ∧ Sd u h0 h1 ∧ xs.length = m ∧ xs.Nodup ∧ ∀ x ∈ xs, NameOk x := by
  obtain ⟨r, h1, e, r1, r2, s1⟩ := take_ok U (n := n) (m := 7) s (by decide) (by decide)
  obtain ⟨b, rfl⟩ := Int.eq_ofNat_of_zero_le r1
  have hb : b < 7 := by omega
  obtain ⟨k1, k2⟩ := menuN_ok b hb m hm
  refine ⟨menuN b m, h1, ?_, s1, by simp [menuN], k1, fun x hx => nameB_ok (k2 x hx)⟩
  have e7 : newL false [A.d (.str "over"), A.d (.str "turn"), A.d (.str "slips"), A.d (.str "calendar"), A.d (.str "habit"), A.d (.str "keep"), A.d (.str "z9")] h = some (.d (.lst (sL menu)), h) := newL_d (ds := sL menu) (by decide)
  have et : tupA [A.d (.lst (sL menu)), A.d (.int b)] = some (.d (.tup [.lst (sL menu), .int b])) := by
    simp [tupA, turnsD, allD, lt_size]
  have hc := comp_map (T := T) (C := callN T (n + 1)) (it := .rng (.cons (.var 1) .nil)) (i := 4) (e := fn17_x0) (own := [4]) (s := [some (.ref u), some (.d (.int m)), some (.d (.lst (sL menu))), some (.d (.int b)), none, none, none, none, none]) (h := h1) (h1 := h1) (xs := rngL 0 m) (m := none) (f := fun x => match x with | .d (.int k) => .str (menu.getD ((b + 3 * k.toNat) % 7) "") | _ => .non)
    (by simp -implicitDefEqProofs only [exSs, exS1, ev, evT, evP, evs, evB, evo_none, evo_some, evc_none, evc_some, evi_val, evi_rng, evi_enum, evL, evLs, vt, getS, opt_some, optH_some, Out.bind_ok, Out.bind_ex, Out.st_ok, Out.st_ex, OS.seq_nx, OS.seq_rt, OS.seq_ex, OS.seq_ct, OS.seq_bk, startS, Es.len, tg_name, tg_tup, tgs_nil, tgs_cons, Tgs.len, Lvs.len, setAll, List.getElem?_cons_zero, List.getElem?_cons_succ, List.set_cons_zero, List.set_cons_succ, List.map_cons, List.map_nil, List.cons_append, List.nil_append, List.replicate, List.length_cons, List.length_nil, Nat.reduceAdd, Nat.reduceSub, if_true, if_false, if_pos, reduceIte, reduceCtorEq, finC, blA, argF, plainSh, List.range', fillA, callF, Option.map_some, Option.bind_some, Option.map_none, Option.bind_none, and_self, true_and, and_true, intA, wipeS, Bool.not_true, Bool.not_false, Bool.false_eq_true, decide_true, decide_false, Bool.true_eq_false, clsA, binA, cmpO, cmpA, mtF, biF, Mt.ty, bmF, tyA, truthO, truthA, truthD, ne_eq, not_true_eq_false, not_false_eq_true, String.reduceBEq, beq_self_eq_true, rng1 (show m < 1000000 by omega)])
    (fun x hx => by
      obtain ⟨k, hk⟩ := List.mem_iff_getElem?.mp hx
      obtain ⟨hk, rfl⟩ := rngL_get hk
      rw [show (0 : Int) + (k : Int) = (k : Int) by omega]
      exact tags_x0)
    (by rw [rngL_len]; exact lt_size (by omega))
  have hm' : (rngL 0 m).map (fun x => match x with | .d (.int k) => D.str (menu.getD ((b + 3 * k.toNat) % 7) "") | _ => .non) = sL (menuN b m) := by
    simp [rngL, sL, menuN]
  rw [hm'] at hc
  simp -implicitDefEqProofs only [fn17_b0, fn17_b1, exSs, exS1, ev, evT, evP, evs, evB, evo_none, evo_some, evc_none, evc_some, evi_val, evi_rng, evi_enum, evL, evLs, vt, getS, opt_some, optH_some, Out.bind_ok, Out.bind_ex, Out.st_ok, Out.st_ex, OS.seq_nx, OS.seq_rt, OS.seq_ex, OS.seq_ct, OS.seq_bk, startS, Es.len, tg_name, tg_tup, tgs_nil, tgs_cons, Tgs.len, Lvs.len, setAll, List.getElem?_cons_zero, List.getElem?_cons_succ, List.set_cons_zero, List.set_cons_succ, List.map_cons, List.map_nil, List.cons_append, List.nil_append, List.replicate, List.length_cons, List.length_nil, Nat.reduceAdd, Nat.reduceSub, if_true, if_false, if_pos, reduceIte, reduceCtorEq, finC, blA, argF, plainSh, List.range', fillA, callF, Option.map_some, Option.bind_some, Option.map_none, Option.bind_none, and_self, true_and, and_true, intA, wipeS, Bool.not_true, Bool.not_false, Bool.false_eq_true, decide_true, decide_false, Bool.true_eq_false, clsA, binA, cmpO, cmpA, mtF, biF, Mt.ty, bmF, tyA, truthO, truthA, truthD, ne_eq, not_true_eq_false, not_false_eq_true, String.reduceBEq, beq_self_eq_true, e7, U.s15, U.n15, e, et, hc]
/-- signs drawn -/
theorem tags_tail (U : Urn T) {m q : Nat} {s1 s2 s3 s4 s6 s7 s8 : Option A} (hq : q < 8) : ∀ (h : Hh) (s : Sd u h0 h), ∃ (cs : List Nat) (h1 : Hh), loopC (turnC (Tg.name 8).set (evc T (callN T (n + 1)) .none) (evP T (callN T (n + 1)) fn17_x1).v [some (.ref u), s1, s2, s3, s4, some (.d (.str alnum)), s6, s7, none]) none h (rngL 0 q) h = .ok ((sL (cs.map fun c => SX.S [c])).map .d) h1 ∧ Sd u h0 h1 ∧ cs.length = q ∧ ∀ c ∈ cs, c ∈ alnum.cps.toList := by
  intro h s
  obtain ⟨ys, h1, e, cs, rfl, hs, hl, ha⟩ := loopC_inv (fe := turnC (Tg.name 8).set (evc T (callN T (n + 1)) .none) (evP T (callN T (n + 1)) fn17_x1).v [some (.ref u), s1, s2, s3, s4, some (.d (.str alnum)), s6, s7, none]) (m := none) (h0 := h) (xs := rngL 0 q)
    (fun k ys h1 => ∃ cs : List Nat, ys = (sL (cs.map fun c => SX.S [c])).map .d ∧ Sd u h0 h1 ∧ cs.length = k ∧ ∀ c ∈ cs, c ∈ alnum.cps.toList)
    (fun k x ys h1 hx ⟨cs, e1, hs, hl, ha⟩ => by
      obtain ⟨hk, rfl⟩ := rngL_get hx
      obtain ⟨r, h2, e, r1, r2, s2⟩ := take_ok U (n := n) (m := 36) hs (by decide) (by decide)
      obtain ⟨b, rfl⟩ := Int.eq_ofNat_of_zero_le r1
      have hb : b < alnum.cps.toList.length := by
        have : alnum.cps.toList.length = 36 := by decide +kernel
        omega
      refine ⟨some (.d (.str (SX.S [alnum.cps.toList[b]]))), h2, ?_, trivial, cs ++ [alnum.cps.toList[b]], ?_, s2, by simp [hl], ?_⟩
      · have ea : strAt alnum (b : Int) = some (.str (SX.S [alnum.cps.toList[b]])) := by
          unfold strAt; rw [atI_nat, List.getElem?_eq_getElem hb]; rfl
        have el : alnum.length ≤ sizeLine := lt_size (by decide +kernel)
        rw [turnC_name]
        simp -implicitDefEqProofs only [fn17_x1, exSs, exS1, ev, evT, evP, evs, evB, evo_none, evo_some, evc_none, evc_some, evi_val, evi_rng, evi_enum, evL, evLs, vt, getS, opt_some, optH_some, Out.bind_ok, Out.bind_ex, Out.st_ok, Out.st_ex, OS.seq_nx, OS.seq_rt, OS.seq_ex, OS.seq_ct, OS.seq_bk, startS, Es.len, tg_name, tg_tup, tgs_nil, tgs_cons, Tgs.len, Lvs.len, setAll, List.getElem?_cons_zero, List.getElem?_cons_succ, List.set_cons_zero, List.set_cons_succ, List.map_cons, List.map_nil, List.cons_append, List.nil_append, List.replicate, List.length_cons, List.length_nil, Nat.reduceAdd, Nat.reduceSub, if_true, if_false, if_pos, reduceIte, reduceCtorEq, finC, blA, argF, plainSh, List.range', fillA, callF, Option.map_some, Option.bind_some, Option.map_none, Option.bind_none, and_self, true_and, and_true, intA, wipeS, Bool.not_true, Bool.not_false, Bool.false_eq_true, decide_true, decide_false, Bool.true_eq_false, clsA, binA, cmpO, cmpA, mtF, biF, Mt.ty, bmF, tyA, truthO, truthA, truthD, ne_eq, not_true_eq_false, not_false_eq_true, String.reduceBEq, beq_self_eq_true, U.s15, U.n15, e, subF_str, el, ea]
      · subst e1; simp [sL]
      · intro c hc
        rcases List.mem_append.mp hc with hc | hc
        · exact ha c hc
        · rw [List.mem_singleton.mp hc]; exact List.getElem_mem _)
    (h := h) ⟨[], rfl, s, rfl, by simp⟩
  exact ⟨cs, h1, e, hs, by simpa [rngL_len] using hl, ha⟩
theorem joinL_one : ∀ cs : List Nat, TL.joinL [] (cs.map fun c => [c]) = cs
  | [] => rfl
  | [c] => rfl
  | c :: d :: r => by
    have := joinL_one (d :: r)
    simp only [List.map_cons] at this ⊢
    rw [TL.joinL, this]; rfl
theorem join_one (cs : List Nat) : Txt.join ("" : Str) (cs.map fun c => SX.S [c]) = SX.S cs := by
  have e : ("" : Str) = SX.S [] := by decide +kernel
  have := SX.join_S [] (cs.map fun c => [c])
  rw [e, joinL_one, List.map_map] at *
  exact this
theorem strs_sL {l : List Str} {h : Hh} : strsA (.d (.lst (sL l))) h = some l := by
  have : strsD (sL l) = some l := by
    induction l with
    | nil => rfl
    | cons a r ih => simp [sL, strsD] at *; exact ih
  simp [strsA, asSeq, asLst, allD_map, this]
theorem sum_one (cs : List Nat) : ((cs.map fun c => SX.S [c]).map (·.length)).sum = cs.length := by
  induction cs with
  | nil => rfl
  | cons a r ih => simp [SX.S_len] at *; omega
theorem joinM_one {cs : List Nat} {h : Hh} (hl : cs.length < 1000) : joinM (.d (.str "")) [.d (.lst (sL (cs.map fun c => SX.S [c])))] h = some (.d (.str (SX.S cs)), h) := by
  have e0 : (("" : Str)).length = 0 := by decide +kernel
  have : ((cs.map fun c => SX.S [c]).map (·.length)).sum + (cs.map fun c => SX.S [c]).length * ("" : Str).length ≤ 16777216 := by
    rw [sum_one, e0]; omega
  simp only [joinM, strs_sL, this, if_true, join_one]
theorem S_app (x : Str) (cs : List Nat) : x ++ SX.S cs = SX.S (x.cps.toList ++ cs) := by
  conv => lhs; rw [← SX.S_tl x]
  rw [SX.S_cat]
def letN (b k : Nat) : Nat := alnum.cps.toList.getD ((b + 5 * k) % 26) 0
theorem letN_ok : ∀ i, i < 26 → alnum.cps.toList.getD i 0 ∈ letters.cps.toList := by decide +kernel
theorem letN_inj : ∀ i, i < 26 → ∀ j, j < 26 → alnum.cps.toList.getD i 0 = alnum.cps.toList.getD j 0 → i = j := by decide +kernel
theorem let_al : ∀ c ∈ letters.cps.toList, c ∈ alnum.cps.toList := by decide +kernel
theorem tags_step (U : Urn T) {m b k : Nat} {fs : List Str} {q : Hh} {s2 s7 s8 : Option A} (s : Sd u h0 h) (hq : Sd u h q) (hk : k < 5) (hl : fs.length = k) : ∃ (s7' : Option A) (cs : List Nat) (q3 : Hh), Sd u h q3 ∧ cs.length < 8 ∧ (∀ c ∈ cs, c ∈ alnum.cps.toList) ∧
    exSs T (callN T (n + 1)) fn17_c0 [some (.ref u), some (.d (.int m)), s2, some (.d (.int b)), some (.d (.int k)), some (.d (.str alnum)), some (.ref h.length), s7, s8] (q ++ [.lst ((sL fs).map .d)]) = .nx [some (.ref u), some (.d (.int m)), s2, some (.d (.int b)), some (.d (.int k)), some (.d (.str alnum)), some (.ref h.length), s7', s8] (q3 ++ [.lst ((sL (fs ++ [SX.S (letN b k :: cs)])).map .d)]) := by
  have ul : u < h.length := by rw [s.len]; exact s.lt
  have sq : Sd u (h ++ [.lst ((sL fs).map .d)]) (q ++ [.lst ((sL fs).map .d)]) := hq.app (lst_below _ _)
  obtain ⟨r, q2, e, r1, r2, sq2⟩ := take_ok U (n := n) (m := 8) sq (by decide) (by decide)
  obtain ⟨z, rfl⟩ := Int.eq_ofNat_of_zero_le r1
  obtain ⟨cs, q3', e3, sq3, hc1, hc2⟩ := tags_tail (n := n) (m := m) (s1 := some (.d (.int m))) (s2 := s2) (s3 := some (.d (.int b))) (s4 := some (.d (.int k))) (s6 := some (.ref h.length)) (s7 := s7) (s8 := s8) U (show z < 8 by omega) q2 sq2
  obtain ⟨q3, hq3, rfl⟩ := sq3.unapp ul s.cl
  refine ⟨some (.d (.str (SX.S cs))), cs, q3, hq3, by omega, hc2, ?_⟩
  have hl3 : q3.length = h.length := hq3.len
  have hg3 : (q3 ++ [O.lst ((sL fs).map .d)])[h.length]? = some (.lst ((sL fs).map .d)) := by rw [← hl3]; exact get_app
  have hs3 : ∀ o, (q3 ++ [O.lst ((sL fs).map .d)]).set h.length o = q3 ++ [o] := fun o => by rw [← hl3]; exact set_app
  have hc : compF false (evi T (callN T (n + 1)) (.rng (.cons (.call 15 [] (.cons (.var 0) (.cons (.k (.int 8)) .nil)) .nil) .nil))) (Tg.name 8).set (evc T (callN T (n + 1)) .none) (evP T (callN T (n + 1)) fn17_x1).v [8] [some (.ref u), some (.d (.int m)), s2, some (.d (.int b)), some (.d (.int k)), some (.d (.str alnum)), some (.ref h.length), s7, s8] (q ++ [.lst ((sL fs).map .d)]) = .ok (.d (.lst (sL (cs.map fun c => SX.S [c])))) (q3 ++ [.lst ((sL fs).map .d)]) := by
    refine compF_of (p := (rngL 0 z, none)) (h1 := q2) (r := (.d (.lst (sL (cs.map fun c => SX.S [c]))), _)) ?_ e3 (newL_d (lt_size ?_))
    · simp -implicitDefEqProofs only [exSs, exS1, ev, evT, evP, evs, evB, evo_none, evo_some, evc_none, evc_some, evi_val, evi_rng, evi_enum, evL, evLs, vt, getS, opt_some, optH_some, Out.bind_ok, Out.bind_ex, Out.st_ok, Out.st_ex, OS.seq_nx, OS.seq_rt, OS.seq_ex, OS.seq_ct, OS.seq_bk, startS, Es.len, tg_name, tg_tup, tgs_nil, tgs_cons, Tgs.len, Lvs.len, setAll, List.getElem?_cons_zero, List.getElem?_cons_succ, List.set_cons_zero, List.set_cons_succ, List.map_cons, List.map_nil, List.cons_append, List.nil_append, List.replicate, List.length_cons, List.length_nil, Nat.reduceAdd, Nat.reduceSub, if_true, if_false, if_pos, reduceIte, reduceCtorEq, finC, blA, argF, plainSh, List.range', fillA, callF, Option.map_some, Option.bind_some, Option.map_none, Option.bind_none, and_self, true_and, and_true, intA, wipeS, Bool.not_true, Bool.not_false, Bool.false_eq_true, decide_true, decide_false, Bool.true_eq_false, clsA, binA, cmpO, cmpA, mtF, biF, Mt.ty, bmF, tyA, truthO, truthA, truthD, ne_eq, not_true_eq_false, not_false_eq_true, String.reduceBEq, beq_self_eq_true, U.s15, U.n15, e, rng1 (show z < 1000000 by omega)]
    · simp [sL, hc1]; omega
  have hj := joinM_one (cs := cs) (h := q3 ++ [.lst ((sL fs).map .d)]) (by omega)
  have c5 : (-(2 ^ 64 : Int) < 5 ∧ (5 : Int) < 2 ^ 64) := by decide
  have c26 : (0 : Int) < 26 := by decide
  have ei : ((b : Int) + 5 * (k : Int)) % 26 = (((b + 5 * k) % 26 : Nat) : Int) := by omega
  have hlt : (b + 5 * k) % 26 < 26 := Nat.mod_lt _ (by decide)
  have ha36 : alnum.cps.toList.length = 36 := by decide +kernel
  have ea : strAt alnum (((b + 5 * k) % 26 : Nat) : Int) = some (.str (SX.S [letN b k])) := by
    unfold strAt letN
    rw [atI_nat, List.getD_eq_getElem?_getD, List.getElem?_eq_getElem (by omega)]; rfl
  have el : alnum.length ≤ sizeLine := lt_size (by decide +kernel)
  have e1 : (SX.S [letN b k]).length + (SX.S cs).length ≤ sizeLine := by
    rw [SX.S_len, SX.S_len]; exact lt_size (by simp; omega)
  have e2 : SX.S [letN b k] ++ SX.S cs = SX.S (letN b k :: cs) := SX.S_cat _ _
  have efl : (List.map A.d (sL fs)).length < sizeLine := lt_size' (by simp [sL]; omega)
  simp -implicitDefEqProofs only [fn17_c0, fn17_c1, exSs, exS1, ev, evT, evP, evs, evB, evo_none, evo_some, evc_none, evc_some, evi_val, evi_rng, evi_enum, evL, evLs, vt, getS, opt_some, optH_some, Out.bind_ok, Out.bind_ex, Out.st_ok, Out.st_ex, OS.seq_nx, OS.seq_rt, OS.seq_ex, OS.seq_ct, OS.seq_bk, startS, Es.len, tg_name, tg_tup, tgs_nil, tgs_cons, Tgs.len, Lvs.len, setAll, List.getElem?_cons_zero, List.getElem?_cons_succ, List.set_cons_zero, List.set_cons_succ, List.map_cons, List.map_nil, List.cons_append, List.nil_append, List.replicate, List.length_cons, List.length_nil, Nat.reduceAdd, Nat.reduceSub, if_true, if_false, if_pos, reduceIte, reduceCtorEq, finC, blA, argF, plainSh, List.range', fillA, callF, Option.map_some, Option.bind_some, Option.map_none, Option.bind_none, and_self, true_and, and_true, intA, wipeS, Bool.not_true, Bool.not_false, Bool.false_eq_true, decide_true, decide_false, Bool.true_eq_false, clsA, binA, cmpO, cmpA, mtF, biF, Mt.ty, bmF, tyA, truthO, truthA, truthD, ne_eq, not_true_eq_false, not_false_eq_true, String.reduceBEq, beq_self_eq_true, hc, hj, hg3, appendM, efl, addA_int, addA_str, subA, mulA, fdivA, modA, powA, ordA, negA, intTA, divmodA, absA, lenO, lenA, maxA, minA, max2A, min2A, c5, c26, true_or, ei, subF_str, el, ea, e1, e2, hs3]
  simp [sL]
end
end MP
end S_RUc
section S_RUd
/-! RUd: names drawn, parts drawn. -/
namespace MP
open PySem L2
/-- the parts of a habit -/
structure Hb where
  size : Nat
  turns : List (Str × List Nat)
  cal : List (Str ⊕ Nat)
  slips : List Str
  gap : Nat
def enD : Str ⊕ Nat → D
  | .inl x => .str x
  | .inr n => .int n
def turnD (t : Str × List Nat) : D := .tup [.str t.1, .tup (iL t.2)]
def slipsL : List (List Str) := [[], ["forget"], ["forget", "twice"], ["twice"]]
structure Hb.Ok (b : Hb) : Prop where
  s1 : 1 ≤ b.size
  s2 : b.size ≤ 6
  t1 : b.turns.length ≤ 4
  t2 : (b.turns.map (·.1)).Nodup
  t3 : ∀ t ∈ b.turns, NameOk t.1
  t4 : ∀ t ∈ b.turns, t.2.Perm (List.range b.size)
  c1 : b.cal ≠ []
  c2 : b.cal.length ≤ 6
  c3 : ∀ x, .inl x ∈ b.cal → x ∈ b.turns.map (·.1)
  c4 : ∀ n, .inr n ∈ b.cal → n < b.size
  sl : b.slips ∈ slipsL
  g1 : 1 ≤ b.gap
  g2 : b.gap ≤ 6
def Hb.fs (b : Hb) : List D := [.int b.size, .tup (b.turns.map turnD), .tup (b.cal.map enD), .tup (sL b.slips), .int b.gap]
def Hb.parts (b : Hb) : D := .tup b.fs
def Hb.o (b : Hb) : D := .obj 1 b.fs
section
variable {T : Tab} {n u : Nat} {h0 h h1 h2 : Hh}
/-- the names of the second kind -/
structure Tags2 (b : Nat) (k : Nat) (fs : List Str) : Prop where
  len : fs.length = k
  at_ : ∀ i x, fs[i]? = some x → ∃ cs : List Nat, cs.length < 8 ∧ (∀ c ∈ cs, c ∈ alnum.cps.toList) ∧ x = SX.S (letN b i :: cs)
theorem Tags2.app {b k : Nat} {fs : List Str} {cs : List Nat} (t : Tags2 b k fs) (h1 : cs.length < 8) (h2 : ∀ c ∈ cs, c ∈ alnum.cps.toList) : Tags2 b (k + 1) (fs ++ [SX.S (letN b k :: cs)]) := by
  refine ⟨by simp [t.len], fun i x hx => ?_⟩
  by_cases hi : i < fs.length
  · rw [List.getElem?_append_left hi] at hx; exact t.at_ i x hx
  · rw [List.getElem?_append_right (by omega)] at hx
    have : i = k := by
      by_cases h : i - fs.length = 0
      · have := t.len; omega
      · rw [List.getElem?_eq_none (by simp; omega)] at hx; cases hx
    subst this
    rw [t.len, Nat.sub_self] at hx
    simp at hx
    exact ⟨cs, h1, h2, hx.symm⟩
theorem Tags2.ok {b k : Nat} {fs : List Str} (t : Tags2 b k fs) (hk : k ≤ 5) : fs.Nodup ∧ ∀ x ∈ fs, NameOk x := by
  refine ⟨?_, fun x hx => ?_⟩
  · refine List.pairwise_iff_getElem.mpr fun i j hi hj hij e' => ?_
    have hlen := t.len
    obtain ⟨cs, _, _, e1⟩ := t.at_ i fs[i] (List.getElem?_eq_getElem hi)
    obtain ⟨ds, _, _, e2⟩ := t.at_ j fs[j] (List.getElem?_eq_getElem hj)
    rw [e1, e2] at e'
    have := SX.S_inj e'
    have : letN b i = letN b j := by injection this
    have := letN_inj _ (Nat.mod_lt _ (by decide)) _ (Nat.mod_lt _ (by decide)) this
    omega
  · obtain ⟨i, hi⟩ := List.mem_iff_getElem?.mp hx
    obtain ⟨cs, h1, h2, rfl⟩ := t.at_ i x hi
    have hl := letN_ok _ (Nat.mod_lt (b + 5 * i) (show 26 > 0 by decide))
    refine ⟨by rw [SX.S_len]; simp; omega, ⟨_, cs, rfl, hl⟩, fun c hc => ?_⟩
    rcases List.mem_cons.mp hc with rfl | hc
    · exact let_al _ hl
    · exact h2 c hc
theorem tags_ok (U : Urn T) {m : Nat} (s : Sd u h0 h) (hm : m < 5) : ∃ (xs : List Str) (h1 : Hh), callN T (n + 2) 17 [.ref u, .d (.int m)] h = .ok (.d (.lst (sL xs))) h1 ∧ Sd u h0 h1 ∧ xs.length = m ∧ xs.Nodup ∧ ∀ x ∈ xs, NameOk x := by
  obtain ⟨r, h1, e, r1, r2, s1⟩ := take_ok U (n := n) (m := 2) s (by decide) (by decide)
  by_cases hr : r = 0
  · subst hr
    obtain ⟨xs, h2, e2, s2, k1, k2, k3⟩ := tags_b (n := n) U s1 hm
    refine ⟨xs, h2, ?_, s2, k1, k2, k3⟩
    refine callN_rt U.f17 rfl ?_ (s.ret s2)
    simp -implicitDefEqProofs only [fn17_a0, exSs, exS1, ev, evT, evP, evs, evB, evo_none, evo_some, evc_none, evc_some, evi_val, evi_rng, evi_enum, evL, evLs, vt, getS, opt_some, optH_some, Out.bind_ok, Out.bind_ex, Out.st_ok, Out.st_ex, OS.seq_nx, OS.seq_rt, OS.seq_ex, OS.seq_ct, OS.seq_bk, startS, Es.len, tg_name, tg_tup, tgs_nil, tgs_cons, Tgs.len, Lvs.len, setAll, List.getElem?_cons_zero, List.getElem?_cons_succ, List.set_cons_zero, List.set_cons_succ, List.map_cons, List.map_nil, List.cons_append, List.nil_append, List.replicate, List.length_cons, List.length_nil, Nat.reduceAdd, Nat.reduceSub, if_true, if_false, if_pos, reduceIte, reduceCtorEq, finC, blA, argF, plainSh, List.range', fillA, callF, Option.map_some, Option.bind_some, Option.map_none, Option.bind_none, and_self, true_and, and_true, intA, wipeS, Bool.not_true, Bool.not_false, Bool.false_eq_true, decide_true, decide_false, Bool.true_eq_false, clsA, binA, cmpO, cmpA, mtF, biF, Mt.ty, bmF, tyA, truthO, truthA, truthD, ne_eq, not_true_eq_false, not_false_eq_true, String.reduceBEq, beq_self_eq_true, U.s15, U.n15, e, eqO_int, e2]
  · have hr' : (r == (0 : Int)) = false := by simpa using hr
    obtain ⟨r, h2, e2, r3, r4, s2⟩ := take_ok U (n := n) (m := 26) s1 (by decide) (by decide)
    obtain ⟨b, rfl⟩ := Int.eq_ofNat_of_zero_le r3
    have hl : ∀ v : Option A, ∃ v4 v7 fs q, loopF (Tg.name 4).set (exSs T (callN T (n + 1)) fn17_c0) none (h2 ++ [.lst []]) (rngL 0 m) [some (.ref u), some (.d (.int m)), none, some (.d (.int b)), none, some (.d (.str alnum)), some (.ref h2.length), none, none] (h2 ++ [.lst []]) = .nx [some (.ref u), some (.d (.int m)), none, some (.d (.int b)), v4, some (.d (.str alnum)), some (.ref h2.length), v7, none] (q ++ [.lst ((sL fs).map .d)]) ∧ Sd u h2 q ∧ Tags2 b m fs := fun v => by
      obtain ⟨s', h', e', q, fs, hq, pf, v4, v7, hs', hh'⟩ := loopF_inv (ft := (Tg.name 4).set) (fb := exSs T (callN T (n + 1)) fn17_c0) (m := none) (h0 := h2 ++ [.lst []]) (xs := rngL 0 m) (s := [some (.ref u), some (.d (.int m)), none, some (.d (.int b)), none, some (.d (.str alnum)), some (.ref h2.length), none, none]) (h := h2 ++ [.lst []])
        (fun k s h' => ∃ q fs, Sd u h2 q ∧ Tags2 b k fs ∧ ∃ v4 v7, s = [some (.ref u), some (.d (.int m)), none, some (.d (.int b)), v4, some (.d (.str alnum)), some (.ref h2.length), v7, none] ∧ h' = q ++ [.lst ((sL fs).map .d)])
        (fun k x s3 h3 hk ⟨q, fs, hq, pf, v4, v7, e1, e2⟩ => by
          obtain ⟨hk, rfl⟩ := rngL_get hk
          rw [show (0 : Int) + (k : Int) = (k : Int) by omega]
          subst e1 e2
          obtain ⟨v7', cs, q3, hq3, c1, c2, e⟩ := tags_step (n := n) (m := m) (b := b) (k := k) (s2 := none) (s7 := v7) (s8 := none) U s2 hq (by omega) pf.len
          exact ⟨_, _, _, tg_name _ _ _, .inl e, trivial, q3, _, hq3, pf.app c1 c2, _, _, rfl, rfl⟩)
        ⟨h2, [], s2.refl, ⟨rfl, fun i x hx => by simp at hx⟩, none, none, rfl, by simp [sL]⟩
      subst hs' hh'
      exact ⟨v4, v7, fs, q, e', hq, by simpa [rngL_len] using pf⟩
    obtain ⟨v4, v7, fs, q, e3, hq, tg⟩ := hl none
    obtain ⟨k2, k3⟩ := tg.ok (by omega)
    have s3 := s2.trans hq
    refine ⟨fs, q, ?_, s3, tg.len, k2, k3⟩
    have hl3 : q.length = h2.length := hq.len
    have hg3 : (q ++ [O.lst ((sL fs).map .d)])[h2.length]? = some (.lst ((sL fs).map .d)) := by rw [← hl3]; exact get_app
    have hlen : h.length = h2.length := by rw [s.len, s2.len]
    have er : retA h.length (.ref h2.length) (q ++ [O.lst ((sL fs).map .d)]) = some (.d (.lst (sL fs)), q) := by
      have := s3.cl.cutT [O.lst ((sL fs).map .d)]
      rw [hl3] at this
      simp [retA, hlen, this, hg3, allD_map]
    refine callN_rt U.f17 rfl ?_ er
    have ea : ("abcdefghijklmnopqrstuvwxyz0123456789" : Str) = alnum := rfl
    simp -implicitDefEqProofs only [fn17_a0, fn17_a1, fn17_a2, fn17_a3, exSs, exS1, ev, evT, evP, evs, evB, evo_none, evo_some, evc_none, evc_some, evi_val, evi_rng, evi_enum, evL, evLs, vt, getS, opt_some, optH_some, Out.bind_ok, Out.bind_ex, Out.st_ok, Out.st_ex, OS.seq_nx, OS.seq_rt, OS.seq_ex, OS.seq_ct, OS.seq_bk, startS, Es.len, tg_name, tg_tup, tgs_nil, tgs_cons, Tgs.len, Lvs.len, setAll, List.getElem?_cons_zero, List.getElem?_cons_succ, List.set_cons_zero, List.set_cons_succ, List.map_cons, List.map_nil, List.cons_append, List.nil_append, List.replicate, List.length_cons, List.length_nil, Nat.reduceAdd, Nat.reduceSub, if_true, if_false, if_pos, reduceIte, reduceCtorEq, finC, blA, argF, plainSh, List.range', fillA, callF, Option.map_some, Option.bind_some, Option.map_none, Option.bind_none, and_self, true_and, and_true, intA, wipeS, Bool.not_true, Bool.not_false, Bool.false_eq_true, decide_true, decide_false, Bool.true_eq_false, clsA, binA, cmpO, cmpA, mtF, biF, Mt.ty, bmF, tyA, truthO, truthA, truthD, ne_eq, not_true_eq_false, not_false_eq_true, String.reduceBEq, beq_self_eq_true, U.s15, U.n15, e, eqO_int, hr', e2, newL_n, rng1 (show m < 1000000 by omega), ea, e3]
theorem tup_sL {l : List Str} {h : Hh} : asSeq (.d (.tup (sL l))) h = some ((sL l).map .d) := rfl
/-- the entries' menu -/
def menuE (xs : List Str) (m : Nat) : List D := sL xs ++ sL xs ++ sL xs ++ (List.range m).map fun i => .int (0 + (i : Nat))
theorem menuE_mem {xs : List Str} {m : Nat} {x : D} (h : x ∈ menuE xs m) : (∃ y ∈ xs, x = enD (.inl y)) ∨ ∃ k, k < m ∧ x = enD (.inr k) := by
  unfold menuE at h
  simp only [List.mem_append, sL, List.mem_map, List.mem_range] at h
  rcases h with ((h | h) | h) | ⟨k, hk, rfl⟩
  · obtain ⟨y, hy, rfl⟩ := h; exact .inl ⟨y, hy, rfl⟩
  · obtain ⟨y, hy, rfl⟩ := h; exact .inl ⟨y, hy, rfl⟩
  · obtain ⟨y, hy, rfl⟩ := h; exact .inl ⟨y, hy, rfl⟩
  · exact .inr ⟨k, hk, by simp [enD]⟩
/-- tuple([(tag, image(urn, size)) for tag in tags]) -/
theorem turns_ok (U : Urn T) {m : Nat} {xs : List Str} {s1 s2 s5 s7 s8 s9 : Option A} (s : Sd u h0 h) (hm : m ≤ 1000) (hx : xs.length < 1000) : ∃ (ts : List (Str × List Nat)) (h1 : Hh), compF false (evi T (callN T (n + 2)) (.val (.var 4))) (Tg.name 6).set (evc T (callN T (n + 2)) .none) (evP T (callN T (n + 2)) fn19_x0).v [6] [some (.ref u), s1, s2, some (.d (.int m)), some (.d (.lst (sL xs))), s5, none, s7, s8, s9] h = .ok (.d (.lst (ts.map turnD))) h1 ∧ Sd u h0 h1 ∧ ts.map (·.1) = xs ∧ ∀ t ∈ ts, t.2.Perm (List.range m) := by
  obtain ⟨ys, h1, e, ts, rfl, hs, hl, ha⟩ := loopC_inv (fe := turnC (Tg.name 6).set (evc T (callN T (n + 2)) .none) (evP T (callN T (n + 2)) fn19_x0).v [some (.ref u), s1, s2, some (.d (.int m)), some (.d (.lst (sL xs))), s5, none, s7, s8, s9]) (m := none) (h0 := h) (xs := (sL xs).map .d)
    (fun k ys h1 => ∃ ts : List (Str × List Nat), ys = (ts.map turnD).map .d ∧ Sd u h0 h1 ∧ ts.map (·.1) = xs.take k ∧ ∀ t ∈ ts, t.2.Perm (List.range m))
    (fun k x ys h1 hx ⟨ts, e1, hs, hl, ha⟩ => by
      rw [List.getElem?_map, sL, List.getElem?_map] at hx
      cases hk : xs[k]? with
      | none => rw [hk] at hx; cases hx
      | some y =>
        rw [hk] at hx; cases hx
        obtain ⟨p, h2, e, pp, s2⟩ := image_ok U (n := n) hs hm
        refine ⟨some (.d (turnD (y, p))), h2, ?_, trivial, ts ++ [(y, p)], ?_, s2, ?_, ?_⟩
        · rw [turnC_name]
          have et : tupA [A.d (.str y), A.d (.tup (iL p))] = some (.d (turnD (y, p))) := by simp [tupA, turnsD, allD, lt_size, turnD]
          simp -implicitDefEqProofs only [fn19_x0, exSs, exS1, ev, evT, evP, evs, evB, evo_none, evo_some, evc_none, evc_some, evi_val, evi_rng, evi_enum, evL, evLs, vt, getS, opt_some, optH_some, Out.bind_ok, Out.bind_ex, Out.st_ok, Out.st_ex, OS.seq_nx, OS.seq_rt, OS.seq_ex, OS.seq_ct, OS.seq_bk, startS, Es.len, tg_name, tg_tup, tgs_nil, tgs_cons, Tgs.len, Lvs.len, setAll, List.getElem?_cons_zero, List.getElem?_cons_succ, List.set_cons_zero, List.set_cons_succ, List.map_cons, List.map_nil, List.cons_append, List.nil_append, List.replicate, List.length_cons, List.length_nil, Nat.reduceAdd, Nat.reduceSub, if_true, if_false, if_pos, reduceIte, reduceCtorEq, finC, blA, argF, plainSh, List.range', fillA, callF, Option.map_some, Option.bind_some, Option.map_none, Option.bind_none, and_self, true_and, and_true, intA, wipeS, Bool.not_true, Bool.not_false, Bool.false_eq_true, decide_true, decide_false, Bool.true_eq_false, clsA, binA, cmpO, cmpA, mtF, biF, Mt.ty, bmF, tyA, truthO, truthA, truthD, ne_eq, not_true_eq_false, not_false_eq_true, String.reduceBEq, beq_self_eq_true, U.s18, U.n18, e, et]
        · subst e1; simp
        · rw [List.map_append, hl, List.take_add_one, hk]; rfl
        · intro t ht
          rcases List.mem_append.mp ht with ht | ht
          · exact ha t ht
          · rw [List.mem_singleton.mp ht]; exact pp)
    (h := h) ⟨[], rfl, s, rfl, by simp⟩
  have hl' : ts.map (·.1) = xs := by simpa [sL] using hl
  refine ⟨ts, h1, ?_, hs, hl', ha⟩
  refine compF_of (p := ((sL xs).map .d, none)) (h1 := h) (r := (.d (.lst (ts.map turnD)), h1)) ?_ e (newL_d (lt_size ?_))
  · simp -implicitDefEqProofs only [exSs, exS1, ev, evT, evP, evs, evB, evo_none, evo_some, evc_none, evc_some, evi_val, evi_rng, evi_enum, evL, evLs, vt, getS, opt_some, optH_some, Out.bind_ok, Out.bind_ex, Out.st_ok, Out.st_ex, OS.seq_nx, OS.seq_rt, OS.seq_ex, OS.seq_ct, OS.seq_bk, startS, Es.len, tg_name, tg_tup, tgs_nil, tgs_cons, Tgs.len, Lvs.len, setAll, List.getElem?_cons_zero, List.getElem?_cons_succ, List.set_cons_zero, List.set_cons_succ, List.map_cons, List.map_nil, List.cons_append, List.nil_append, List.replicate, List.length_cons, List.length_nil, Nat.reduceAdd, Nat.reduceSub, if_true, if_false, if_pos, reduceIte, reduceCtorEq, finC, blA, argF, plainSh, List.range', fillA, callF, Option.map_some, Option.bind_some, Option.map_none, Option.bind_none, and_self, true_and, and_true, intA, wipeS, Bool.not_true, Bool.not_false, Bool.false_eq_true, decide_true, decide_false, Bool.true_eq_false, clsA, binA, cmpO, cmpA, mtF, biF, Mt.ty, bmF, tyA, truthO, truthA, truthD, ne_eq, not_true_eq_false, not_false_eq_true, String.reduceBEq, beq_self_eq_true, iterV]
  · have := congrArg List.length hl'
    simp at this; simp; omega
/-- [of(urn, tags * 3 + list(range(size))) for k in range(..)] -/
theorem entries_ok (U : Urn T) {m k : Nat} {xs : List Str} {s1 s2 s5 s6 s7 s9 : Option A} (s : Sd u h0 h) (hm : 1 ≤ m) (hm2 : m ≤ 1000) (hx : xs.length < 1000) (hk : k < 1000) : ∃ (es : List (Str ⊕ Nat)) (h1 : Hh), loopC (turnC (Tg.name 8).set (evc T (callN T (n + 2)) .none) (evP T (callN T (n + 2)) fn19_x1).v [some (.ref u), s1, s2, some (.d (.int m)), some (.d (.lst (sL xs))), s5, s6, s7, none, s9]) none h (rngL 0 k) h = .ok ((es.map enD).map .d) h1 ∧ Sd u h0 h1 ∧ es.length = k ∧ (∀ x, .inl x ∈ es → x ∈ xs) ∧ ∀ i, .inr i ∈ es → i < m := by
  have e3 : mulA (.d (.lst (sL xs))) (.d (.int 3)) = fun h => some (.d (.lst (sL xs ++ sL xs ++ sL xs))) := by
    funext h
    have : List.length (sL xs) ≤ 1000 := by simp [sL]; omega
    simp [mulA, asLst, allD_map, this, List.replicate]
  have er : rngN false false 0 m = fun h => some (A.d (.lst ((List.range m).map fun i => .int (0 + (i : Nat)))), h) := by
    funext h
    have c : -(2 ^ 62 : Int) ≤ (0 : Int) ∧ (0 : Int) < 2 ^ 62 ∧ -(2 ^ 62 : Int) ≤ (m : Int) ∧ (m : Int) < 2 ^ 62 ∧ ((m : Int) - 0).toNat ≤ 2 ^ 24 := ⟨by decide, by decide, by omega, by omega, by omega⟩
    have e : rngL 0 ((m : Int) - 0).toNat = ((List.range m).map fun i => D.int (0 + (i : Nat))).map .d := by
      simp [rngL]
    simp only [rngN, c, and_self, if_true, Bool.false_eq_true, if_false, e]
    exact newL_d (lt_size (by simp; omega))
  have ea : ∀ h, addA (.d (.lst (sL xs ++ sL xs ++ sL xs))) (.d (.lst ((List.range m).map fun i => .int (0 + (i : Nat))))) h = some (.d (.lst (menuE xs m))) := fun h => by
    have hz : (menuE xs m).length ≤ sizeLine := lt_size (by simp [menuE, sL]; omega)
    have : allD ((sL xs ++ sL xs ++ sL xs).map .d ++ ((List.range m).map fun i => D.int (0 + (i : Nat))).map .d) = some (menuE xs m) := by
      rw [← List.map_append, allD_map]; rfl
    simp only [addA, asLst, this, hz, if_true]
  have hne : menuE xs m ≠ [] := by
    intro e
    have := congrArg List.length e
    simp [menuE, sL] at this; omega
  have hlt : (menuE xs m).length < 1073741824 := by simp [menuE, sL]; omega
  obtain ⟨ys, h1, e, es, rfl, hs, hl, ha, hb⟩ := loopC_inv (fe := turnC (Tg.name 8).set (evc T (callN T (n + 2)) .none) (evP T (callN T (n + 2)) fn19_x1).v [some (.ref u), s1, s2, some (.d (.int m)), some (.d (.lst (sL xs))), s5, s6, s7, none, s9]) (m := none) (h0 := h) (xs := rngL 0 k)
    (fun k ys h1 => ∃ es : List (Str ⊕ Nat), ys = (es.map enD).map .d ∧ Sd u h0 h1 ∧ es.length = k ∧ (∀ x, .inl x ∈ es → x ∈ xs) ∧ ∀ i, .inr i ∈ es → i < m)
    (fun k x ys h1 hx ⟨es, e1, hs, hl, ha, hb⟩ => by
      obtain ⟨hk, rfl⟩ := rngL_get hx
      obtain ⟨x, h2, e, hx, s2⟩ := of_ok U (n := n) hs hne hlt
      obtain ⟨q, hq, h3, h4⟩ : ∃ q, x = enD q ∧ (∀ y, q = .inl y → y ∈ xs) ∧ ∀ i, q = .inr i → i < m := by
        rcases menuE_mem hx with ⟨y, hy, rfl⟩ | ⟨i, hi, rfl⟩
        · exact ⟨.inl y, rfl, fun z hz => by cases hz; exact hy, fun z hz => by cases hz⟩
        · exact ⟨.inr i, rfl, fun z hz => by (cases hz), fun z hz => by cases hz; exact hi⟩
      refine ⟨some (.d x), h2, ?_, trivial, es ++ [q], ?_, s2, by simp [hl], ?_, ?_⟩
      · rw [turnC_name]
        simp -implicitDefEqProofs only [fn19_x1, exSs, exS1, ev, evT, evP, evs, evB, evo_none, evo_some, evc_none, evc_some, evi_val, evi_rng, evi_enum, evL, evLs, vt, getS, opt_some, optH_some, Out.bind_ok, Out.bind_ex, Out.st_ok, Out.st_ex, OS.seq_nx, OS.seq_rt, OS.seq_ex, OS.seq_ct, OS.seq_bk, startS, Es.len, tg_name, tg_tup, tgs_nil, tgs_cons, Tgs.len, Lvs.len, setAll, List.getElem?_cons_zero, List.getElem?_cons_succ, List.set_cons_zero, List.set_cons_succ, List.map_cons, List.map_nil, List.cons_append, List.nil_append, List.replicate, List.length_cons, List.length_nil, Nat.reduceAdd, Nat.reduceSub, if_true, if_false, if_pos, reduceIte, reduceCtorEq, finC, blA, argF, plainSh, List.range', fillA, callF, Option.map_some, Option.bind_some, Option.map_none, Option.bind_none, and_self, true_and, and_true, intA, wipeS, Bool.not_true, Bool.not_false, Bool.false_eq_true, decide_true, decide_false, Bool.true_eq_false, clsA, binA, cmpO, cmpA, mtF, biF, Mt.ty, bmF, tyA, truthO, truthA, truthD, ne_eq, not_true_eq_false, not_false_eq_true, String.reduceBEq, beq_self_eq_true, e3, lrngF, Option.getD, er, ea, U.s16, U.n16, e]
      · subst e1; simp [hq]
      · intro y hy
        rcases List.mem_append.mp hy with hy | hy
        · exact ha y hy
        · exact h3 y (List.mem_singleton.mp hy).symm
      · intro y hy
        rcases List.mem_append.mp hy with hy | hy
        · exact hb y hy
        · exact h4 y (List.mem_singleton.mp hy).symm)
    (h := h) ⟨[], rfl, s, rfl, by simp, by simp⟩
  exact ⟨es, h1, e, hs, by simpa [rngL_len] using hl, ha, hb⟩
end
end MP
end S_RUd
section S_RHa
/-! RHa: what the checks of a habit say of right parts. -/
namespace MP
open PySem L2
section
variable {T : Tab} {n u : Nat} {h0 h h1 h2 : Hh}
theorem pure_iL (l : List Nat) : pureL (iL l) = true := by
  induction l with
  | nil => rfl
  | cons a r ih => simp only [iL, List.map_cons] at ih ⊢; rw [pureL]; simp [D.pure, ih]
theorem pure_sL (l : List Str) : pureL (sL l) = true := by
  induction l with
  | nil => rfl
  | cons a r ih => simp only [sL, List.map_cons] at ih ⊢; rw [pureL]; simp [D.pure, ih]
theorem whole_ok (K : Core T) {i : Int} (c : Clo h) : callN T (n + 1) 1 [.d (.int i)] h = .ok (.d (.bl true)) h := by
  refine callN_rt K.f1 rfl ?_ (retD0 c)
  simp -implicitDefEqProofs only [fn1_a0, exSs, exS1, ev, evT, evP, evs, evB, evo_none, evo_some, evc_none, evc_some, evi_val, evi_rng, evi_enum, evL, evLs, vt, getS, opt_some, optH_some, Out.bind_ok, Out.bind_ex, Out.st_ok, Out.st_ex, OS.seq_nx, OS.seq_rt, OS.seq_ex, OS.seq_ct, OS.seq_bk, startS, Es.len, tg_name, tg_tup, tgs_nil, tgs_cons, Tgs.len, Lvs.len, setAll, List.getElem?_cons_zero, List.getElem?_cons_succ, List.set_cons_zero, List.set_cons_succ, List.map_cons, List.map_nil, List.cons_append, List.nil_append, List.replicate, List.length_cons, List.length_nil, Nat.reduceAdd, Nat.reduceSub, if_true, if_false, if_pos, reduceIte, reduceCtorEq, finC, blA, argF, plainSh, List.range', fillA, callF, Option.map_some, Option.bind_some, Option.map_none, Option.bind_none, and_self, true_and, and_true, intA, wipeS, Bool.not_true, Bool.not_false, Bool.false_eq_true, decide_true, decide_false, Bool.true_eq_false, clsA, binA, cmpO, cmpA, mtF, biF, Mt.ty, bmF, tyA, truthO, truthA, truthD, ne_eq, not_true_eq_false, not_false_eq_true, String.reduceBEq, beq_self_eq_true, kindA, kindD, K.i_int_int, K.i_int_bool]
theorem whole_str (K : Core T) {i : Str} (c : Clo h) : callN T (n + 1) 1 [.d (.str i)] h = .ok (.d (.bl false)) h := by
  refine callN_rt K.f1 rfl ?_ (retD0 c)
  simp -implicitDefEqProofs only [fn1_a0, exSs, exS1, ev, evT, evP, evs, evB, evo_none, evo_some, evc_none, evc_some, evi_val, evi_rng, evi_enum, evL, evLs, vt, getS, opt_some, optH_some, Out.bind_ok, Out.bind_ex, Out.st_ok, Out.st_ex, OS.seq_nx, OS.seq_rt, OS.seq_ex, OS.seq_ct, OS.seq_bk, startS, Es.len, tg_name, tg_tup, tgs_nil, tgs_cons, Tgs.len, Lvs.len, setAll, List.getElem?_cons_zero, List.getElem?_cons_succ, List.set_cons_zero, List.set_cons_succ, List.map_cons, List.map_nil, List.cons_append, List.nil_append, List.replicate, List.length_cons, List.length_nil, Nat.reduceAdd, Nat.reduceSub, if_true, if_false, if_pos, reduceIte, reduceCtorEq, finC, blA, argF, plainSh, List.range', fillA, callF, Option.map_some, Option.bind_some, Option.map_none, Option.bind_none, and_self, true_and, and_true, intA, wipeS, Bool.not_true, Bool.not_false, Bool.false_eq_true, decide_true, decide_false, Bool.true_eq_false, clsA, binA, cmpO, cmpA, mtF, biF, Mt.ty, bmF, tyA, truthO, truthA, truthD, ne_eq, not_true_eq_false, not_false_eq_true, String.reduceBEq, beq_self_eq_true, kindA, kindD, K.i_str_int]
theorem integer_ok (K : Core T) {i a b : Int} (c : Clo h) : callN T (n + 2) 2 [.d (.int i), .d (.int a), .d (.int b)] h = .ok (.d (.bl (decide (a ≤ i ∧ i ≤ b)))) h := by
  have e := whole_ok (n := n) (i := i) K c
  by_cases ha : a ≤ i
  · by_cases hb : i ≤ b
    · refine callN_rt K.f2 rfl ?_ (retD0 c)
      simp -implicitDefEqProofs only [fn2_a0, exSs, exS1, ev, evT, evP, evs, evB, evo_none, evo_some, evc_none, evc_some, evi_val, evi_rng, evi_enum, evL, evLs, vt, getS, opt_some, optH_some, Out.bind_ok, Out.bind_ex, Out.st_ok, Out.st_ex, OS.seq_nx, OS.seq_rt, OS.seq_ex, OS.seq_ct, OS.seq_bk, startS, Es.len, tg_name, tg_tup, tgs_nil, tgs_cons, Tgs.len, Lvs.len, setAll, List.getElem?_cons_zero, List.getElem?_cons_succ, List.set_cons_zero, List.set_cons_succ, List.map_cons, List.map_nil, List.cons_append, List.nil_append, List.replicate, List.length_cons, List.length_nil, Nat.reduceAdd, Nat.reduceSub, if_true, if_false, if_pos, reduceIte, reduceCtorEq, finC, blA, argF, plainSh, List.range', fillA, callF, Option.map_some, Option.bind_some, Option.map_none, Option.bind_none, and_self, true_and, and_true, intA, wipeS, Bool.not_true, Bool.not_false, Bool.false_eq_true, decide_true, decide_false, Bool.true_eq_false, clsA, binA, cmpO, cmpA, mtF, biF, Mt.ty, bmF, tyA, truthO, truthA, truthD, ne_eq, not_true_eq_false, not_false_eq_true, String.reduceBEq, beq_self_eq_true, addA_int, addA_str, subA, mulA, fdivA, modA, powA, ordA, negA, intTA, divmodA, absA, lenO, lenA, maxA, minA, max2A, min2A, K.s1, K.n1, e, ha, hb]
    · refine callN_rt K.f2 rfl ?_ (retD0 c)
      simp -implicitDefEqProofs only [fn2_a0, exSs, exS1, ev, evT, evP, evs, evB, evo_none, evo_some, evc_none, evc_some, evi_val, evi_rng, evi_enum, evL, evLs, vt, getS, opt_some, optH_some, Out.bind_ok, Out.bind_ex, Out.st_ok, Out.st_ex, OS.seq_nx, OS.seq_rt, OS.seq_ex, OS.seq_ct, OS.seq_bk, startS, Es.len, tg_name, tg_tup, tgs_nil, tgs_cons, Tgs.len, Lvs.len, setAll, List.getElem?_cons_zero, List.getElem?_cons_succ, List.set_cons_zero, List.set_cons_succ, List.map_cons, List.map_nil, List.cons_append, List.nil_append, List.replicate, List.length_cons, List.length_nil, Nat.reduceAdd, Nat.reduceSub, if_true, if_false, if_pos, reduceIte, reduceCtorEq, finC, blA, argF, plainSh, List.range', fillA, callF, Option.map_some, Option.bind_some, Option.map_none, Option.bind_none, and_self, true_and, and_true, intA, wipeS, Bool.not_true, Bool.not_false, Bool.false_eq_true, decide_true, decide_false, Bool.true_eq_false, clsA, binA, cmpO, cmpA, mtF, biF, Mt.ty, bmF, tyA, truthO, truthA, truthD, ne_eq, not_true_eq_false, not_false_eq_true, String.reduceBEq, beq_self_eq_true, addA_int, addA_str, subA, mulA, fdivA, modA, powA, ordA, negA, intTA, divmodA, absA, lenO, lenA, maxA, minA, max2A, min2A, K.s1, K.n1, e, ha, hb]
  · refine callN_rt K.f2 rfl ?_ (retD0 c)
    simp -implicitDefEqProofs only [fn2_a0, exSs, exS1, ev, evT, evP, evs, evB, evo_none, evo_some, evc_none, evc_some, evi_val, evi_rng, evi_enum, evL, evLs, vt, getS, opt_some, optH_some, Out.bind_ok, Out.bind_ex, Out.st_ok, Out.st_ex, OS.seq_nx, OS.seq_rt, OS.seq_ex, OS.seq_ct, OS.seq_bk, startS, Es.len, tg_name, tg_tup, tgs_nil, tgs_cons, Tgs.len, Lvs.len, setAll, List.getElem?_cons_zero, List.getElem?_cons_succ, List.set_cons_zero, List.set_cons_succ, List.map_cons, List.map_nil, List.cons_append, List.nil_append, List.replicate, List.length_cons, List.length_nil, Nat.reduceAdd, Nat.reduceSub, if_true, if_false, if_pos, reduceIte, reduceCtorEq, finC, blA, argF, plainSh, List.range', fillA, callF, Option.map_some, Option.bind_some, Option.map_none, Option.bind_none, and_self, true_and, and_true, intA, wipeS, Bool.not_true, Bool.not_false, Bool.false_eq_true, decide_true, decide_false, Bool.true_eq_false, clsA, binA, cmpO, cmpA, mtF, biF, Mt.ty, bmF, tyA, truthO, truthA, truthD, ne_eq, not_true_eq_false, not_false_eq_true, String.reduceBEq, beq_self_eq_true, addA_int, addA_str, subA, mulA, fdivA, modA, powA, ordA, negA, intTA, divmodA, absA, lenO, lenA, maxA, minA, max2A, min2A, K.s1, K.n1, e, ha, false_and]
theorem integer_str (K : Core T) {i : Str} {x y : A} (c : Clo h) : callN T (n + 2) 2 [.d (.str i), x, y] h = .ok (.d (.bl false)) h := by
  have e := whole_str (n := n) (i := i) K c
  refine callN_rt K.f2 rfl ?_ (retD0 c)
  simp -implicitDefEqProofs only [fn2_a0, exSs, exS1, ev, evT, evP, evs, evB, evo_none, evo_some, evc_none, evc_some, evi_val, evi_rng, evi_enum, evL, evLs, vt, getS, opt_some, optH_some, Out.bind_ok, Out.bind_ex, Out.st_ok, Out.st_ex, OS.seq_nx, OS.seq_rt, OS.seq_ex, OS.seq_ct, OS.seq_bk, startS, Es.len, tg_name, tg_tup, tgs_nil, tgs_cons, Tgs.len, Lvs.len, setAll, List.getElem?_cons_zero, List.getElem?_cons_succ, List.set_cons_zero, List.set_cons_succ, List.map_cons, List.map_nil, List.cons_append, List.nil_append, List.replicate, List.length_cons, List.length_nil, Nat.reduceAdd, Nat.reduceSub, if_true, if_false, if_pos, reduceIte, reduceCtorEq, finC, blA, argF, plainSh, List.range', fillA, callF, Option.map_some, Option.bind_some, Option.map_none, Option.bind_none, and_self, true_and, and_true, intA, wipeS, Bool.not_true, Bool.not_false, Bool.false_eq_true, decide_true, decide_false, Bool.true_eq_false, clsA, binA, cmpO, cmpA, mtF, biF, Mt.ty, bmF, tyA, truthO, truthA, truthD, ne_eq, not_true_eq_false, not_false_eq_true, String.reduceBEq, beq_self_eq_true, addA_int, addA_str, subA, mulA, fdivA, modA, powA, ordA, negA, intTA, divmodA, absA, lenO, lenA, maxA, minA, max2A, min2A, K.s1, K.n1, e]
theorem in_str {x : Str} {y : Str} {c : Nat} {h : Hh} (hx : x.cps.toList = [c]) : inA1 (.d (.str x)) (.d (.str y)) h = some (.d (.bl (decide (c ∈ y.cps.toList)))) := by
  simp [inA1, inA, lookA, asDk, asDt, hx]
theorem alnum_eq : letters ++ ("0123456789" : Str) = alnum := by decide +kernel
theorem name_ok (K : Core T) {x : Str} (c : Clo h) (hx : NameOk x) : callN T (n + 1) 3 [.d (.str x)] h = .ok (.d (.bl true)) h := by
  obtain ⟨h1, ⟨a, r, h2, h3⟩, h4⟩ := hx
  have hl : x.length = (a :: r).length := by rw [← h2]; simp [Str.length]
  have l1 : x.length ≤ sizeLine := lt_size (by omega)
  have l2 : (1 : Int) ≤ (x.length : Int) := by rw [hl]; simp; omega
  have l3 : (x.length : Int) ≤ 8 := by omega
  have ea : strAt x 0 = some (.str (SX.S [a])) := by
    unfold strAt; rw [h2, atI_0]; rfl
  have ei : ∀ h, inA1 (.d (.str (SX.S [a]))) (.d (.str letters)) h = some (.d (.bl true)) := fun h => by
    rw [in_str (c := a) rfl, decide_eq_true h3]
  have el : letters.length + ("0123456789" : Str).length ≤ sizeLine := lt_size (by decide +kernel)
  have hc := comp_map (T := T) (C := callN T n) (it := .val (.var 0)) (i := 1) (e := fn3_x0) (own := [1]) (s := [some (.d (.str x)), none]) (h := h) (h1 := h) (xs := x.cps.toList.map fun c => .d (.str ⟨#[c]⟩)) (m := none) (f := fun _ => .bl true)
    (by simp -implicitDefEqProofs only [exSs, exS1, ev, evT, evP, evs, evB, evo_none, evo_some, evc_none, evc_some, evi_val, evi_rng, evi_enum, evL, evLs, vt, getS, opt_some, optH_some, Out.bind_ok, Out.bind_ex, Out.st_ok, Out.st_ex, OS.seq_nx, OS.seq_rt, OS.seq_ex, OS.seq_ct, OS.seq_bk, startS, Es.len, tg_name, tg_tup, tgs_nil, tgs_cons, Tgs.len, Lvs.len, setAll, List.getElem?_cons_zero, List.getElem?_cons_succ, List.set_cons_zero, List.set_cons_succ, List.map_cons, List.map_nil, List.cons_append, List.nil_append, List.replicate, List.length_cons, List.length_nil, Nat.reduceAdd, Nat.reduceSub, if_true, if_false, if_pos, reduceIte, reduceCtorEq, finC, blA, argF, plainSh, List.range', fillA, callF, Option.map_some, Option.bind_some, Option.map_none, Option.bind_none, and_self, true_and, and_true, intA, wipeS, Bool.not_true, Bool.not_false, Bool.false_eq_true, decide_true, decide_false, Bool.true_eq_false, clsA, binA, cmpO, cmpA, mtF, biF, Mt.ty, bmF, tyA, truthO, truthA, truthD, ne_eq, not_true_eq_false, not_false_eq_true, String.reduceBEq, beq_self_eq_true, iterV])
    (fun y hy => by
      obtain ⟨c, hc, rfl⟩ := List.mem_map.mp hy
      have e2 : ∀ h, inA1 (.d (.str ⟨#[c]⟩)) (.d (.str alnum)) h = some (.d (.bl true)) := fun h => by
        rw [in_str (c := c) rfl, decide_eq_true (h4 c hc)]
      have e3 : letters = "abcdefghijklmnopqrstuvwxyz" := rfl
      simp -implicitDefEqProofs only [fn3_x0, exSs, exS1, ev, evT, evP, evs, evB, evo_none, evo_some, evc_none, evc_some, evi_val, evi_rng, evi_enum, evL, evLs, vt, getS, opt_some, optH_some, Out.bind_ok, Out.bind_ex, Out.st_ok, Out.st_ex, OS.seq_nx, OS.seq_rt, OS.seq_ex, OS.seq_ct, OS.seq_bk, startS, Es.len, tg_name, tg_tup, tgs_nil, tgs_cons, Tgs.len, Lvs.len, setAll, List.getElem?_cons_zero, List.getElem?_cons_succ, List.set_cons_zero, List.set_cons_succ, List.map_cons, List.map_nil, List.cons_append, List.nil_append, List.replicate, List.length_cons, List.length_nil, Nat.reduceAdd, Nat.reduceSub, if_true, if_false, if_pos, reduceIte, reduceCtorEq, finC, blA, argF, plainSh, List.range', fillA, callF, Option.map_some, Option.bind_some, Option.map_none, Option.bind_none, and_self, true_and, and_true, intA, wipeS, Bool.not_true, Bool.not_false, Bool.false_eq_true, decide_true, decide_false, Bool.true_eq_false, clsA, binA, cmpO, cmpA, mtF, biF, Mt.ty, bmF, tyA, truthO, truthA, truthD, ne_eq, not_true_eq_false, not_false_eq_true, String.reduceBEq, beq_self_eq_true, addA_int, addA_str, subA, mulA, fdivA, modA, powA, ordA, negA, intTA, divmodA, absA, lenO, lenA, maxA, minA, max2A, min2A, K.g_LETTERS, K.g_DIGITS, ← e3, el, alnum_eq, e2])
    (by rw [List.length_map]; exact lt_size (by rw [h2, ← hl]; omega))
  have hall : ∀ (l : List A) (h : Hh), allA [.d (.lst (l.map fun _ => .bl true))] h = some (.d (.bl true), h) := fun l h => by
    have : ∀ l : List A, blsD (l.map fun _ => D.bl true) = some (l.map fun _ => true) := fun l => by
      induction l with
      | nil => rfl
      | cons a r ih => simp only [List.map_cons, blsD, ih]; rfl
    simp only [allA, blsA, asLst, allD_map, Option.bind_some, this]
    simp
  have e3 : ("abcdefghijklmnopqrstuvwxyz" : Str) = letters := rfl
  refine callN_rt K.f3 rfl ?_ (retD0 c)
  simp -implicitDefEqProofs only [fn3_a0, fn3_a1, fn3_b0, exSs, exS1, ev, evT, evP, evs, evB, evo_none, evo_some, evc_none, evc_some, evi_val, evi_rng, evi_enum, evL, evLs, vt, getS, opt_some, optH_some, Out.bind_ok, Out.bind_ex, Out.st_ok, Out.st_ex, OS.seq_nx, OS.seq_rt, OS.seq_ex, OS.seq_ct, OS.seq_bk, startS, Es.len, tg_name, tg_tup, tgs_nil, tgs_cons, Tgs.len, Lvs.len, setAll, List.getElem?_cons_zero, List.getElem?_cons_succ, List.set_cons_zero, List.set_cons_succ, List.map_cons, List.map_nil, List.cons_append, List.nil_append, List.replicate, List.length_cons, List.length_nil, Nat.reduceAdd, Nat.reduceSub, if_true, if_false, if_pos, reduceIte, reduceCtorEq, finC, blA, argF, plainSh, List.range', fillA, callF, Option.map_some, Option.bind_some, Option.map_none, Option.bind_none, and_self, true_and, and_true, intA, wipeS, Bool.not_true, Bool.not_false, Bool.false_eq_true, decide_true, decide_false, Bool.true_eq_false, clsA, binA, cmpO, cmpA, mtF, biF, Mt.ty, bmF, tyA, truthO, truthA, truthD, ne_eq, not_true_eq_false, not_false_eq_true, String.reduceBEq, beq_self_eq_true, addA_int, addA_str, subA, mulA, fdivA, modA, powA, ordA, negA, intTA, divmodA, absA, lenO, lenA, maxA, minA, max2A, min2A, kindA, kindD, K.i_str_str, l1, K.g_LONGEST_NAME, l2, l3, subF_str, ea, K.g_LETTERS, e3, ei, hc, hall]
theorem tupof_ok (K : Core T) {xs : List D} {k : Int} (c : Clo h) : callN T (n + 1) 4 [.d (.tup xs), .d (.int k)] h = .ok (.d (.bl ((xs.length : Int) == k))) h := by
  refine callN_rt K.f4 rfl ?_ (retD0 c)
  simp -implicitDefEqProofs only [fn4_a0, exSs, exS1, ev, evT, evP, evs, evB, evo_none, evo_some, evc_none, evc_some, evi_val, evi_rng, evi_enum, evL, evLs, vt, getS, opt_some, optH_some, Out.bind_ok, Out.bind_ex, Out.st_ok, Out.st_ex, OS.seq_nx, OS.seq_rt, OS.seq_ex, OS.seq_ct, OS.seq_bk, startS, Es.len, tg_name, tg_tup, tgs_nil, tgs_cons, Tgs.len, Lvs.len, setAll, List.getElem?_cons_zero, List.getElem?_cons_succ, List.set_cons_zero, List.set_cons_succ, List.map_cons, List.map_nil, List.cons_append, List.nil_append, List.replicate, List.length_cons, List.length_nil, Nat.reduceAdd, Nat.reduceSub, if_true, if_false, if_pos, reduceIte, reduceCtorEq, finC, blA, argF, plainSh, List.range', fillA, callF, Option.map_some, Option.bind_some, Option.map_none, Option.bind_none, and_self, true_and, and_true, intA, wipeS, Bool.not_true, Bool.not_false, Bool.false_eq_true, decide_true, decide_false, Bool.true_eq_false, clsA, binA, cmpO, cmpA, mtF, biF, Mt.ty, bmF, tyA, truthO, truthA, truthD, ne_eq, not_true_eq_false, not_false_eq_true, String.reduceBEq, beq_self_eq_true, addA_int, addA_str, subA, mulA, fdivA, modA, powA, ordA, negA, intTA, divmodA, absA, lenO, lenA, maxA, minA, max2A, min2A, kindA, kindD, K.i_tuple_tuple, asSeq, List.length_map, eqO_int]
theorem sort_perm {p : List Nat} {m : Nat} (hp : p.Perm (List.range m)) : sortI (p.map fun (n : Nat) => (n : Int)) = (List.range m).map fun (n : Nat) => (n : Int) := by
  refine sorted_eq ((sortI_perm _).trans (hp.map _)) (sortI_sorted _) ?_
  rw [List.pairwise_map]
  refine List.Pairwise.imp ?_ (List.pairwise_lt_range (n := m))
  intro a b h; omega
theorem intsD_iL (p : List Nat) : intsD (iL p) = some (p.map fun (n : Nat) => (n : Int)) := by
  induction p with
  | nil => rfl
  | cons a r ih => simp only [iL, List.map_cons] at ih ⊢; rw [intsD, ih]; rfl
theorem sorted_ok {p : List Nat} {m : Nat} {h : Hh} (hp : p.Perm (List.range m)) (hm : m < 1000) : sortedA false [.d (.tup (iL p))] h = some (.d (.lst (iL (List.range m))), h) := by
  have e := newL_d (ds := iL (List.range m)) (h := h) (lt_size (by simp [iL]; omega))
  simp only [sortedA, intsD_iL, sort_perm hp, List.map_map]
  rw [← e]
  simp [iL, Function.comp_def]
theorem rngNat {m : Nat} {h : Hh} (hm : m < 1000) : rngN false false 0 m h = some (A.d (.lst (iL (List.range m))), h) := by
  have c : -(2 ^ 62 : Int) ≤ (0 : Int) ∧ (0 : Int) < 2 ^ 62 ∧ -(2 ^ 62 : Int) ≤ (m : Int) ∧ (m : Int) < 2 ^ 62 ∧ ((m : Int) - 0).toNat ≤ 2 ^ 24 := ⟨by decide, by decide, by omega, by omega, by omega⟩
  have e : rngL 0 ((m : Int) - 0).toNat = (iL (List.range m)).map .d := by simp [rngL, iL]
  simp only [rngN, c, and_self, if_true, Bool.false_eq_true, if_false, e]
  exact newL_d (lt_size (by simp [iL]; omega))
theorem depth_iL (l : List Nat) : depthL (iL l) = 0 := by
  induction l with
  | nil => rfl
  | cons a r ih => simp only [iL, List.map_cons] at ih ⊢; rw [depthL]; simp [D.depth, ih]
theorem depth_sL (l : List Str) : depthL (sL l) = 0 := by
  induction l with
  | nil => rfl
  | cons a r ih => simp only [sL, List.map_cons] at ih ⊢; rw [depthL]; simp [D.depth, ih]
theorem any_sL {x : Str} {l : List Str} : ((sL l).any fun d => d.eqb (.str x)) = decide (x ∈ l) := by
  induction l with
  | nil => rfl
  | cons a r ih =>
    simp only [sL, List.map_cons, List.any_cons] at ih ⊢
    rw [ih]
    by_cases e : a = x
    · subst e; simp [D.eqb]
    · have : ¬ x = a := fun h => e h.symm
      simp [D.eqb, e, this]
theorem in_refs {x : Str} {j : Nat} {l : List Str} {h : Hh} (hj : h[j]? = some (.lst ((sL l).map .d))) : inA1 (.d (.str x)) (.ref j) h = some (.d (.bl (decide (x ∈ l)))) := by
  have e : asP (.ref j) h = some (.lst (sL l)) := by simp only [asP, hj, allD_map, pure_sL, if_true]
  have e2 : lookA (.ref j) (.d (.str x)) h = none := by simp [lookA, asDk, asDt, hj]
  have ex : asP (.d (.str x)) h = some (.str x) := rfl
  simp only [inA1, inA, e2, e, ex, D.depth, Nat.zero_le, if_true, any_sL, Option.map_some]
theorem in_lst {x : Str} {l : List Str} {h : Hh} : inA1 (.d (.str x)) (.d (.lst (sL l))) h = some (.d (.bl (decide (x ∈ l)))) := by
  have e : asP (.d (.lst (sL l))) h = some (.lst (sL l)) := by simp only [asP, D.pure, pure_sL, if_true]
  have e2 : lookA (.d (.lst (sL l))) (.d (.str x)) h = none := by simp [lookA, asDk, asDt]
  have ex : asP (.d (.str x)) h = some (.str x) := rfl
  simp only [inA1, inA, e2, e, ex, D.depth, Nat.zero_le, if_true, any_sL, Option.map_some]
theorem all_true {l : List A} {h : Hh} : allA [.d (.lst (l.map fun _ => .bl true))] h = some (.d (.bl true), h) := by
  have : ∀ l : List A, blsD (l.map fun _ => D.bl true) = some (l.map fun _ => true) := fun l => by
    induction l with
    | nil => rfl
    | cons a r ih => simp only [List.map_cons, blsD, ih]; rfl
  simp only [allA, blsA, asLst, allD_map, Option.bind_some, this]
  simp
theorem turn_ok (K : Core T) {t : Str × List Nat} {m j : Nat} {l : List Str} (c : Clo h) (hj : h[j]? = some (.lst ((sL l).map .d))) (ht : NameOk t.1) (hn : t.1 ∉ l) (hp : t.2.Perm (List.range m)) (hm : m < 1000) : callN T (n + 2) 6 [.d (turnD t), .d (.int m), .ref j] h = .ok (.d (.bl true)) h := by
  have e1 := tupof_ok (n := n) (xs := [.str t.1, .tup (iL t.2)]) (k := 2) K c
  have e2 := name_ok (n := n) K c ht
  have e3 := in_refs (x := t.1) hj
  rw [decide_eq_false hn] at e3
  have e4 := tupof_ok (n := n) (xs := iL t.2) (k := m) K c
  have hl : ((iL t.2).length : Int) = (m : Int) := by have := hp.length_eq; simp [iL] at *; omega
  rw [hl, beq_self_eq_true] at e4
  have hc := comp_map (T := T) (C := callN T (n + 1)) (it := .val (.sub (.var 0) (.k (.int 1)))) (i := 3) (e := fn6_x0) (own := [3]) (s := [some (.d (turnD t)), some (.d (.int m)), some (.ref j), none]) (h := h) (h1 := h) (xs := (iL t.2).map .d) (m := none) (f := fun _ => .bl true)
    (by simp -implicitDefEqProofs only [exSs, exS1, ev, evT, evP, evs, evB, evo_none, evo_some, evc_none, evc_some, evi_val, evi_rng, evi_enum, evL, evLs, vt, getS, opt_some, optH_some, Out.bind_ok, Out.bind_ex, Out.st_ok, Out.st_ex, OS.seq_nx, OS.seq_rt, OS.seq_ex, OS.seq_ct, OS.seq_bk, startS, Es.len, tg_name, tg_tup, tgs_nil, tgs_cons, Tgs.len, Lvs.len, setAll, List.getElem?_cons_zero, List.getElem?_cons_succ, List.set_cons_zero, List.set_cons_succ, List.map_cons, List.map_nil, List.cons_append, List.nil_append, List.replicate, List.length_cons, List.length_nil, Nat.reduceAdd, Nat.reduceSub, if_true, if_false, if_pos, reduceIte, reduceCtorEq, finC, blA, argF, plainSh, List.range', fillA, callF, Option.map_some, Option.bind_some, Option.map_none, Option.bind_none, and_self, true_and, and_true, intA, wipeS, Bool.not_true, Bool.not_false, Bool.false_eq_true, decide_true, decide_false, Bool.true_eq_false, clsA, binA, cmpO, cmpA, mtF, biF, Mt.ty, bmF, tyA, truthO, truthA, truthD, ne_eq, not_true_eq_false, not_false_eq_true, String.reduceBEq, beq_self_eq_true, turnD, subF_tup, atI_1, iterV])
    (fun y hy => by
      simp only [iL, List.map_map, List.mem_map] at hy
      obtain ⟨c', _, rfl⟩ := hy
      have e5 := whole_ok (n := n) (i := c') K c
      simp -implicitDefEqProofs only [fn6_x0, exSs, exS1, ev, evT, evP, evs, evB, evo_none, evo_some, evc_none, evc_some, evi_val, evi_rng, evi_enum, evL, evLs, vt, getS, opt_some, optH_some, Out.bind_ok, Out.bind_ex, Out.st_ok, Out.st_ex, OS.seq_nx, OS.seq_rt, OS.seq_ex, OS.seq_ct, OS.seq_bk, startS, Es.len, tg_name, tg_tup, tgs_nil, tgs_cons, Tgs.len, Lvs.len, setAll, List.getElem?_cons_zero, List.getElem?_cons_succ, List.set_cons_zero, List.set_cons_succ, List.map_cons, List.map_nil, List.cons_append, List.nil_append, List.replicate, List.length_cons, List.length_nil, Nat.reduceAdd, Nat.reduceSub, if_true, if_false, if_pos, reduceIte, reduceCtorEq, finC, blA, argF, plainSh, List.range', fillA, callF, Option.map_some, Option.bind_some, Option.map_none, Option.bind_none, and_self, true_and, and_true, intA, wipeS, Bool.not_true, Bool.not_false, Bool.false_eq_true, decide_true, decide_false, Bool.true_eq_false, clsA, binA, cmpO, cmpA, mtF, biF, Mt.ty, bmF, tyA, truthO, truthA, truthD, ne_eq, not_true_eq_false, not_false_eq_true, String.reduceBEq, beq_self_eq_true, K.s1, K.n1, Function.comp, e5])
    (lt_size (by simp [iL] at *; omega))
  have es := sorted_ok (h := h) hp hm
  have er := rngNat (h := h) hm
  have eq : ∀ (C : CallT) (tb : Nat → Option Nat) (ks : List Kd), eqO C tb ks false (.d (.lst (iL (List.range m)))) (.d (.lst (iL (List.range m)))) h = some (.d (.bl true), h) := fun C tb ks => by
    have pp : (D.lst (iL (List.range m))).pure = true := by rw [D.pure]; exact pure_iL _
    rw [eqO_d rfl pp pp (by rw [D.depth, depth_iL]; decide), eqb_refl _ pp]
  have e22 : (([D.str t.1, D.tup (iL t.2)].length : Int) == 2) = true := by simp
  rw [e22] at e1
  refine callN_rt K.f6 rfl ?_ (retD0 c)
  simp -implicitDefEqProofs only [fn6_a0, fn6_a1, fn6_b0, exSs, exS1, ev, evT, evP, evs, evB, evo_none, evo_some, evc_none, evc_some, evi_val, evi_rng, evi_enum, evL, evLs, vt, getS, opt_some, optH_some, Out.bind_ok, Out.bind_ex, Out.st_ok, Out.st_ex, OS.seq_nx, OS.seq_rt, OS.seq_ex, OS.seq_ct, OS.seq_bk, startS, Es.len, tg_name, tg_tup, tgs_nil, tgs_cons, Tgs.len, Lvs.len, setAll, List.getElem?_cons_zero, List.getElem?_cons_succ, List.set_cons_zero, List.set_cons_succ, List.map_cons, List.map_nil, List.cons_append, List.nil_append, List.replicate, List.length_cons, List.length_nil, Nat.reduceAdd, Nat.reduceSub, if_true, if_false, if_pos, reduceIte, reduceCtorEq, finC, blA, argF, plainSh, List.range', fillA, callF, Option.map_some, Option.bind_some, Option.map_none, Option.bind_none, and_self, true_and, and_true, intA, wipeS, Bool.not_true, Bool.not_false, Bool.false_eq_true, decide_true, decide_false, Bool.true_eq_false, clsA, binA, cmpO, cmpA, mtF, biF, Mt.ty, bmF, tyA, truthO, truthA, truthD, ne_eq, not_true_eq_false, not_false_eq_true, String.reduceBEq, beq_self_eq_true, K.s4, K.n4, K.s3, K.n3, turnD] at e1 hc ⊢
  simp -implicitDefEqProofs only [fn6_a0, fn6_a1, fn6_b0, exSs, exS1, ev, evT, evP, evs, evB, evo_none, evo_some, evc_none, evc_some, evi_val, evi_rng, evi_enum, evL, evLs, vt, getS, opt_some, optH_some, Out.bind_ok, Out.bind_ex, Out.st_ok, Out.st_ex, OS.seq_nx, OS.seq_rt, OS.seq_ex, OS.seq_ct, OS.seq_bk, startS, Es.len, tg_name, tg_tup, tgs_nil, tgs_cons, Tgs.len, Lvs.len, setAll, List.getElem?_cons_zero, List.getElem?_cons_succ, List.set_cons_zero, List.set_cons_succ, List.map_cons, List.map_nil, List.cons_append, List.nil_append, List.replicate, List.length_cons, List.length_nil, Nat.reduceAdd, Nat.reduceSub, if_true, if_false, if_pos, reduceIte, reduceCtorEq, finC, blA, argF, plainSh, List.range', fillA, callF, Option.map_some, Option.bind_some, Option.map_none, Option.bind_none, and_self, true_and, and_true, intA, wipeS, Bool.not_true, Bool.not_false, Bool.false_eq_true, decide_true, decide_false, Bool.true_eq_false, clsA, binA, cmpO, cmpA, mtF, biF, Mt.ty, bmF, tyA, truthO, truthA, truthD, ne_eq, not_true_eq_false, not_false_eq_true, String.reduceBEq, beq_self_eq_true, K.s4, K.n4, K.s3, K.n3, turnD, e1, subF_tup, atI_0, atI_1, e2, e3, e4, hc, all_true, es, lrngF, Option.getD, er, eq]
end
end MP
end S_RHa
section S_RHb
/-! RHb: a habit is made of right parts. -/
namespace MP
open PySem L2
section
variable {T : Tab} {n u : Nat} {h0 h h1 h2 : Hh}
theorem entry_ok (K : Core T) {e : Str ⊕ Nat} {m : Nat} {l : List Str} (c : Clo h) (h1 : ∀ x, e = .inl x → x ∈ l) (h2 : ∀ k, e = .inr k → k < m) : callN T (n + 3) 7 [.d (enD e), .d (.int m), .d (.lst (sL l))] h = .ok (.d (.bl true)) h := by
  refine callN_rt K.f7 rfl ?_ (retD0 c)
  cases e with
  | inl x =>
    have e1 := in_lst (x := x) (l := l) (h := h)
    rw [decide_eq_true (h1 x rfl)] at e1
    simp -implicitDefEqProofs only [fn7_a0, enD, exSs, exS1, ev, evT, evP, evs, evB, evo_none, evo_some, evc_none, evc_some, evi_val, evi_rng, evi_enum, evL, evLs, vt, getS, opt_some, optH_some, Out.bind_ok, Out.bind_ex, Out.st_ok, Out.st_ex, OS.seq_nx, OS.seq_rt, OS.seq_ex, OS.seq_ct, OS.seq_bk, startS, Es.len, tg_name, tg_tup, tgs_nil, tgs_cons, Tgs.len, Lvs.len, setAll, List.getElem?_cons_zero, List.getElem?_cons_succ, List.set_cons_zero, List.set_cons_succ, List.map_cons, List.map_nil, List.cons_append, List.nil_append, List.replicate, List.length_cons, List.length_nil, Nat.reduceAdd, Nat.reduceSub, if_true, if_false, if_pos, reduceIte, reduceCtorEq, finC, blA, argF, plainSh, List.range', fillA, callF, Option.map_some, Option.bind_some, Option.map_none, Option.bind_none, and_self, true_and, and_true, intA, wipeS, Bool.not_true, Bool.not_false, Bool.false_eq_true, decide_true, decide_false, Bool.true_eq_false, clsA, binA, cmpO, cmpA, mtF, biF, Mt.ty, bmF, tyA, truthO, truthA, truthD, ne_eq, not_true_eq_false, not_false_eq_true, String.reduceBEq, beq_self_eq_true, addA_int, addA_str, subA, mulA, fdivA, modA, powA, ordA, negA, intTA, divmodA, absA, lenO, lenA, maxA, minA, max2A, min2A, kindA, kindD, K.i_str_str, e1]
  | inr k =>
    have e1 := integer_ok (n := n) (i := k) (a := 0) (b := (m : Int) - 1) K c
    have hk := h2 k rfl
    rw [decide_eq_true (show (0 : Int) ≤ (k : Int) ∧ (k : Int) ≤ (m : Int) - 1 by omega)] at e1
    simp -implicitDefEqProofs only [fn7_a0, enD, exSs, exS1, ev, evT, evP, evs, evB, evo_none, evo_some, evc_none, evc_some, evi_val, evi_rng, evi_enum, evL, evLs, vt, getS, opt_some, optH_some, Out.bind_ok, Out.bind_ex, Out.st_ok, Out.st_ex, OS.seq_nx, OS.seq_rt, OS.seq_ex, OS.seq_ct, OS.seq_bk, startS, Es.len, tg_name, tg_tup, tgs_nil, tgs_cons, Tgs.len, Lvs.len, setAll, List.getElem?_cons_zero, List.getElem?_cons_succ, List.set_cons_zero, List.set_cons_succ, List.map_cons, List.map_nil, List.cons_append, List.nil_append, List.replicate, List.length_cons, List.length_nil, Nat.reduceAdd, Nat.reduceSub, if_true, if_false, if_pos, reduceIte, reduceCtorEq, finC, blA, argF, plainSh, List.range', fillA, callF, Option.map_some, Option.bind_some, Option.map_none, Option.bind_none, and_self, true_and, and_true, intA, wipeS, Bool.not_true, Bool.not_false, Bool.false_eq_true, decide_true, decide_false, Bool.true_eq_false, clsA, binA, cmpO, cmpA, mtF, biF, Mt.ty, bmF, tyA, truthO, truthA, truthD, ne_eq, not_true_eq_false, not_false_eq_true, String.reduceBEq, beq_self_eq_true, addA_int, addA_str, subA, mulA, fdivA, modA, powA, ordA, negA, intTA, divmodA, absA, lenO, lenA, maxA, minA, max2A, min2A, kindA, kindD, K.i_int_str, K.s2, K.n2, e1]
theorem chk_turns (K : Core T) {ts : List (Str × List Nat)} {m : Nat} (c : Clo h) (hm : m < 1000) (t1 : ts.length ≤ 4) (t2 : (ts.map (·.1)).Nodup) (t3 : ∀ t ∈ ts, NameOk t.1) (t4 : ∀ t ∈ ts, t.2.Perm (List.range m)) : callN T (n + 3) 8 [.d (.int m), .d (.tup (ts.map turnD))] h = .ok (.d .non) h := by
  obtain ⟨s', h', e', v3, v4, hs', hh'⟩ := loopF_inv (ft := (Tg.tup (.cons (.name 3) (.cons (.name 4) .nil))).set) (fb := exSs T (callN T (n + 2)) fn8_c0) (m := none) (h0 := h ++ [.lst []]) (xs := (enumD 0 (ts.map turnD)).map .d) (s := [some (.d (.int m)), some (.d (.tup (ts.map turnD))), some (.ref h.length), none, none]) (h := h ++ [.lst []])
    (fun k s h' => ∃ v3 v4, s = [some (.d (.int m)), some (.d (.tup (ts.map turnD))), some (.ref h.length), v3, v4] ∧ h' = h ++ [.lst ((sL ((ts.map (·.1)).take k)).map .d)])
    (fun k x s2 h2 hk ⟨v3, v4, e1, e2⟩ => by
      rw [List.getElem?_map, enumD_get, List.getElem?_map] at hk
      cases ht : ts[k]? with
      | none => rw [ht] at hk; cases hk
      | some t =>
        rw [ht] at hk
        cases hk
        subst e1 e2
        have hm' := List.mem_of_getElem? ht
        have hkl : k < ts.length := (List.getElem?_eq_some_iff.mp ht).1
        have hfl : ((ts.map (·.1)).take k).length = k := by simp; omega
        have hn : t.1 ∉ (ts.map (·.1)).take k := by
          intro hmem
          obtain ⟨i, hi⟩ := List.mem_iff_getElem?.mp hmem
          have hik : i < k := by
            have := (List.getElem?_eq_some_iff.mp hi).1
            rw [hfl] at this; exact this
          rw [List.getElem?_take_of_lt hik] at hi
          have h2 : (ts.map (·.1))[k]? = some t.1 := by rw [List.getElem?_map, ht]; rfl
          obtain ⟨a1, a2⟩ := List.getElem?_eq_some_iff.mp hi
          obtain ⟨b1, b2⟩ := List.getElem?_eq_some_iff.mp h2
          have := (List.getElem_inj t2).mp (a2.trans b2.symm)
          omega
        have cc : Clo (h ++ [.lst ((sL ((ts.map (·.1)).take k)).map .d)]) := c.app (lst_below _ _)
        have e6 := turn_ok (n := n) (t := t) (m := m) (j := h.length) (l := (ts.map (·.1)).take k) K cc get_app (t3 t hm') hn (t4 t hm') hm
        refine ⟨[some (.d (.int m)), some (.d (.tup (ts.map turnD))), some (.ref h.length), some (.d (.int k)), some (.d (turnD t))], _, _, ?_, .inl ?_, trivial, some (.d (.int k)), some (.d (turnD t)), rfl, rfl⟩
        · simp -implicitDefEqProofs only [exSs, exS1, ev, evT, evP, evs, evB, evo_none, evo_some, evc_none, evc_some, evi_val, evi_rng, evi_enum, evL, evLs, vt, getS, opt_some, optH_some, Out.bind_ok, Out.bind_ex, Out.st_ok, Out.st_ex, OS.seq_nx, OS.seq_rt, OS.seq_ex, OS.seq_ct, OS.seq_bk, startS, Es.len, tg_name, tg_tup, tgs_nil, tgs_cons, Tgs.len, Lvs.len, setAll, List.getElem?_cons_zero, List.getElem?_cons_succ, List.set_cons_zero, List.set_cons_succ, List.map_cons, List.map_nil, List.cons_append, List.nil_append, List.replicate, List.length_cons, List.length_nil, Nat.reduceAdd, Nat.reduceSub, if_true, if_false, if_pos, reduceIte, reduceCtorEq, finC, blA, argF, plainSh, List.range', fillA, callF, Option.map_some, Option.bind_some, Option.map_none, Option.bind_none, and_self, true_and, and_true, intA, wipeS, Bool.not_true, Bool.not_false, Bool.false_eq_true, decide_true, decide_false, Bool.true_eq_false, clsA, binA, cmpO, cmpA, mtF, biF, Mt.ty, bmF, tyA, truthO, truthA, truthD, ne_eq, not_true_eq_false, not_false_eq_true, String.reduceBEq, beq_self_eq_true, Nat.zero_add]
        · have hk4 : ((k : Int) == 4) = false := by simp; omega
          have hfl2 : (List.map A.d (sL ((ts.map (·.1)).take k))).length < sizeLine := lt_size' (by simp [sL]; omega)
          have ek : sL ((ts.map (·.1)).take (k + 1)) = sL ((ts.map (·.1)).take k) ++ [.str t.1] := by
            rw [List.take_add_one, List.getElem?_map, ht]; simp [sL]
          rw [ek]
          simp -implicitDefEqProofs only [fn8_c0, fn8_c1, exSs, exS1, ev, evT, evP, evs, evB, evo_none, evo_some, evc_none, evc_some, evi_val, evi_rng, evi_enum, evL, evLs, vt, getS, opt_some, optH_some, Out.bind_ok, Out.bind_ex, Out.st_ok, Out.st_ex, OS.seq_nx, OS.seq_rt, OS.seq_ex, OS.seq_ct, OS.seq_bk, startS, Es.len, tg_name, tg_tup, tgs_nil, tgs_cons, Tgs.len, Lvs.len, setAll, List.getElem?_cons_zero, List.getElem?_cons_succ, List.set_cons_zero, List.set_cons_succ, List.map_cons, List.map_nil, List.cons_append, List.nil_append, List.replicate, List.length_cons, List.length_nil, Nat.reduceAdd, Nat.reduceSub, if_true, if_false, if_pos, reduceIte, reduceCtorEq, finC, blA, argF, plainSh, List.range', fillA, callF, Option.map_some, Option.bind_some, Option.map_none, Option.bind_none, and_self, true_and, and_true, intA, wipeS, Bool.not_true, Bool.not_false, Bool.false_eq_true, decide_true, decide_false, Bool.true_eq_false, clsA, binA, cmpO, cmpA, mtF, biF, Mt.ty, bmF, tyA, truthO, truthA, truthD, ne_eq, not_true_eq_false, not_false_eq_true, String.reduceBEq, beq_self_eq_true, K.g_MOST_TURNS, eqO_int, hk4, K.s6, K.n6, e6, get_app, set_app, appendM, hfl2, List.map_append]
          simp -implicitDefEqProofs only [turnD, subF_tup, atI_0, exSs, exS1, ev, evT, evP, evs, evB, evo_none, evo_some, evc_none, evc_some, evi_val, evi_rng, evi_enum, evL, evLs, vt, getS, opt_some, optH_some, Out.bind_ok, Out.bind_ex, Out.st_ok, Out.st_ex, OS.seq_nx, OS.seq_rt, OS.seq_ex, OS.seq_ct, OS.seq_bk, startS, Es.len, tg_name, tg_tup, tgs_nil, tgs_cons, Tgs.len, Lvs.len, setAll, List.getElem?_cons_zero, List.getElem?_cons_succ, List.set_cons_zero, List.set_cons_succ, List.map_cons, List.map_nil, List.cons_append, List.nil_append, List.replicate, List.length_cons, List.length_nil, Nat.reduceAdd, Nat.reduceSub, if_true, if_false, if_pos, reduceIte, reduceCtorEq, finC, blA, argF, plainSh, List.range', fillA, callF, Option.map_some, Option.bind_some, Option.map_none, Option.bind_none, and_self, true_and, and_true, intA, wipeS, Bool.not_true, Bool.not_false, Bool.false_eq_true, decide_true, decide_false, Bool.true_eq_false, clsA, binA, cmpO, cmpA, mtF, biF, Mt.ty, bmF, tyA, truthO, truthA, truthD, ne_eq, not_true_eq_false, not_false_eq_true, String.reduceBEq, beq_self_eq_true, get_app, set_app, appendM, hfl2])
    ⟨none, none, rfl, by simp [sL]⟩
  refine callN_nx (s := s') (h1 := h') K.f8 rfl ?_ (by subst hh'; exact retD c _)
  simp -implicitDefEqProofs only [fn8_a0, fn8_a1, fn8_a2, exSs, exS1, ev, evT, evP, evs, evB, evo_none, evo_some, evc_none, evc_some, evi_val, evi_rng, evi_enum, evL, evLs, vt, getS, opt_some, optH_some, Out.bind_ok, Out.bind_ex, Out.st_ok, Out.st_ex, OS.seq_nx, OS.seq_rt, OS.seq_ex, OS.seq_ct, OS.seq_bk, startS, Es.len, tg_name, tg_tup, tgs_nil, tgs_cons, Tgs.len, Lvs.len, setAll, List.getElem?_cons_zero, List.getElem?_cons_succ, List.set_cons_zero, List.set_cons_succ, List.map_cons, List.map_nil, List.cons_append, List.nil_append, List.replicate, List.length_cons, List.length_nil, Nat.reduceAdd, Nat.reduceSub, if_true, if_false, if_pos, reduceIte, reduceCtorEq, finC, blA, argF, plainSh, List.range', fillA, callF, Option.map_some, Option.bind_some, Option.map_none, Option.bind_none, and_self, true_and, and_true, intA, wipeS, Bool.not_true, Bool.not_false, Bool.false_eq_true, decide_true, decide_false, Bool.true_eq_false, clsA, binA, cmpO, cmpA, mtF, biF, Mt.ty, bmF, tyA, truthO, truthA, truthD, ne_eq, not_true_eq_false, not_false_eq_true, String.reduceBEq, beq_self_eq_true, kindA, kindD, K.i_tuple_tuple, newL_n, enumA, e']
theorem chk_cal (K : Core T) {es : List (Str ⊕ Nat)} {m : Nat} {l : List Str} (c : Clo h) (c1 : es ≠ []) (c2 : es.length ≤ 6) (h1 : ∀ x, .inl x ∈ es → x ∈ l) (h2 : ∀ k, .inr k ∈ es → k < m) : callN T (n + 4) 9 [.d (.int m), .d (.lst (sL l)), .d (.tup (es.map enD))] h = .ok (.d .non) h := by
  obtain ⟨s', h', e', v3, v4, hs', hh'⟩ := loopF_inv (ft := (Tg.tup (.cons (.name 3) (.cons (.name 4) .nil))).set) (fb := exSs T (callN T (n + 3)) fn9_c0) (m := none) (h0 := h) (xs := (enumD 0 (es.map enD)).map .d) (s := [some (.d (.int m)), some (.d (.lst (sL l))), some (.d (.tup (es.map enD))), none, none]) (h := h)
    (fun k s h' => ∃ v3 v4, s = [some (.d (.int m)), some (.d (.lst (sL l))), some (.d (.tup (es.map enD))), v3, v4] ∧ h' = h)
    (fun k x s2 h2' hk ⟨v3, v4, e1, e2⟩ => by
      rw [List.getElem?_map, enumD_get, List.getElem?_map] at hk
      cases ht : es[k]? with
      | none => rw [ht] at hk; cases hk
      | some t =>
        rw [ht] at hk
        cases hk
        subst e1 e2
        have hm' := List.mem_of_getElem? ht
        have hkl : k < es.length := (List.getElem?_eq_some_iff.mp ht).1
        have e6 := entry_ok (n := n) (e := t) (m := m) (l := l) K c (fun x hx => h1 x (hx ▸ hm')) (fun x hx => h2 x (hx ▸ hm'))
        refine ⟨[some (.d (.int m)), some (.d (.lst (sL l))), some (.d (.tup (es.map enD))), some (.d (.int k)), some (.d (enD t))], _, _, ?_, .inl ?_, trivial, some (.d (.int k)), some (.d (enD t)), rfl, rfl⟩
        · simp -implicitDefEqProofs only [exSs, exS1, ev, evT, evP, evs, evB, evo_none, evo_some, evc_none, evc_some, evi_val, evi_rng, evi_enum, evL, evLs, vt, getS, opt_some, optH_some, Out.bind_ok, Out.bind_ex, Out.st_ok, Out.st_ex, OS.seq_nx, OS.seq_rt, OS.seq_ex, OS.seq_ct, OS.seq_bk, startS, Es.len, tg_name, tg_tup, tgs_nil, tgs_cons, Tgs.len, Lvs.len, setAll, List.getElem?_cons_zero, List.getElem?_cons_succ, List.set_cons_zero, List.set_cons_succ, List.map_cons, List.map_nil, List.cons_append, List.nil_append, List.replicate, List.length_cons, List.length_nil, Nat.reduceAdd, Nat.reduceSub, if_true, if_false, if_pos, reduceIte, reduceCtorEq, finC, blA, argF, plainSh, List.range', fillA, callF, Option.map_some, Option.bind_some, Option.map_none, Option.bind_none, and_self, true_and, and_true, intA, wipeS, Bool.not_true, Bool.not_false, Bool.false_eq_true, decide_true, decide_false, Bool.true_eq_false, clsA, binA, cmpO, cmpA, mtF, biF, Mt.ty, bmF, tyA, truthO, truthA, truthD, ne_eq, not_true_eq_false, not_false_eq_true, String.reduceBEq, beq_self_eq_true, Nat.zero_add]
        · have hk4 : ((k : Int) == 6) = false := by simp; omega
          simp -implicitDefEqProofs only [fn9_c0, exSs, exS1, ev, evT, evP, evs, evB, evo_none, evo_some, evc_none, evc_some, evi_val, evi_rng, evi_enum, evL, evLs, vt, getS, opt_some, optH_some, Out.bind_ok, Out.bind_ex, Out.st_ok, Out.st_ex, OS.seq_nx, OS.seq_rt, OS.seq_ex, OS.seq_ct, OS.seq_bk, startS, Es.len, tg_name, tg_tup, tgs_nil, tgs_cons, Tgs.len, Lvs.len, setAll, List.getElem?_cons_zero, List.getElem?_cons_succ, List.set_cons_zero, List.set_cons_succ, List.map_cons, List.map_nil, List.cons_append, List.nil_append, List.replicate, List.length_cons, List.length_nil, Nat.reduceAdd, Nat.reduceSub, if_true, if_false, if_pos, reduceIte, reduceCtorEq, finC, blA, argF, plainSh, List.range', fillA, callF, Option.map_some, Option.bind_some, Option.map_none, Option.bind_none, and_self, true_and, and_true, intA, wipeS, Bool.not_true, Bool.not_false, Bool.false_eq_true, decide_true, decide_false, Bool.true_eq_false, clsA, binA, cmpO, cmpA, mtF, biF, Mt.ty, bmF, tyA, truthO, truthA, truthD, ne_eq, not_true_eq_false, not_false_eq_true, String.reduceBEq, beq_self_eq_true, K.g_MOST_ENTRIES, eqO_int, hk4, K.s7, K.n7, e6])
    ⟨none, none, rfl, rfl⟩
  have hl : (((es.length : Nat) : Int) == 0) = false := by
    have := List.length_pos_iff.mpr c1; simp; omega
  refine callN_nx (s := s') (h1 := h') K.f9 rfl ?_ (by subst hh'; exact retD0 c)
  simp -implicitDefEqProofs only [fn9_a0, fn9_a1, exSs, exS1, ev, evT, evP, evs, evB, evo_none, evo_some, evc_none, evc_some, evi_val, evi_rng, evi_enum, evL, evLs, vt, getS, opt_some, optH_some, Out.bind_ok, Out.bind_ex, Out.st_ok, Out.st_ex, OS.seq_nx, OS.seq_rt, OS.seq_ex, OS.seq_ct, OS.seq_bk, startS, Es.len, tg_name, tg_tup, tgs_nil, tgs_cons, Tgs.len, Lvs.len, setAll, List.getElem?_cons_zero, List.getElem?_cons_succ, List.set_cons_zero, List.set_cons_succ, List.map_cons, List.map_nil, List.cons_append, List.nil_append, List.replicate, List.length_cons, List.length_nil, Nat.reduceAdd, Nat.reduceSub, if_true, if_false, if_pos, reduceIte, reduceCtorEq, finC, blA, argF, plainSh, List.range', fillA, callF, Option.map_some, Option.bind_some, Option.map_none, Option.bind_none, and_self, true_and, and_true, intA, wipeS, Bool.not_true, Bool.not_false, Bool.false_eq_true, decide_true, decide_false, Bool.true_eq_false, clsA, binA, cmpO, cmpA, mtF, biF, Mt.ty, bmF, tyA, truthO, truthA, truthD, ne_eq, not_true_eq_false, not_false_eq_true, String.reduceBEq, beq_self_eq_true, addA_int, addA_str, subA, mulA, fdivA, modA, powA, ordA, negA, intTA, divmodA, absA, lenO, lenA, maxA, minA, max2A, min2A, kindA, kindD, K.i_tuple_tuple, asSeq, List.length_map, eqO_int, hl, enumA, e']
theorem slips_in : ∀ l ∈ slipsL, ([D.tup [], D.tup [.str "forget"], D.tup [.str "forget", .str "twice"], D.tup [.str "twice"]].any fun y => y.eqb (.tup (sL l))) = true := by decide +kernel
theorem slips_len : ∀ l ∈ slipsL, l.length ≤ 2 := by decide +kernel
theorem are_slips_ok (K : Core T) {l : List Str} (c : Clo h) (hl : l ∈ slipsL) : callN T (n + 1) 10 [.d (.tup (sL l))] h = .ok (.d (.bl true)) h := by
  have hc := comp_map (T := T) (C := callN T n) (it := .val (.var 0)) (i := 1) (e := fn10_x0) (own := [1]) (s := [some (.d (.tup (sL l))), none]) (h := h) (h1 := h) (xs := (sL l).map .d) (m := none) (f := fun _ => .bl true)
    (by simp -implicitDefEqProofs only [exSs, exS1, ev, evT, evP, evs, evB, evo_none, evo_some, evc_none, evc_some, evi_val, evi_rng, evi_enum, evL, evLs, vt, getS, opt_some, optH_some, Out.bind_ok, Out.bind_ex, Out.st_ok, Out.st_ex, OS.seq_nx, OS.seq_rt, OS.seq_ex, OS.seq_ct, OS.seq_bk, startS, Es.len, tg_name, tg_tup, tgs_nil, tgs_cons, Tgs.len, Lvs.len, setAll, List.getElem?_cons_zero, List.getElem?_cons_succ, List.set_cons_zero, List.set_cons_succ, List.map_cons, List.map_nil, List.cons_append, List.nil_append, List.replicate, List.length_cons, List.length_nil, Nat.reduceAdd, Nat.reduceSub, if_true, if_false, if_pos, reduceIte, reduceCtorEq, finC, blA, argF, plainSh, List.range', fillA, callF, Option.map_some, Option.bind_some, Option.map_none, Option.bind_none, and_self, true_and, and_true, intA, wipeS, Bool.not_true, Bool.not_false, Bool.false_eq_true, decide_true, decide_false, Bool.true_eq_false, clsA, binA, cmpO, cmpA, mtF, biF, Mt.ty, bmF, tyA, truthO, truthA, truthD, ne_eq, not_true_eq_false, not_false_eq_true, String.reduceBEq, beq_self_eq_true, iterV])
    (fun y hy => by
      simp only [sL, List.map_map, List.mem_map] at hy
      obtain ⟨c', _, rfl⟩ := hy
      simp -implicitDefEqProofs only [fn10_x0, exSs, exS1, ev, evT, evP, evs, evB, evo_none, evo_some, evc_none, evc_some, evi_val, evi_rng, evi_enum, evL, evLs, vt, getS, opt_some, optH_some, Out.bind_ok, Out.bind_ex, Out.st_ok, Out.st_ex, OS.seq_nx, OS.seq_rt, OS.seq_ex, OS.seq_ct, OS.seq_bk, startS, Es.len, tg_name, tg_tup, tgs_nil, tgs_cons, Tgs.len, Lvs.len, setAll, List.getElem?_cons_zero, List.getElem?_cons_succ, List.set_cons_zero, List.set_cons_succ, List.map_cons, List.map_nil, List.cons_append, List.nil_append, List.replicate, List.length_cons, List.length_nil, Nat.reduceAdd, Nat.reduceSub, if_true, if_false, if_pos, reduceIte, reduceCtorEq, finC, blA, argF, plainSh, List.range', fillA, callF, Option.map_some, Option.bind_some, Option.map_none, Option.bind_none, and_self, true_and, and_true, intA, wipeS, Bool.not_true, Bool.not_false, Bool.false_eq_true, decide_true, decide_false, Bool.true_eq_false, clsA, binA, cmpO, cmpA, mtF, biF, Mt.ty, bmF, tyA, truthO, truthA, truthD, ne_eq, not_true_eq_false, not_false_eq_true, String.reduceBEq, beq_self_eq_true, Function.comp, kindA, kindD, K.i_str_str])
    (lt_size (by have := slips_len l hl; simp [sL]; omega))
  have hp : (D.tup (sL l)).pure = true := by rw [D.pure]; exact pure_sL _
  have hd : (D.tup (sL l)).depth ≤ 64 := by rw [D.depth, depth_sL]; decide
  have ei : ∀ h, MP.inG false [D.tup [], D.tup [.str "forget"], D.tup [.str "forget", .str "twice"], D.tup [.str "twice"]] (.d (.tup (sL l))) h = some (.d (.bl true)) := fun h => by
    simp only [MP.inG, asP, hp, hd, if_true, slips_in l hl, Bool.false_eq_true, if_false]
  refine callN_rt K.f10 rfl ?_ (retD0 c)
  simp -implicitDefEqProofs only [fn10_a0, exSs, exS1, ev, evT, evP, evs, evB, evo_none, evo_some, evc_none, evc_some, evi_val, evi_rng, evi_enum, evL, evLs, vt, getS, opt_some, optH_some, Out.bind_ok, Out.bind_ex, Out.st_ok, Out.st_ex, OS.seq_nx, OS.seq_rt, OS.seq_ex, OS.seq_ct, OS.seq_bk, startS, Es.len, tg_name, tg_tup, tgs_nil, tgs_cons, Tgs.len, Lvs.len, setAll, List.getElem?_cons_zero, List.getElem?_cons_succ, List.set_cons_zero, List.set_cons_succ, List.map_cons, List.map_nil, List.cons_append, List.nil_append, List.replicate, List.length_cons, List.length_nil, Nat.reduceAdd, Nat.reduceSub, if_true, if_false, if_pos, reduceIte, reduceCtorEq, finC, blA, argF, plainSh, List.range', fillA, callF, Option.map_some, Option.bind_some, Option.map_none, Option.bind_none, and_self, true_and, and_true, intA, wipeS, Bool.not_true, Bool.not_false, Bool.false_eq_true, decide_true, decide_false, Bool.true_eq_false, clsA, binA, cmpO, cmpA, mtF, biF, Mt.ty, bmF, tyA, truthO, truthA, truthD, ne_eq, not_true_eq_false, not_false_eq_true, String.reduceBEq, beq_self_eq_true, kindA, kindD, K.i_tuple_tuple, hc, all_true, K.g_SLIPS, ei]
def lay1 : List Str := ["held_size", "held_turns", "held_calendar", "held_slips", "held_gap"]
theorem ix1 : lay1.idxOf? ("held_size" : Str) = some 0 ∧ lay1.idxOf? ("held_turns" : Str) = some 1 ∧ lay1.idxOf? ("held_calendar" : Str) = some 2 ∧ lay1.idxOf? ("held_slips" : Str) = some 3 ∧ lay1.idxOf? ("held_gap" : Str) = some 4 := by decide +kernel
theorem setFA_new {lay : Nat → List Str} {f : Str} {v : A} {cn : Nat} {fs : List A} (e : (lay cn).idxOf? f = some fs.length) : setFA lay f (.ref h.length) v (h ++ [.ins cn fs]) = some (h ++ [.ins cn (fs ++ [v])]) := by
  simp only [setFA, get_app, e, Nat.lt_irrefl, if_false, if_true, set_app]
theorem init_ok (K : Core T) {b : Hb} (c : Clo h) (B : b.Ok) : callN T (n + 5) 24 [.ref h.length, .d (.int b.size), .d (.tup (b.turns.map turnD)), .d (.tup (b.cal.map enD)), .d (.tup (sL b.slips)), .d (.int b.gap)] (h ++ [.ins 1 []]) = .ok (.d .non) (h ++ [.ins 1 (b.fs.map .d)]) := by
  have cc : Clo (h ++ [.ins 1 []]) := c.app rfl
  have e1 := integer_ok (n := n + 2) (i := b.size) (a := 1) (b := 6) K cc
  have b1 := B.s1; have b2 := B.s2; have b3 := B.g1; have b4 := B.g2
  rw [decide_eq_true (show (1 : Int) ≤ (b.size : Int) ∧ (b.size : Int) ≤ 6 by omega)] at e1
  have e2 := chk_turns (n := n + 1) K cc (show b.size < 1000 by omega) B.t1 B.t2 B.t3 B.t4
  have e3 := chk_cal (n := n) (l := b.turns.map (·.1)) K cc B.c1 B.c2 B.c3 B.c4
  have e4 := are_slips_ok (n := n + 3) K cc B.sl
  have e5 := integer_ok (n := n + 2) (i := b.gap) (a := 1) (b := 6) K cc
  rw [decide_eq_true (show (1 : Int) ≤ (b.gap : Int) ∧ (b.gap : Int) ≤ 6 by omega)] at e5
  replace e1 : callN T (n + 4) _ _ _ = _ := e1
  replace e2 : callN T (n + 4) _ _ _ = _ := e2
  replace e4 : callN T (n + 4) _ _ _ = _ := e4
  replace e5 : callN T (n + 4) _ _ _ = _ := e5
  have hc := comp_map (T := T) (C := callN T (n + 4)) (it := .val (.var 2)) (i := 6) (e := fn24_x0) (own := [6]) (s := [some (.ref h.length), some (.d (.int b.size)), some (.d (.tup (b.turns.map turnD))), some (.d (.tup (b.cal.map enD))), some (.d (.tup (sL b.slips))), some (.d (.int b.gap)), none]) (h := h ++ [.ins 1 []]) (h1 := h ++ [.ins 1 []]) (xs := (b.turns.map turnD).map .d) (m := none) (f := fun x => match x with | .d (.tup (y :: _)) => y | _ => .non)
    (by simp -implicitDefEqProofs only [exSs, exS1, ev, evT, evP, evs, evB, evo_none, evo_some, evc_none, evc_some, evi_val, evi_rng, evi_enum, evL, evLs, vt, getS, opt_some, optH_some, Out.bind_ok, Out.bind_ex, Out.st_ok, Out.st_ex, OS.seq_nx, OS.seq_rt, OS.seq_ex, OS.seq_ct, OS.seq_bk, startS, Es.len, tg_name, tg_tup, tgs_nil, tgs_cons, Tgs.len, Lvs.len, setAll, List.getElem?_cons_zero, List.getElem?_cons_succ, List.set_cons_zero, List.set_cons_succ, List.map_cons, List.map_nil, List.cons_append, List.nil_append, List.replicate, List.length_cons, List.length_nil, Nat.reduceAdd, Nat.reduceSub, if_true, if_false, if_pos, reduceIte, reduceCtorEq, finC, blA, argF, plainSh, List.range', fillA, callF, Option.map_some, Option.bind_some, Option.map_none, Option.bind_none, and_self, true_and, and_true, intA, wipeS, Bool.not_true, Bool.not_false, Bool.false_eq_true, decide_true, decide_false, Bool.true_eq_false, clsA, binA, cmpO, cmpA, mtF, biF, Mt.ty, bmF, tyA, truthO, truthA, truthD, ne_eq, not_true_eq_false, not_false_eq_true, String.reduceBEq, beq_self_eq_true, iterV])
    (fun y hy => by
      simp only [List.map_map, List.mem_map] at hy
      obtain ⟨t, _, rfl⟩ := hy
      simp -implicitDefEqProofs only [fn24_x0, exSs, exS1, ev, evT, evP, evs, evB, evo_none, evo_some, evc_none, evc_some, evi_val, evi_rng, evi_enum, evL, evLs, vt, getS, opt_some, optH_some, Out.bind_ok, Out.bind_ex, Out.st_ok, Out.st_ex, OS.seq_nx, OS.seq_rt, OS.seq_ex, OS.seq_ct, OS.seq_bk, startS, Es.len, tg_name, tg_tup, tgs_nil, tgs_cons, Tgs.len, Lvs.len, setAll, List.getElem?_cons_zero, List.getElem?_cons_succ, List.set_cons_zero, List.set_cons_succ, List.map_cons, List.map_nil, List.cons_append, List.nil_append, List.replicate, List.length_cons, List.length_nil, Nat.reduceAdd, Nat.reduceSub, if_true, if_false, if_pos, reduceIte, reduceCtorEq, finC, blA, argF, plainSh, List.range', fillA, callF, Option.map_some, Option.bind_some, Option.map_none, Option.bind_none, and_self, true_and, and_true, intA, wipeS, Bool.not_true, Bool.not_false, Bool.false_eq_true, decide_true, decide_false, Bool.true_eq_false, clsA, binA, cmpO, cmpA, mtF, biF, Mt.ty, bmF, tyA, truthO, truthA, truthD, ne_eq, not_true_eq_false, not_false_eq_true, String.reduceBEq, beq_self_eq_true, Function.comp, turnD, subF_tup, atI_0])
    (lt_size (by have := B.t1; simp; omega))
  have hcm : ((b.turns.map turnD).map A.d).map (fun x => match x with | .d (.tup (y :: _)) => y | _ => D.non) = sL (b.turns.map (·.1)) := by
    simp [sL, turnD, Function.comp_def]
  rw [hcm] at hc
  have hr : retA (h ++ [O.ins 1 []]).length (.d .non) (h ++ [.ins 1 (b.fs.map .d)]) = some (.d .non, h ++ [.ins 1 (b.fs.map .d)]) := by
    have := retD0 (x := .non) (c.app (o := .ins 1 (b.fs.map .d)) (by rw [O.below]; exact below_map _ _))
    simpa using this
  refine callN_nx (s := [some (.ref h.length), some (.d (.int b.size)), some (.d (.tup (b.turns.map turnD))), some (.d (.tup (b.cal.map enD))), some (.d (.tup (sL b.slips))), some (.d (.int b.gap)), none]) K.f24 rfl ?_ hr
  obtain ⟨i0, i1, i2, i3, i4⟩ := ix1
  have el : T.lay 1 = lay1 := K.lay1
  have f0 := fun v => setFA_new (h := h) (lay := T.lay) (cn := 1) (fs := []) (v := v) (f := "held_size") (by rw [el]; exact i0)
  have f1 := fun a v => setFA_new (h := h) (lay := T.lay) (cn := 1) (fs := [a]) (v := v) (f := "held_turns") (by rw [el]; exact i1)
  have f2 := fun a b v => setFA_new (h := h) (lay := T.lay) (cn := 1) (fs := [a, b]) (v := v) (f := "held_calendar") (by rw [el]; exact i2)
  have f3 := fun a b c v => setFA_new (h := h) (lay := T.lay) (cn := 1) (fs := [a, b, c]) (v := v) (f := "held_slips") (by rw [el]; exact i3)
  have f4 := fun a b c d v => setFA_new (h := h) (lay := T.lay) (cn := 1) (fs := [a, b, c, d]) (v := v) (f := "held_gap") (by rw [el]; exact i4)
  simp -implicitDefEqProofs only [fn24_a0, fn24_a1, fn24_a2, fn24_a3, fn24_a4, exSs, exS1, ev, evT, evP, evs, evB, evo_none, evo_some, evc_none, evc_some, evi_val, evi_rng, evi_enum, evL, evLs, vt, getS, opt_some, optH_some, Out.bind_ok, Out.bind_ex, Out.st_ok, Out.st_ex, OS.seq_nx, OS.seq_rt, OS.seq_ex, OS.seq_ct, OS.seq_bk, startS, Es.len, tg_name, tg_tup, tgs_nil, tgs_cons, Tgs.len, Lvs.len, setAll, List.getElem?_cons_zero, List.getElem?_cons_succ, List.set_cons_zero, List.set_cons_succ, List.map_cons, List.map_nil, List.cons_append, List.nil_append, List.replicate, List.length_cons, List.length_nil, Nat.reduceAdd, Nat.reduceSub, if_true, if_false, if_pos, reduceIte, reduceCtorEq, finC, blA, argF, plainSh, List.range', fillA, callF, Option.map_some, Option.bind_some, Option.map_none, Option.bind_none, and_self, true_and, and_true, intA, wipeS, Bool.not_true, Bool.not_false, Bool.false_eq_true, decide_true, decide_false, Bool.true_eq_false, clsA, binA, cmpO, cmpA, mtF, biF, Mt.ty, bmF, tyA, truthO, truthA, truthD, ne_eq, not_true_eq_false, not_false_eq_true, String.reduceBEq, beq_self_eq_true, K.s2, K.n2, K.s8, K.n8, K.s9, K.n9, K.s10, K.n10, K.g_MOST_SIZE, K.g_MOST_GAP, e1, e2, hc, e3, e4, e5]
  simp -implicitDefEqProofs only [fn24_a5, fn24_a6, fn24_a7, fn24_a8, fn24_a9, exSs, exS1, ev, evT, evP, evs, evB, evo_none, evo_some, evc_none, evc_some, evi_val, evi_rng, evi_enum, evL, evLs, vt, getS, opt_some, optH_some, Out.bind_ok, Out.bind_ex, Out.st_ok, Out.st_ex, OS.seq_nx, OS.seq_rt, OS.seq_ex, OS.seq_ct, OS.seq_bk, startS, Es.len, tg_name, tg_tup, tgs_nil, tgs_cons, Tgs.len, Lvs.len, setAll, List.getElem?_cons_zero, List.getElem?_cons_succ, List.set_cons_zero, List.set_cons_succ, List.map_cons, List.map_nil, List.cons_append, List.nil_append, List.replicate, List.length_cons, List.length_nil, Nat.reduceAdd, Nat.reduceSub, if_true, if_false, if_pos, reduceIte, reduceCtorEq, finC, blA, argF, plainSh, List.range', fillA, callF, Option.map_some, Option.bind_some, Option.map_none, Option.bind_none, and_self, true_and, and_true, intA, wipeS, Bool.not_true, Bool.not_false, Bool.false_eq_true, decide_true, decide_false, Bool.true_eq_false, clsA, binA, cmpO, cmpA, mtF, biF, Mt.ty, bmF, tyA, truthO, truthA, truthD, ne_eq, not_true_eq_false, not_false_eq_true, String.reduceBEq, beq_self_eq_true, f0, f1, f2, f3, f4, Hb.fs]
theorem made_ok (K : Core T) {b : Hb} (c : Clo h) (B : b.Ok) : madeF false h.length 1 5 (callF (callN T (n + 5)) 6 24 [.ref h.length, .d (.int b.size), .d (.tup (b.turns.map turnD)), .d (.tup (b.cal.map enD)), .d (.tup (sL b.slips)), .d (.int b.gap)] (h ++ [.ins 1 []])) = .ok (.d b.o) h := by
  have e := init_ok (n := n) K c B
  have e2 : objA h.length 1 5 h.length (h ++ [.ins 1 (b.fs.map .d)]) = some (.d b.o, h) := by
    have hl : (b.fs.map A.d).length = 5 := rfl
    simp only [objA, get_app, hl, Nat.lt_irrefl, not_false_eq_true, and_self, if_true, allD_map, c.cutT, Option.map_some, Hb.o]
  simp only [callF, List.length_cons, List.length_nil, Nat.reduceAdd, if_true, e, madeF, Bool.false_eq_true, if_false, e2, optH]
end
end MP
end S_RHb
section S_RHc
/-! RHc: what a habit tells: properties, its text, ==. -/
namespace MP
open PySem L2
section
variable {T : Tab} {n u : Nat} {h0 h h1 h2 : Hh} {b : Hb}
theorem ix2 : ∀ (lay : Nat → List Str), lay 1 = lay1 → ∀ h, fldA lay "held_size" (.d b.o) h = some (.d (.int b.size)) ∧ fldA lay "held_turns" (.d b.o) h = some (.d (.tup (b.turns.map turnD))) ∧ fldA lay "held_calendar" (.d b.o) h = some (.d (.tup (b.cal.map enD))) ∧ fldA lay "held_slips" (.d b.o) h = some (.d (.tup (sL b.slips))) ∧ fldA lay "held_gap" (.d b.o) h = some (.d (.int b.gap)) := by
  intro lay e h
  obtain ⟨i0, i1, i2, i3, i4⟩ := ix1
  have ef : fldsA (.d b.o) h = some (1, b.fs.map .d) := rfl
  simp only [fldA, ef, e, i0, i1, i2, i3, i4]
  exact ⟨rfl, rfl, rfl, rfl, rfl⟩
theorem clso : clsA (.d b.o) h = some 1 := rfl
theorem at_fld {C : CallT} {f : Str} {a v : A} {cn : Nat} (hc : clsA a h = some cn) (e : T.prop cn f = none) (e2 : fldA T.lay f a h = some v) : attrF T C f a h = .ok v h := by
  simp [attrF, hc, e, e2, opt]
theorem at_prop {C : CallT} {f : Str} {a v : A} {cn g : Nat} (hc : clsA a h = some cn) (e : T.prop cn f = some g) (e2 : C g [a] h = .ok v h1) : attrF T C f a h = .ok v h1 := by
  simp [attrF, hc, e, e2]
theorem hsize (K : Core T) {C : CallT} : attrF T C "held_size" (.d b.o) h = .ok (.d (.int b.size)) h := at_fld clso K.q_held_size (ix2 T.lay K.lay1 h).1
theorem hturns (K : Core T) {C : CallT} : attrF T C "held_turns" (.d b.o) h = .ok (.d (.tup (b.turns.map turnD))) h := at_fld clso K.q_held_turns (ix2 T.lay K.lay1 h).2.1
theorem hcal (K : Core T) {C : CallT} : attrF T C "held_calendar" (.d b.o) h = .ok (.d (.tup (b.cal.map enD))) h := at_fld clso K.q_held_calendar (ix2 T.lay K.lay1 h).2.2.1
theorem hslips (K : Core T) {C : CallT} : attrF T C "held_slips" (.d b.o) h = .ok (.d (.tup (sL b.slips))) h := at_fld clso K.q_held_slips (ix2 T.lay K.lay1 h).2.2.2.1
theorem hgap (K : Core T) {C : CallT} : attrF T C "held_gap" (.d b.o) h = .ok (.d (.int b.gap)) h := at_fld clso K.q_held_gap (ix2 T.lay K.lay1 h).2.2.2.2
theorem psize (K : Core T) (c : Clo h) : attrF T (callN T (n + 1)) "size" (.d b.o) h = .ok (.d (.int b.size)) h := by
  refine at_prop clso K.p_size (callN_rt K.f29 rfl ?_ (retD0 c))
  simp -implicitDefEqProofs only [fn29_a0, exSs, exS1, ev, evT, evP, evs, evB, evo_none, evo_some, evc_none, evc_some, evi_val, evi_rng, evi_enum, evL, evLs, vt, getS, opt_some, optH_some, Out.bind_ok, Out.bind_ex, Out.st_ok, Out.st_ex, OS.seq_nx, OS.seq_rt, OS.seq_ex, OS.seq_ct, OS.seq_bk, startS, Es.len, tg_name, tg_tup, tgs_nil, tgs_cons, Tgs.len, Lvs.len, setAll, List.getElem?_cons_zero, List.getElem?_cons_succ, List.set_cons_zero, List.set_cons_succ, List.map_cons, List.map_nil, List.cons_append, List.nil_append, List.replicate, List.length_cons, List.length_nil, Nat.reduceAdd, Nat.reduceSub, if_true, if_false, if_pos, reduceIte, reduceCtorEq, finC, blA, argF, plainSh, List.range', fillA, callF, Option.map_some, Option.bind_some, Option.map_none, Option.bind_none, and_self, true_and, and_true, intA, wipeS, Bool.not_true, Bool.not_false, Bool.false_eq_true, decide_true, decide_false, Bool.true_eq_false, clsA, binA, cmpO, cmpA, mtF, biF, Mt.ty, bmF, tyA, truthO, truthA, truthD, ne_eq, not_true_eq_false, not_false_eq_true, String.reduceBEq, beq_self_eq_true, hsize K]
theorem pturns (K : Core T) (c : Clo h) : attrF T (callN T (n + 1)) "turns" (.d b.o) h = .ok (.d (.tup (b.turns.map turnD))) h := by
  refine at_prop clso K.p_turns (callN_rt K.f30 rfl ?_ (retD0 c))
  simp -implicitDefEqProofs only [fn30_a0, exSs, exS1, ev, evT, evP, evs, evB, evo_none, evo_some, evc_none, evc_some, evi_val, evi_rng, evi_enum, evL, evLs, vt, getS, opt_some, optH_some, Out.bind_ok, Out.bind_ex, Out.st_ok, Out.st_ex, OS.seq_nx, OS.seq_rt, OS.seq_ex, OS.seq_ct, OS.seq_bk, startS, Es.len, tg_name, tg_tup, tgs_nil, tgs_cons, Tgs.len, Lvs.len, setAll, List.getElem?_cons_zero, List.getElem?_cons_succ, List.set_cons_zero, List.set_cons_succ, List.map_cons, List.map_nil, List.cons_append, List.nil_append, List.replicate, List.length_cons, List.length_nil, Nat.reduceAdd, Nat.reduceSub, if_true, if_false, if_pos, reduceIte, reduceCtorEq, finC, blA, argF, plainSh, List.range', fillA, callF, Option.map_some, Option.bind_some, Option.map_none, Option.bind_none, and_self, true_and, and_true, intA, wipeS, Bool.not_true, Bool.not_false, Bool.false_eq_true, decide_true, decide_false, Bool.true_eq_false, clsA, binA, cmpO, cmpA, mtF, biF, Mt.ty, bmF, tyA, truthO, truthA, truthD, ne_eq, not_true_eq_false, not_false_eq_true, String.reduceBEq, beq_self_eq_true, hturns K]
theorem pcal (K : Core T) (c : Clo h) : attrF T (callN T (n + 1)) "calendar" (.d b.o) h = .ok (.d (.tup (b.cal.map enD))) h := by
  refine at_prop clso K.p_calendar (callN_rt K.f31 rfl ?_ (retD0 c))
  simp -implicitDefEqProofs only [fn31_a0, exSs, exS1, ev, evT, evP, evs, evB, evo_none, evo_some, evc_none, evc_some, evi_val, evi_rng, evi_enum, evL, evLs, vt, getS, opt_some, optH_some, Out.bind_ok, Out.bind_ex, Out.st_ok, Out.st_ex, OS.seq_nx, OS.seq_rt, OS.seq_ex, OS.seq_ct, OS.seq_bk, startS, Es.len, tg_name, tg_tup, tgs_nil, tgs_cons, Tgs.len, Lvs.len, setAll, List.getElem?_cons_zero, List.getElem?_cons_succ, List.set_cons_zero, List.set_cons_succ, List.map_cons, List.map_nil, List.cons_append, List.nil_append, List.replicate, List.length_cons, List.length_nil, Nat.reduceAdd, Nat.reduceSub, if_true, if_false, if_pos, reduceIte, reduceCtorEq, finC, blA, argF, plainSh, List.range', fillA, callF, Option.map_some, Option.bind_some, Option.map_none, Option.bind_none, and_self, true_and, and_true, intA, wipeS, Bool.not_true, Bool.not_false, Bool.false_eq_true, decide_true, decide_false, Bool.true_eq_false, clsA, binA, cmpO, cmpA, mtF, biF, Mt.ty, bmF, tyA, truthO, truthA, truthD, ne_eq, not_true_eq_false, not_false_eq_true, String.reduceBEq, beq_self_eq_true, hcal K]
theorem pslips (K : Core T) (c : Clo h) : attrF T (callN T (n + 1)) "slips" (.d b.o) h = .ok (.d (.tup (sL b.slips))) h := by
  refine at_prop clso K.p_slips (callN_rt K.f32 rfl ?_ (retD0 c))
  simp -implicitDefEqProofs only [fn32_a0, exSs, exS1, ev, evT, evP, evs, evB, evo_none, evo_some, evc_none, evc_some, evi_val, evi_rng, evi_enum, evL, evLs, vt, getS, opt_some, optH_some, Out.bind_ok, Out.bind_ex, Out.st_ok, Out.st_ex, OS.seq_nx, OS.seq_rt, OS.seq_ex, OS.seq_ct, OS.seq_bk, startS, Es.len, tg_name, tg_tup, tgs_nil, tgs_cons, Tgs.len, Lvs.len, setAll, List.getElem?_cons_zero, List.getElem?_cons_succ, List.set_cons_zero, List.set_cons_succ, List.map_cons, List.map_nil, List.cons_append, List.nil_append, List.replicate, List.length_cons, List.length_nil, Nat.reduceAdd, Nat.reduceSub, if_true, if_false, if_pos, reduceIte, reduceCtorEq, finC, blA, argF, plainSh, List.range', fillA, callF, Option.map_some, Option.bind_some, Option.map_none, Option.bind_none, and_self, true_and, and_true, intA, wipeS, Bool.not_true, Bool.not_false, Bool.false_eq_true, decide_true, decide_false, Bool.true_eq_false, clsA, binA, cmpO, cmpA, mtF, biF, Mt.ty, bmF, tyA, truthO, truthA, truthD, ne_eq, not_true_eq_false, not_false_eq_true, String.reduceBEq, beq_self_eq_true, hslips K]
theorem pgap (K : Core T) (c : Clo h) : attrF T (callN T (n + 1)) "gap" (.d b.o) h = .ok (.d (.int b.gap)) h := by
  refine at_prop clso K.p_gap (callN_rt K.f33 rfl ?_ (retD0 c))
  simp -implicitDefEqProofs only [fn33_a0, exSs, exS1, ev, evT, evP, evs, evB, evo_none, evo_some, evc_none, evc_some, evi_val, evi_rng, evi_enum, evL, evLs, vt, getS, opt_some, optH_some, Out.bind_ok, Out.bind_ex, Out.st_ok, Out.st_ex, OS.seq_nx, OS.seq_rt, OS.seq_ex, OS.seq_ct, OS.seq_bk, startS, Es.len, tg_name, tg_tup, tgs_nil, tgs_cons, Tgs.len, Lvs.len, setAll, List.getElem?_cons_zero, List.getElem?_cons_succ, List.set_cons_zero, List.set_cons_succ, List.map_cons, List.map_nil, List.cons_append, List.nil_append, List.replicate, List.length_cons, List.length_nil, Nat.reduceAdd, Nat.reduceSub, if_true, if_false, if_pos, reduceIte, reduceCtorEq, finC, blA, argF, plainSh, List.range', fillA, callF, Option.map_some, Option.bind_some, Option.map_none, Option.bind_none, and_self, true_and, and_true, intA, wipeS, Bool.not_true, Bool.not_false, Bool.false_eq_true, decide_true, decide_false, Bool.true_eq_false, clsA, binA, cmpO, cmpA, mtF, biF, Mt.ty, bmF, tyA, truthO, truthA, truthD, ne_eq, not_true_eq_false, not_false_eq_true, String.reduceBEq, beq_self_eq_true, hgap K]
theorem olen (K : Core T) (c : Clo h) (hb : b.cal.length < 1000) : lenO (callN T (n + 1)) T.len [.d b.o] h = some (.d (.int b.cal.length), h) := by
  have e : callN T (n + 1) 25 [.d b.o] h = .ok (.d (.int b.cal.length)) h := by
    refine callN_rt K.f25 rfl ?_ (retD0 c)
    simp -implicitDefEqProofs only [fn25_a0, exSs, exS1, ev, evT, evP, evs, evB, evo_none, evo_some, evc_none, evc_some, evi_val, evi_rng, evi_enum, evL, evLs, vt, getS, opt_some, optH_some, Out.bind_ok, Out.bind_ex, Out.st_ok, Out.st_ex, OS.seq_nx, OS.seq_rt, OS.seq_ex, OS.seq_ct, OS.seq_bk, startS, Es.len, tg_name, tg_tup, tgs_nil, tgs_cons, Tgs.len, Lvs.len, setAll, List.getElem?_cons_zero, List.getElem?_cons_succ, List.set_cons_zero, List.set_cons_succ, List.map_cons, List.map_nil, List.cons_append, List.nil_append, List.replicate, List.length_cons, List.length_nil, Nat.reduceAdd, Nat.reduceSub, if_true, if_false, if_pos, reduceIte, reduceCtorEq, finC, blA, argF, plainSh, List.range', fillA, callF, Option.map_some, Option.bind_some, Option.map_none, Option.bind_none, and_self, true_and, and_true, intA, wipeS, Bool.not_true, Bool.not_false, Bool.false_eq_true, decide_true, decide_false, Bool.true_eq_false, clsA, binA, cmpO, cmpA, mtF, biF, Mt.ty, bmF, tyA, truthO, truthA, truthD, ne_eq, not_true_eq_false, not_false_eq_true, String.reduceBEq, beq_self_eq_true, hcal K, addA_int, addA_str, subA, mulA, fdivA, modA, powA, ordA, negA, intTA, divmodA, absA, lenO, lenA, maxA, minA, max2A, min2A, asSeq, List.length_map]
  have hx : (0 : Int) ≤ (b.cal.length : Int) ∧ (b.cal.length : Int) < 2 ^ 63 := ⟨by omega, by omega⟩
  simp only [lenO, clso, Option.bind_some, K.len1, e, hx, and_self, if_true]
theorem obool (K : Core T) (c : Clo h) : boolO (callN T (n + 1)) T.bool [.d b.o] h = some (.d (.bl true), h) := by
  have e : callN T (n + 1) 26 [.d b.o] h = .ok (.d (.bl true)) h := by
    refine callN_rt K.f26 rfl ?_ (retD0 c)
    simp -implicitDefEqProofs only [fn26_a0, exSs, exS1, ev, evT, evP, evs, evB, evo_none, evo_some, evc_none, evc_some, evi_val, evi_rng, evi_enum, evL, evLs, vt, getS, opt_some, optH_some, Out.bind_ok, Out.bind_ex, Out.st_ok, Out.st_ex, OS.seq_nx, OS.seq_rt, OS.seq_ex, OS.seq_ct, OS.seq_bk, startS, Es.len, tg_name, tg_tup, tgs_nil, tgs_cons, Tgs.len, Lvs.len, setAll, List.getElem?_cons_zero, List.getElem?_cons_succ, List.set_cons_zero, List.set_cons_succ, List.map_cons, List.map_nil, List.cons_append, List.nil_append, List.replicate, List.length_cons, List.length_nil, Nat.reduceAdd, Nat.reduceSub, if_true, if_false, if_pos, reduceIte, reduceCtorEq, finC, blA, argF, plainSh, List.range', fillA, callF, Option.map_some, Option.bind_some, Option.map_none, Option.bind_none, and_self, true_and, and_true, intA, wipeS, Bool.not_true, Bool.not_false, Bool.false_eq_true, decide_true, decide_false, Bool.true_eq_false, clsA, binA, cmpO, cmpA, mtF, biF, Mt.ty, bmF, tyA, truthO, truthA, truthD, ne_eq, not_true_eq_false, not_false_eq_true, String.reduceBEq, beq_self_eq_true]
  simp only [boolO, clso, Option.bind_some, K.bool1, e]

/-! ### the text -/
def natS (k : Nat) : Str := ((toString (k : Int) : String) : Str)
def enS : Str ⊕ Nat → Str
  | .inl x => x
  | .inr k => natS k
def turnRow (t : Str × List Nat) : Str := Txt.join " " ("turn" :: t.1 :: t.2.map natS)
def calRow (b : Hb) : Str := Txt.join " " ("calendar" :: b.cal.map enS)
def slipRow (b : Hb) : Str := Txt.join " " ("slips" :: (b.slips ++ [natS b.gap]))
def page (b : Hb) : Str := Txt.join "\n" (("habit " ++ natS b.size) :: (b.turns.map turnRow ++ [calRow b, slipRow b]))
theorem natS_len : ∀ k, k < 10 → (natS k).length = 1 := by decide +kernel
theorem log_lt : ∀ k, k < 10 → k.log2 < 1920 := by decide
theorem strA_nat {k : Nat} (hk : k < 10) : strA [.d (.int k)] h = some (.d (.str (natS k)), h) := by
  have : (k : Int).natAbs.log2 < 1920 := by rw [Int.natAbs_natCast]; exact log_lt k hk
  simp only [strA, this, if_true]; rfl
theorem strO_nat {C : CallT} {tb : Nat → Option Nat} {k : Nat} (hk : k < 10) : strO C tb [.d (.int k)] h = some (.d (.str (natS k)), h) := by
  simp only [strO, clsA, Option.bind_none, strA_nat hk]
theorem strO_str {C : CallT} {tb : Nat → Option Nat} {x : Str} : strO C tb [.d (.str x)] h = some (.d (.str x), h) := rfl
theorem joinL_len (s : List Nat) : ∀ ys : List (List Nat), (TL.joinL s ys).length ≤ (ys.map (·.length)).sum + ys.length * s.length
  | [] => by simp [TL.joinL]
  | [p] => by simp [TL.joinL]
  | p :: q :: r => by
    have := joinL_len s (q :: r)
    rw [TL.joinL, List.length_append, List.length_append]
    simp only [List.map_cons, List.sum_cons, List.length_cons] at *
    have e : (r.length + 1 + 1) * s.length = (r.length + 1) * s.length + s.length := by rw [Nat.succ_mul]
    omega
theorem join_len (x : Str) (ys : List Str) : (Txt.join x ys).length ≤ (ys.map (·.length)).sum + ys.length * x.length := by
  have e := SX.join_S x.cps.toList (ys.map fun y => y.cps.toList)
  rw [SX.S_tl, List.map_map] at e
  have e2 : ys.map (SX.S ∘ fun y => y.cps.toList) = ys := by
    conv => rhs; rw [← List.map_id ys]
    exact List.map_congr_left fun y _ => SX.S_tl y
  rw [e2] at e
  rw [e, SX.S_len]
  have := joinL_len x.cps.toList (ys.map fun y => y.cps.toList)
  simpa [List.map_map, Function.comp_def, Str.length] using this
theorem sum_le {B : Nat} : ∀ {ys : List Str}, (∀ y ∈ ys, y.length ≤ B) → (ys.map (·.length)).sum ≤ ys.length * B
  | [], _ => by simp
  | y :: r, h => by
    have h1 := h y (List.mem_cons_self ..)
    have h2 := sum_le fun z hz => h z (List.mem_cons_of_mem _ hz)
    simp only [List.map_cons, List.sum_cons, List.length_cons]
    have : (r.length + 1) * B = r.length * B + B := Nat.succ_mul _ _
    omega
theorem joinM_ok {x : Str} {ys : List Str} {B : Nat} (hy : ∀ y ∈ ys, y.length ≤ B) (hl : ys.length ≤ 100) (hB : B ≤ 1000) (hx : x.length ≤ 10) : joinM (.d (.str x)) [.d (.lst (sL ys))] h = some (.d (.str (Txt.join x ys)), h) := by
  have h1 := sum_le hy
  have h2 : ys.length * B ≤ 100 * 1000 := Nat.mul_le_mul hl hB
  have h3 : ys.length * x.length ≤ 100 * 10 := Nat.mul_le_mul hl hx
  have : (ys.map (·.length)).sum + ys.length * x.length ≤ 16777216 := by omega
  simp only [joinM, strs_sL, this, if_true]
theorem join_le {x : Str} {ys : List Str} {B : Nat} (hy : ∀ y ∈ ys, y.length ≤ B) : (Txt.join x ys).length ≤ ys.length * (B + x.length) := by
  have h1 := sum_le hy
  have h2 := join_len x ys
  rw [Nat.mul_add]; omega
theorem sp1 : ((" " : Str)).length = 1 := by decide +kernel
theorem nl1 : (("\n" : Str)).length = 1 := by decide +kernel
theorem wl : (("turn" : Str)).length = 4 ∧ (("calendar" : Str)).length = 8 ∧ (("slips" : Str)).length = 5 ∧ (("habit " : Str)).length = 6 := by decide +kernel
theorem slips_w : ∀ l ∈ slipsL, ∀ y ∈ l, y.length ≤ 8 := by decide +kernel
theorem perm_lt {p : List Nat} {m k : Nat} (hp : p.Perm (List.range m)) (hk : k ∈ p) : k < m := List.mem_range.mp (hp.mem_iff.mp hk)
theorem turn_w (B : b.Ok) {t : Str × List Nat} (ht : t ∈ b.turns) : (∀ y ∈ (("turn" : Str) :: t.1 :: t.2.map natS), y.length ≤ 8) ∧ (("turn" : Str) :: t.1 :: t.2.map natS).length ≤ 8 := by
  have b2 := B.s2
  have hp := B.t4 t ht
  refine ⟨fun y hy => ?_, ?_⟩
  · rcases List.mem_cons.mp hy with rfl | hy
    · rw [wl.1]; decide
    · rcases List.mem_cons.mp hy with rfl | hy
      · exact (B.t3 t ht).len
      · obtain ⟨k, hk, rfl⟩ := List.mem_map.mp hy
        rw [natS_len k (by have := perm_lt hp hk; omega)]; decide
  · have := hp.length_eq; simp at *; omega
theorem cal_w (B : b.Ok) : (∀ y ∈ (("calendar" : Str) :: b.cal.map enS), y.length ≤ 8) ∧ (("calendar" : Str) :: b.cal.map enS).length ≤ 8 := by
  have b2 := B.s2
  refine ⟨fun y hy => ?_, ?_⟩
  · rcases List.mem_cons.mp hy with rfl | hy
    · rw [wl.2.1]; decide
    · obtain ⟨e, he, rfl⟩ := List.mem_map.mp hy
      cases e with
      | inl x =>
        obtain ⟨t, ht, e⟩ := List.mem_map.mp (B.c3 x he)
        rw [enS, ← e]; exact (B.t3 t ht).len
      | inr k => rw [enS, natS_len k (by have := B.c4 k he; omega)]; decide
  · have := B.c2; simp; omega
theorem slip_w (B : b.Ok) : (∀ y ∈ (("slips" : Str) :: (b.slips ++ [natS b.gap])), y.length ≤ 8) ∧ (("slips" : Str) :: (b.slips ++ [natS b.gap])).length ≤ 8 := by
  have b2 := B.g2
  refine ⟨fun y hy => ?_, ?_⟩
  · rcases List.mem_cons.mp hy with rfl | hy
    · rw [wl.2.2.1]; decide
    · rcases List.mem_append.mp hy with hy | hy
      · exact slips_w _ B.sl y hy
      · rw [List.mem_singleton.mp hy, natS_len _ (by omega)]; decide
  · have := slips_len _ B.sl; simp; omega
theorem row_le {ys : List Str} (h1 : ∀ y ∈ ys, y.length ≤ 8) (h2 : ys.length ≤ 8) : (Txt.join " " ys).length ≤ 72 := by
  have := join_le (x := " ") h1
  rw [sp1] at this
  have := Nat.mul_le_mul h2 (Nat.le_refl 9)
  omega
theorem page_w (B : b.Ok) : (∀ y ∈ (("habit " ++ natS b.size) :: (b.turns.map turnRow ++ [calRow b, slipRow b]) : List Str), y.length ≤ 72) ∧ (("habit " ++ natS b.size) :: (b.turns.map turnRow ++ [calRow b, slipRow b]) : List Str).length ≤ 7 := by
  refine ⟨fun y hy => ?_, ?_⟩
  · rcases List.mem_cons.mp hy with rfl | hy
    · have e : (("habit " : Str) ++ natS b.size).length = ("habit " : Str).length + (natS b.size).length := by
        show ((("habit " : Str).cps ++ (natS b.size).cps)).size = _
        rw [Array.size_append]; rfl
      rw [e, wl.2.2.2, natS_len _ (by have := B.s2; omega)]; decide
    · rcases List.mem_append.mp hy with hy | hy
      · obtain ⟨t, ht, rfl⟩ := List.mem_map.mp hy
        exact row_le (turn_w B ht).1 (turn_w B ht).2
      · rcases List.mem_cons.mp hy with rfl | hy
        · exact row_le (cal_w B).1 (cal_w B).2
        · rw [List.mem_singleton.mp hy]
          exact row_le (slip_w B).1 (slip_w B).2
  · have := B.t1; simp; omega
theorem page_len (B : b.Ok) : (page b).length ≤ 600 := by
  have h1 := join_le (x := "\n") (page_w B).1
  rw [nl1] at h1
  have := Nat.mul_le_mul (page_w B).2 (Nat.le_refl 73)
  unfold page
  omega
end
end MP
end S_RHc
section S_RHd
/-! RHd: str and == of a habit. -/
namespace MP
open PySem L2
section
variable {T : Tab} {n u : Nat} {h0 h h1 h2 : Hh} {b : Hb}
theorem comp_mapT {C : CallT} {it : It} {e : E} {own : List Nat} {s : Sl} {h h1 : Hh} {xs : List A} {m : Option Nat} {f : A → D} {ft : A → Sl → Option Sl}
    (e1 : evi T C it s h = .ok (xs, m) h1) (e2 : ∀ x ∈ xs, ∃ s2, ft x (wipeS s own) = some s2 ∧ (evP T C e).v s2 h1 = .ok (.d (f x)) h1) (hl : xs.length ≤ sizeLine) : compF false (evi T C it) ft (evc T C .none) (evP T C e).v own s h = .ok (.d (.lst (xs.map f))) h1 := by
  refine compF_of (ys := (xs.map f).map .d) (r := (.d (.lst (xs.map f)), h1)) e1 ?_ (newL_d (by simpa using hl))
  rw [List.map_map]
  refine loopC_map fun x hx => ?_
  obtain ⟨s2, e3, e4⟩ := e2 x hx
  unfold turnC
  rw [e3]; dsimp only
  rw [evc_none, Out.bind_ok, if_pos rfl, e4]; rfl
theorem asSeq_lst {xs : List D} : asSeq (.d (.lst xs)) h = some (xs.map .d) := rfl
theorem asSeq_tup {xs : List D} : asSeq (.d (.tup xs)) h = some (xs.map .d) := rfl
theorem lst_of {xs : List A} {ds : List D} (e : xs = ds.map .d) (hl : ds.length < 1000000) : newL false xs h = some (.d (.lst ds), h) := by
  rw [e]; exact newL_d (lt_size hl)
theorem len_app (x y : Str) : (x ++ y).length = x.length + y.length := by
  show ((x.cps ++ y.cps)).size = _
  rw [Array.size_append]; rfl
/-- the digits of some placements -/
theorem digits {C : CallT} {tb : Nat → Option Nat} {l : List Nat} (hl : ∀ k ∈ l, k < 10) (hn : l.length < 1000) {it : It} {i : Nat} {e : E} {own : List Nat} {s : Sl} (e1 : evi T C it s h = .ok ((iL l).map .d, none) h) (e2 : ∀ k : Nat, k < 10 → (evP T C e).v ((wipeS s own).set i (some (.d (.int k)))) h = .ok (.d (.str (natS k))) h) : compF false (evi T C it) (Tg.name i).set (evc T C .none) (evP T C e).v own s h = .ok (.d (.lst (sL (l.map natS)))) h := by
  have := comp_map (T := T) (C := C) (it := it) (i := i) (e := e) (own := own) (s := s) (h := h) (h1 := h) (xs := (iL l).map .d) (m := none) (f := fun x => match x with | .d (.int k) => .str (natS k.toNat) | _ => .non) e1
    (fun x hx => by
      simp only [iL, List.map_map, List.mem_map] at hx
      obtain ⟨k, hk, rfl⟩ := hx
      exact e2 k (hl k hk)) (lt_size (by simp [iL]; omega))
  rw [this]
  simp [iL, sL, Function.comp_def]
/-- the words of some entries -/
theorem entryW {C : CallT} {l : List (Str ⊕ Nat)} (hl : ∀ k, .inr k ∈ l → k < 10) (hn : l.length < 1000) {it : It} {i : Nat} {e : E} {own : List Nat} {s : Sl} (e1 : evi T C it s h = .ok ((l.map enD).map .d, none) h) (e2 : ∀ k : Nat, k < 10 → (evP T C e).v ((wipeS s own).set i (some (.d (.int k)))) h = .ok (.d (.str (natS k))) h) (e3 : ∀ x, (evP T C e).v ((wipeS s own).set i (some (.d (.str x)))) h = .ok (.d (.str x)) h) : compF false (evi T C it) (Tg.name i).set (evc T C .none) (evP T C e).v own s h = .ok (.d (.lst (sL (l.map enS)))) h := by
  have := comp_map (T := T) (C := C) (it := it) (i := i) (e := e) (own := own) (s := s) (h := h) (h1 := h) (xs := (l.map enD).map .d) (m := none) (f := fun x => match x with | .d (.int k) => .str (natS k.toNat) | .d x => x | _ => .non) e1
    (fun x hx => by
      simp only [List.map_map, List.mem_map] at hx
      obtain ⟨k, hk, rfl⟩ := hx
      cases k with
      | inl x => exact e3 x
      | inr k => exact e2 k (hl k hk)) (lt_size (by simp; omega))
  rw [this]
  congr 3
  simp only [sL, List.map_map]
  refine List.map_congr_left fun x _ => ?_
  cases x <;> rfl
theorem str_ok (K : Core T) (c : Clo h) (B : b.Ok) : callN T (n + 1) 27 [.d b.o] h = .ok (.d (.str (page b))) h := by
  have b2 := B.s2; have b4 := B.g2; have b5 := B.t1; have b6 := B.c2
  have hs : ∀ (k : Nat) (C : CallT) (h : Hh), k < 10 → strO C T.str [.d (.int k)] h = some (.d (.str (natS k)), h) := fun k C h hk => strO_nat hk
  have hc1 := comp_mapT (T := T) (C := callN T n) (it := .val (.attr (.var 0) "held_turns")) (e := fn27_x1) (own := [3, 4]) (ft := (Tg.tup (.cons (.name 3) (.cons (.name 4) .nil))).set) (s := [some (.d b.o), none, none, none, none, none, none, none]) (h := h) (h1 := h) (xs := (b.turns.map turnD).map .d) (m := none) (f := fun x => match x with | .d (.tup [.str y, .tup l]) => .str (Txt.join " " ("turn" :: y :: l.map fun d => match d with | .int k => natS k.toNat | _ => "")) | _ => .non)
    (by simp -implicitDefEqProofs only [exSs, exS1, ev, evT, evP, evs, evB, evo_none, evo_some, evc_none, evc_some, evi_val, evi_rng, evi_enum, evL, evLs, vt, getS, opt_some, optH_some, Out.bind_ok, Out.bind_ex, Out.st_ok, Out.st_ex, OS.seq_nx, OS.seq_rt, OS.seq_ex, OS.seq_ct, OS.seq_bk, startS, Es.len, tg_name, tg_tup, tgs_nil, tgs_cons, Tgs.len, Lvs.len, setAll, List.getElem?_cons_zero, List.getElem?_cons_succ, List.set_cons_zero, List.set_cons_succ, List.map_cons, List.map_nil, List.cons_append, List.nil_append, List.replicate, List.length_cons, List.length_nil, Nat.reduceAdd, Nat.reduceSub, if_true, if_false, if_pos, reduceIte, reduceCtorEq, finC, blA, argF, plainSh, List.range', fillA, callF, Option.map_some, Option.bind_some, Option.map_none, Option.bind_none, and_self, true_and, and_true, intA, wipeS, Bool.not_true, Bool.not_false, Bool.false_eq_true, decide_true, decide_false, Bool.true_eq_false, clsA, binA, cmpO, cmpA, mtF, biF, Mt.ty, bmF, tyA, truthO, truthA, truthD, ne_eq, not_true_eq_false, not_false_eq_true, String.reduceBEq, beq_self_eq_true, hturns K, iterV])
    (fun x hx => by
      simp only [List.map_map, List.mem_map] at hx
      obtain ⟨t, ht, rfl⟩ := hx
      refine ⟨[some (.d b.o), none, none, some (.d (.str t.1)), some (.d (.tup (iL t.2))), none, none, none], ?_, ?_⟩
      · simp -implicitDefEqProofs only [exSs, exS1, ev, evT, evP, evs, evB, evo_none, evo_some, evc_none, evc_some, evi_val, evi_rng, evi_enum, evL, evLs, vt, getS, opt_some, optH_some, Out.bind_ok, Out.bind_ex, Out.st_ok, Out.st_ex, OS.seq_nx, OS.seq_rt, OS.seq_ex, OS.seq_ct, OS.seq_bk, startS, Es.len, tg_name, tg_tup, tgs_nil, tgs_cons, Tgs.len, Lvs.len, setAll, List.getElem?_cons_zero, List.getElem?_cons_succ, List.set_cons_zero, List.set_cons_succ, List.map_cons, List.map_nil, List.cons_append, List.nil_append, List.replicate, List.length_cons, List.length_nil, Nat.reduceAdd, Nat.reduceSub, if_true, if_false, if_pos, reduceIte, reduceCtorEq, finC, blA, argF, plainSh, List.range', fillA, callF, Option.map_some, Option.bind_some, Option.map_none, Option.bind_none, and_self, true_and, and_true, intA, wipeS, Bool.not_true, Bool.not_false, Bool.false_eq_true, decide_true, decide_false, Bool.true_eq_false, clsA, binA, cmpO, cmpA, mtF, biF, Mt.ty, bmF, tyA, truthO, truthA, truthD, ne_eq, not_true_eq_false, not_false_eq_true, String.reduceBEq, beq_self_eq_true, Function.comp, turnD]
      · have hd := digits (T := T) (C := callN T n) (tb := T.str) (h := h) (l := t.2) (it := .val (.var 4)) (i := 2) (e := fn27_x0) (own := [2]) (s := [some (.d b.o), none, none, some (.d (.str t.1)), some (.d (.tup (iL t.2))), none, none, none]) (fun k hk => by have := perm_lt (B.t4 t ht) hk; omega) (by have := (B.t4 t ht).length_eq; simp at this; omega)
          (by simp -implicitDefEqProofs only [exSs, exS1, ev, evT, evP, evs, evB, evo_none, evo_some, evc_none, evc_some, evi_val, evi_rng, evi_enum, evL, evLs, vt, getS, opt_some, optH_some, Out.bind_ok, Out.bind_ex, Out.st_ok, Out.st_ex, OS.seq_nx, OS.seq_rt, OS.seq_ex, OS.seq_ct, OS.seq_bk, startS, Es.len, tg_name, tg_tup, tgs_nil, tgs_cons, Tgs.len, Lvs.len, setAll, List.getElem?_cons_zero, List.getElem?_cons_succ, List.set_cons_zero, List.set_cons_succ, List.map_cons, List.map_nil, List.cons_append, List.nil_append, List.replicate, List.length_cons, List.length_nil, Nat.reduceAdd, Nat.reduceSub, if_true, if_false, if_pos, reduceIte, reduceCtorEq, finC, blA, argF, plainSh, List.range', fillA, callF, Option.map_some, Option.bind_some, Option.map_none, Option.bind_none, and_self, true_and, and_true, intA, wipeS, Bool.not_true, Bool.not_false, Bool.false_eq_true, decide_true, decide_false, Bool.true_eq_false, clsA, binA, cmpO, cmpA, mtF, biF, Mt.ty, bmF, tyA, truthO, truthA, truthD, ne_eq, not_true_eq_false, not_false_eq_true, String.reduceBEq, beq_self_eq_true, iterV])
          (fun k hk => by simp -implicitDefEqProofs only [fn27_x0, exSs, exS1, ev, evT, evP, evs, evB, evo_none, evo_some, evc_none, evc_some, evi_val, evi_rng, evi_enum, evL, evLs, vt, getS, opt_some, optH_some, Out.bind_ok, Out.bind_ex, Out.st_ok, Out.st_ex, OS.seq_nx, OS.seq_rt, OS.seq_ex, OS.seq_ct, OS.seq_bk, startS, Es.len, tg_name, tg_tup, tgs_nil, tgs_cons, Tgs.len, Lvs.len, setAll, List.getElem?_cons_zero, List.getElem?_cons_succ, List.set_cons_zero, List.set_cons_succ, List.map_cons, List.map_nil, List.cons_append, List.nil_append, List.replicate, List.length_cons, List.length_nil, Nat.reduceAdd, Nat.reduceSub, if_true, if_false, if_pos, reduceIte, reduceCtorEq, finC, blA, argF, plainSh, List.range', fillA, callF, Option.map_some, Option.bind_some, Option.map_none, Option.bind_none, and_self, true_and, and_true, intA, wipeS, Bool.not_true, Bool.not_false, Bool.false_eq_true, decide_true, decide_false, Bool.true_eq_false, clsA, binA, cmpO, cmpA, mtF, biF, Mt.ty, bmF, tyA, truthO, truthA, truthD, ne_eq, not_true_eq_false, not_false_eq_true, String.reduceBEq, beq_self_eq_true, hs k _ _ hk])
        have hj := joinM_ok (x := " ") (h := h) (turn_w B ht).1 (Nat.le_trans (turn_w B ht).2 (by decide)) (by decide) (by rw [sp1]; decide)
        have hl := lst_of (h := h) (xs := A.d (.str "turn") :: A.d (.str t.1) :: ((sL (t.2.map natS)).map .d ++ [])) (ds := sL ("turn" :: t.1 :: t.2.map natS)) (by simp [sL]) (by have := (turn_w B ht).2; simp [sL] at *; omega)
        simp -implicitDefEqProofs only [fn27_x1, exSs, exS1, ev, evT, evP, evs, evB, evo_none, evo_some, evc_none, evc_some, evi_val, evi_rng, evi_enum, evL, evLs, vt, getS, opt_some, optH_some, Out.bind_ok, Out.bind_ex, Out.st_ok, Out.st_ex, OS.seq_nx, OS.seq_rt, OS.seq_ex, OS.seq_ct, OS.seq_bk, startS, Es.len, tg_name, tg_tup, tgs_nil, tgs_cons, Tgs.len, Lvs.len, setAll, List.getElem?_cons_zero, List.getElem?_cons_succ, List.set_cons_zero, List.set_cons_succ, List.map_cons, List.map_nil, List.cons_append, List.nil_append, List.replicate, List.length_cons, List.length_nil, Nat.reduceAdd, Nat.reduceSub, if_true, if_false, if_pos, reduceIte, reduceCtorEq, finC, blA, argF, plainSh, List.range', fillA, callF, Option.map_some, Option.bind_some, Option.map_none, Option.bind_none, and_self, true_and, and_true, intA, wipeS, Bool.not_true, Bool.not_false, Bool.false_eq_true, decide_true, decide_false, Bool.true_eq_false, clsA, binA, cmpO, cmpA, mtF, biF, Mt.ty, bmF, tyA, truthO, truthA, truthD, ne_eq, not_true_eq_false, not_false_eq_true, String.reduceBEq, beq_self_eq_true, hd, asSeq_lst, hl, hj]
        simp [turnD, iL, Function.comp_def])
    (lt_size (by simp; omega))
  have hm1 : ((b.turns.map turnD).map A.d).map (fun x => match x with | .d (.tup [.str y, .tup l]) => D.str (Txt.join " " ("turn" :: y :: l.map fun d => match d with | .int k => natS k.toNat | _ => "")) | _ => .non) = sL (b.turns.map turnRow) := by
    simp only [sL, List.map_map]
    refine List.map_congr_left fun t _ => ?_
    simp [turnD, iL, turnRow, Function.comp_def]
  rw [hm1] at hc1
  have hc2 := fun (v1 : Option A) => entryW (T := T) (C := callN T n) (h := h) (l := b.cal) (it := .val (.attr (.var 0) "held_calendar")) (i := 6) (e := fn27_x2) (own := [6]) (s := [some (.d b.o), v1, none, none, none, none, none, none]) (fun k hk => by have := B.c4 k hk; omega) (by omega)
    (by simp -implicitDefEqProofs only [exSs, exS1, ev, evT, evP, evs, evB, evo_none, evo_some, evc_none, evc_some, evi_val, evi_rng, evi_enum, evL, evLs, vt, getS, opt_some, optH_some, Out.bind_ok, Out.bind_ex, Out.st_ok, Out.st_ex, OS.seq_nx, OS.seq_rt, OS.seq_ex, OS.seq_ct, OS.seq_bk, startS, Es.len, tg_name, tg_tup, tgs_nil, tgs_cons, Tgs.len, Lvs.len, setAll, List.getElem?_cons_zero, List.getElem?_cons_succ, List.set_cons_zero, List.set_cons_succ, List.map_cons, List.map_nil, List.cons_append, List.nil_append, List.replicate, List.length_cons, List.length_nil, Nat.reduceAdd, Nat.reduceSub, if_true, if_false, if_pos, reduceIte, reduceCtorEq, finC, blA, argF, plainSh, List.range', fillA, callF, Option.map_some, Option.bind_some, Option.map_none, Option.bind_none, and_self, true_and, and_true, intA, wipeS, Bool.not_true, Bool.not_false, Bool.false_eq_true, decide_true, decide_false, Bool.true_eq_false, clsA, binA, cmpO, cmpA, mtF, biF, Mt.ty, bmF, tyA, truthO, truthA, truthD, ne_eq, not_true_eq_false, not_false_eq_true, String.reduceBEq, beq_self_eq_true, hcal K, iterV])
    (fun k hk => by simp -implicitDefEqProofs only [fn27_x2, exSs, exS1, ev, evT, evP, evs, evB, evo_none, evo_some, evc_none, evc_some, evi_val, evi_rng, evi_enum, evL, evLs, vt, getS, opt_some, optH_some, Out.bind_ok, Out.bind_ex, Out.st_ok, Out.st_ex, OS.seq_nx, OS.seq_rt, OS.seq_ex, OS.seq_ct, OS.seq_bk, startS, Es.len, tg_name, tg_tup, tgs_nil, tgs_cons, Tgs.len, Lvs.len, setAll, List.getElem?_cons_zero, List.getElem?_cons_succ, List.set_cons_zero, List.set_cons_succ, List.map_cons, List.map_nil, List.cons_append, List.nil_append, List.replicate, List.length_cons, List.length_nil, Nat.reduceAdd, Nat.reduceSub, if_true, if_false, if_pos, reduceIte, reduceCtorEq, finC, blA, argF, plainSh, List.range', fillA, callF, Option.map_some, Option.bind_some, Option.map_none, Option.bind_none, and_self, true_and, and_true, intA, wipeS, Bool.not_true, Bool.not_false, Bool.false_eq_true, decide_true, decide_false, Bool.true_eq_false, clsA, binA, cmpO, cmpA, mtF, biF, Mt.ty, bmF, tyA, truthO, truthA, truthD, ne_eq, not_true_eq_false, not_false_eq_true, String.reduceBEq, beq_self_eq_true, hs k _ _ hk])
    (fun x => by simp -implicitDefEqProofs only [fn27_x2, exSs, exS1, ev, evT, evP, evs, evB, evo_none, evo_some, evc_none, evc_some, evi_val, evi_rng, evi_enum, evL, evLs, vt, getS, opt_some, optH_some, Out.bind_ok, Out.bind_ex, Out.st_ok, Out.st_ex, OS.seq_nx, OS.seq_rt, OS.seq_ex, OS.seq_ct, OS.seq_bk, startS, Es.len, tg_name, tg_tup, tgs_nil, tgs_cons, Tgs.len, Lvs.len, setAll, List.getElem?_cons_zero, List.getElem?_cons_succ, List.set_cons_zero, List.set_cons_succ, List.map_cons, List.map_nil, List.cons_append, List.nil_append, List.replicate, List.length_cons, List.length_nil, Nat.reduceAdd, Nat.reduceSub, if_true, if_false, if_pos, reduceIte, reduceCtorEq, finC, blA, argF, plainSh, List.range', fillA, callF, Option.map_some, Option.bind_some, Option.map_none, Option.bind_none, and_self, true_and, and_true, intA, wipeS, Bool.not_true, Bool.not_false, Bool.false_eq_true, decide_true, decide_false, Bool.true_eq_false, clsA, binA, cmpO, cmpA, mtF, biF, Mt.ty, bmF, tyA, truthO, truthA, truthD, ne_eq, not_true_eq_false, not_false_eq_true, String.reduceBEq, beq_self_eq_true, strO_str])
  have hj2 := joinM_ok (x := " ") (h := h) (cal_w B).1 (Nat.le_trans (cal_w B).2 (by decide)) (by decide) (by rw [sp1]; decide)
  have hl2 := lst_of (h := h) (xs := A.d (.str "calendar") :: ((sL (b.cal.map enS)).map .d ++ [])) (ds := sL ("calendar" :: b.cal.map enS)) (by simp [sL]) (by simp [sL]; omega)
  have hj3 := joinM_ok (x := " ") (h := h) (slip_w B).1 (Nat.le_trans (slip_w B).2 (by decide)) (by decide) (by rw [sp1]; decide)
  have hl3 := lst_of (h := h) (xs := A.d (.str "slips") :: ((sL b.slips).map .d ++ [A.d (.str (natS b.gap))])) (ds := sL ("slips" :: (b.slips ++ [natS b.gap]))) (by simp [sL]) (by have := slips_len _ B.sl; simp [sL]; omega)
  have hj4 := joinM_ok (x := "\n") (h := h) (page_w B).1 (Nat.le_trans (page_w B).2 (by decide)) (by decide) (by rw [nl1]; decide)
  have hl4 := lst_of (h := h) (xs := A.d (.str ("habit " ++ natS b.size)) :: ((sL (b.turns.map turnRow)).map .d ++ [A.d (.str (calRow b)), A.d (.str (slipRow b))])) (ds := sL (("habit " ++ natS b.size) :: (b.turns.map turnRow ++ [calRow b, slipRow b]))) (by simp [sL]) (by simp [sL]; omega)
  have ez : (("habit " : Str)).length + (natS b.size).length ≤ sizeLine := lt_size (by rw [wl.2.2.2, natS_len _ (by omega)]; decide)
  refine callN_rt K.f27 rfl ?_ (retD0 c)
  simp -implicitDefEqProofs only [fn27_a0, fn27_a1, fn27_a2, exSs, exS1, ev, evT, evP, evs, evB, evo_none, evo_some, evc_none, evc_some, evi_val, evi_rng, evi_enum, evL, evLs, vt, getS, opt_some, optH_some, Out.bind_ok, Out.bind_ex, Out.st_ok, Out.st_ex, OS.seq_nx, OS.seq_rt, OS.seq_ex, OS.seq_ct, OS.seq_bk, startS, Es.len, tg_name, tg_tup, tgs_nil, tgs_cons, Tgs.len, Lvs.len, setAll, List.getElem?_cons_zero, List.getElem?_cons_succ, List.set_cons_zero, List.set_cons_succ, List.map_cons, List.map_nil, List.cons_append, List.nil_append, List.replicate, List.length_cons, List.length_nil, Nat.reduceAdd, Nat.reduceSub, if_true, if_false, if_pos, reduceIte, reduceCtorEq, finC, blA, argF, plainSh, List.range', fillA, callF, Option.map_some, Option.bind_some, Option.map_none, Option.bind_none, and_self, true_and, and_true, intA, wipeS, Bool.not_true, Bool.not_false, Bool.false_eq_true, decide_true, decide_false, Bool.true_eq_false, clsA, binA, cmpO, cmpA, mtF, biF, Mt.ty, bmF, tyA, truthO, truthA, truthD, ne_eq, not_true_eq_false, not_false_eq_true, String.reduceBEq, beq_self_eq_true, hc1, hc2, asSeq_lst, hl2, hj2, hslips K, asSeq_tup, hgap K, hs b.gap _ _ (show b.gap < 10 by omega), hl3, hj3]
  simp -implicitDefEqProofs only [fn27_a3, exSs, exS1, ev, evT, evP, evs, evB, evo_none, evo_some, evc_none, evc_some, evi_val, evi_rng, evi_enum, evL, evLs, vt, getS, opt_some, optH_some, Out.bind_ok, Out.bind_ex, Out.st_ok, Out.st_ex, OS.seq_nx, OS.seq_rt, OS.seq_ex, OS.seq_ct, OS.seq_bk, startS, Es.len, tg_name, tg_tup, tgs_nil, tgs_cons, Tgs.len, Lvs.len, setAll, List.getElem?_cons_zero, List.getElem?_cons_succ, List.set_cons_zero, List.set_cons_succ, List.map_cons, List.map_nil, List.cons_append, List.nil_append, List.replicate, List.length_cons, List.length_nil, Nat.reduceAdd, Nat.reduceSub, if_true, if_false, if_pos, reduceIte, reduceCtorEq, finC, blA, argF, plainSh, List.range', fillA, callF, Option.map_some, Option.bind_some, Option.map_none, Option.bind_none, and_self, true_and, and_true, intA, wipeS, Bool.not_true, Bool.not_false, Bool.false_eq_true, decide_true, decide_false, Bool.true_eq_false, clsA, binA, cmpO, cmpA, mtF, biF, Mt.ty, bmF, tyA, truthO, truthA, truthD, ne_eq, not_true_eq_false, not_false_eq_true, String.reduceBEq, beq_self_eq_true, hsize K, hs b.size _ _ (show b.size < 10 by omega), addA_int, addA_str, subA, mulA, fdivA, modA, powA, ordA, negA, intTA, divmodA, absA, lenO, lenA, maxA, minA, max2A, min2A, ez, asSeq_lst]
  have e2 : Txt.join " " ("calendar" :: b.cal.map enS) = calRow b := rfl
  have e3 : Txt.join " " ("slips" :: (b.slips ++ [natS b.gap])) = slipRow b := rfl
  simp -implicitDefEqProofs only [e2, e3, hl4, exSs, exS1, ev, evT, evP, evs, evB, evo_none, evo_some, evc_none, evc_some, evi_val, evi_rng, evi_enum, evL, evLs, vt, getS, opt_some, optH_some, Out.bind_ok, Out.bind_ex, Out.st_ok, Out.st_ex, OS.seq_nx, OS.seq_rt, OS.seq_ex, OS.seq_ct, OS.seq_bk, startS, Es.len, tg_name, tg_tup, tgs_nil, tgs_cons, Tgs.len, Lvs.len, setAll, List.getElem?_cons_zero, List.getElem?_cons_succ, List.set_cons_zero, List.set_cons_succ, List.map_cons, List.map_nil, List.cons_append, List.nil_append, List.replicate, List.length_cons, List.length_nil, Nat.reduceAdd, Nat.reduceSub, if_true, if_false, if_pos, reduceIte, reduceCtorEq, finC, blA, argF, plainSh, List.range', fillA, callF, Option.map_some, Option.bind_some, Option.map_none, Option.bind_none, and_self, true_and, and_true, intA, wipeS, Bool.not_true, Bool.not_false, Bool.false_eq_true, decide_true, decide_false, Bool.true_eq_false, clsA, binA, cmpO, cmpA, mtF, biF, Mt.ty, bmF, tyA, truthO, truthA, truthD, ne_eq, not_true_eq_false, not_false_eq_true, String.reduceBEq, beq_self_eq_true, hj4]
  rfl
theorem strO_o (K : Core T) (c : Clo h) (B : b.Ok) : strO (callN T (n + 1)) T.str [.d b.o] h = some (.d (.str (page b)), h) := by
  simp only [strO, clso, Option.bind_some, K.str1, str_ok K c B]
theorem eqc_ok (K : Core T) {b' : Hb} (c : Clo h) (B : b.Ok) (B' : b'.Ok) : callN T (n + 2) 28 [.d b.o, .d b'.o] h = .ok (.d (.bl (page b == page b'))) h := by
  refine callN_rt K.f28 rfl ?_ (retD0 c)
  have ek : kindA (.d b'.o) h = some (.own 1) := rfl
  simp -implicitDefEqProofs only [fn28_a0, exSs, exS1, ev, evT, evP, evs, evB, evo_none, evo_some, evc_none, evc_some, evi_val, evi_rng, evi_enum, evL, evLs, vt, getS, opt_some, optH_some, Out.bind_ok, Out.bind_ex, Out.st_ok, Out.st_ex, OS.seq_nx, OS.seq_rt, OS.seq_ex, OS.seq_ct, OS.seq_bk, startS, Es.len, tg_name, tg_tup, tgs_nil, tgs_cons, Tgs.len, Lvs.len, setAll, List.getElem?_cons_zero, List.getElem?_cons_succ, List.set_cons_zero, List.set_cons_succ, List.map_cons, List.map_nil, List.cons_append, List.nil_append, List.replicate, List.length_cons, List.length_nil, Nat.reduceAdd, Nat.reduceSub, if_true, if_false, if_pos, reduceIte, reduceCtorEq, finC, blA, argF, plainSh, List.range', fillA, callF, Option.map_some, Option.bind_some, Option.map_none, Option.bind_none, and_self, true_and, and_true, intA, wipeS, Bool.not_true, Bool.not_false, Bool.false_eq_true, decide_true, decide_false, Bool.true_eq_false, clsA, binA, cmpO, cmpA, mtF, biF, Mt.ty, bmF, tyA, truthO, truthA, truthD, ne_eq, not_true_eq_false, not_false_eq_true, String.reduceBEq, beq_self_eq_true, ek, K.i_own_own, strO_o K c B, strO_o K c B', eqO_str]
theorem eqc_no (K : Core T) {x : D} {k : String} (c : Clo h) (hk : kindD x = some (.b k)) (hi : T.isi (.b k) (.own 1) = some false) : callN T (n + 2) 28 [.d b.o, .d x] h = .ok (.d (.bl false)) h := by
  refine callN_rt K.f28 rfl ?_ (retD0 c)
  have ek : kindA (.d x) h = some (.b k) := hk
  simp -implicitDefEqProofs only [fn28_a0, exSs, exS1, ev, evT, evP, evs, evB, evo_none, evo_some, evc_none, evc_some, evi_val, evi_rng, evi_enum, evL, evLs, vt, getS, opt_some, optH_some, Out.bind_ok, Out.bind_ex, Out.st_ok, Out.st_ex, OS.seq_nx, OS.seq_rt, OS.seq_ex, OS.seq_ct, OS.seq_bk, startS, Es.len, tg_name, tg_tup, tgs_nil, tgs_cons, Tgs.len, Lvs.len, setAll, List.getElem?_cons_zero, List.getElem?_cons_succ, List.set_cons_zero, List.set_cons_succ, List.map_cons, List.map_nil, List.cons_append, List.nil_append, List.replicate, List.length_cons, List.length_nil, Nat.reduceAdd, Nat.reduceSub, if_true, if_false, if_pos, reduceIte, reduceCtorEq, finC, blA, argF, plainSh, List.range', fillA, callF, Option.map_some, Option.bind_some, Option.map_none, Option.bind_none, and_self, true_and, and_true, intA, wipeS, Bool.not_true, Bool.not_false, Bool.false_eq_true, decide_true, decide_false, Bool.true_eq_false, clsA, binA, cmpO, cmpA, mtF, biF, Mt.ty, bmF, tyA, truthO, truthA, truthD, ne_eq, not_true_eq_false, not_false_eq_true, String.reduceBEq, beq_self_eq_true, ek, hi]
theorem eq_ok (K : Core T) {b' : Hb} (c : Clo h) (B : b.Ok) (B' : b'.Ok) {ne : Bool} : eqO (callN T (n + 2)) T.eq T.kinds ne (.d b.o) (.d b'.o) h = some (.d (.bl (if ne then !(page b == page b') else page b == page b')), h) := by
  have ek : kindA (.d b'.o) h = some (.own 1) := rfl
  simp only [eqO, clso, Option.bind_some, K.eq1, ek, K.k_own, if_true, eqc_ok K c B B']
theorem eq_no (K : Core T) {x : D} {k : String} (c : Clo h) (hk : kindD x = some (.b k)) (hi : T.isi (.b k) (.own 1) = some false) (hm : Kd.b k ∈ T.kinds) : eqO (callN T (n + 2)) T.eq T.kinds false (.d b.o) (.d x) h = some (.d (.bl false), h) := by
  have ek : kindA (.d x) h = some (.b k) := hk
  simp only [eqO, clso, Option.bind_some, K.eq1, ek, hm, if_true, eqc_no K c hk hi, Bool.false_eq_true, if_false]
end
end MP
end S_RHd
section S_RHe
/-! RHe: repr of small data. -/
namespace MP
open PySem L2
section
variable {T : Tab} {n u : Nat} {h0 h h1 h2 : Hh} {b : Hb}
/-- signs that repr writes within ten -/
def Cs (x : Str) : Prop := ∀ c ∈ x.cps.toList, c < 16 ^ 8
theorem joinL_mem {s : List Nat} {c : Nat} : ∀ {ys : List (List Nat)}, c ∈ TL.joinL s ys → c ∈ s ∨ ∃ y ∈ ys, c ∈ y
  | [], h => by simp [TL.joinL] at h
  | [p], h => .inr ⟨p, List.mem_singleton.mpr rfl, h⟩
  | p :: q :: r, h => by
    rw [TL.joinL] at h
    rcases List.mem_append.mp h with h | h
    · exact .inr ⟨p, List.mem_cons_self .., h⟩
    · rcases List.mem_append.mp h with h | h
      · exact .inl h
      · rcases joinL_mem h with h | ⟨y, hy, h⟩
        · exact .inl h
        · exact .inr ⟨y, List.mem_cons_of_mem _ hy, h⟩
theorem join_tl (x : Str) (ys : List Str) : (Txt.join x ys).cps.toList = TL.joinL x.cps.toList (ys.map fun y => y.cps.toList) := by
  have e := SX.join_S x.cps.toList (ys.map fun y => y.cps.toList)
  rw [SX.S_tl, List.map_map] at e
  have e2 : ys.map (SX.S ∘ fun y => y.cps.toList) = ys := by
    conv => rhs; rw [← List.map_id ys]
    exact List.map_congr_left fun y _ => SX.S_tl y
  rw [e2] at e
  rw [e]
theorem Cs.join {x : Str} {ys : List Str} (hx : Cs x) (hy : ∀ y ∈ ys, Cs y) : Cs (Txt.join x ys) := by
  intro c hc
  rw [join_tl] at hc
  rcases joinL_mem hc with h | ⟨y, hy', h⟩
  · exact hx c h
  · obtain ⟨z, hz, rfl⟩ := List.mem_map.mp hy'
    exact hy z hz c h
theorem Cs.app {x y : Str} (hx : Cs x) (hy : Cs y) : Cs (x ++ y) := by
  intro c hc
  have e : (x ++ y).cps.toList = x.cps.toList ++ y.cps.toList := TL.tl_append x y
  rw [e] at hc
  rcases List.mem_append.mp hc with h | h
  · exact hx c h
  · exact hy c h
theorem Cs_al : ∀ c ∈ alnum.cps.toList, c < 16 ^ 8 := by decide +kernel
theorem Cs_name {x : Str} (h : NameOk x) : Cs x := fun c hc => Cs_al c (h.al c hc)
theorem Cs_nat : ∀ k, k < 10 → ∀ c ∈ (natS k).cps.toList, c < 16 ^ 8 := by decide +kernel
theorem Cs_words : (∀ c ∈ (" " : Str).cps.toList, c < 16 ^ 8) ∧ (∀ c ∈ ("\n" : Str).cps.toList, c < 16 ^ 8) ∧ (∀ c ∈ ("turn" : Str).cps.toList, c < 16 ^ 8) ∧ (∀ c ∈ ("calendar" : Str).cps.toList, c < 16 ^ 8) ∧ (∀ c ∈ ("slips" : Str).cps.toList, c < 16 ^ 8) ∧ (∀ c ∈ ("habit " : Str).cps.toList, c < 16 ^ 8) ∧ (∀ l ∈ slipsL, ∀ y ∈ l, ∀ c ∈ y.cps.toList, c < 16 ^ 8) := by decide +kernel
theorem Cs_page (B : b.Ok) : Cs (page b) := by
  obtain ⟨w1, w2, w3, w4, w5, w6, w7⟩ := Cs_words
  have b2 := B.s2; have b4 := B.g2
  refine Cs.join w2 fun y hy => ?_
  rcases List.mem_cons.mp hy with rfl | hy
  · exact Cs.app w6 (Cs_nat _ (by omega))
  · rcases List.mem_append.mp hy with hy | hy
    · obtain ⟨t, ht, rfl⟩ := List.mem_map.mp hy
      refine Cs.join w1 fun y hy => ?_
      rcases List.mem_cons.mp hy with rfl | hy
      · exact w3
      · rcases List.mem_cons.mp hy with rfl | hy
        · exact Cs_name (B.t3 t ht)
        · obtain ⟨k, hk, rfl⟩ := List.mem_map.mp hy
          exact Cs_nat k (by have := perm_lt (B.t4 t ht) hk; omega)
    · rcases List.mem_cons.mp hy with rfl | hy
      · refine Cs.join w1 fun y hy => ?_
        rcases List.mem_cons.mp hy with rfl | hy
        · exact w4
        · obtain ⟨e, he, rfl⟩ := List.mem_map.mp hy
          cases e with
          | inl x =>
            obtain ⟨t, ht, e⟩ := List.mem_map.mp (B.c3 x he)
            rw [enS, ← e]; exact Cs_name (B.t3 t ht)
          | inr k => exact Cs_nat k (by have := B.c4 k he; omega)
      · rw [List.mem_singleton.mp hy]
        refine Cs.join w1 fun y hy => ?_
        rcases List.mem_cons.mp hy with rfl | hy
        · exact w5
        · rcases List.mem_append.mp hy with hy | hy
          · exact w7 _ B.sl y hy
          · rw [List.mem_singleton.mp hy]; exact Cs_nat _ (by omega)
/-- data that repr shows in at most B signs, at most k deep -/
structure Shw (k B : Nat) (x : D) : Prop where
  pu : x.pure = true
  sh : x.toP.showable = true
  dp : x.toP.depth ≤ k
  dq : x.depth ≤ k
  len : x.toP.shown.length ≤ B
theorem Shw.mono {k k' B B' : Nat} {x : D} (s : Shw k B x) (h1 : k ≤ k') (h2 : B ≤ B') : Shw k' B' x := ⟨s.pu, s.sh, Nat.le_trans s.dp h1, Nat.le_trans s.dq h1, Nat.le_trans s.len h2⟩
theorem Shw.nat {k : Nat} (hk : k < 10) : Shw 0 1 (.int k) := by
  refine ⟨rfl, ?_, Nat.le_refl _, Nat.le_refl _, ?_⟩
  · show decide ((k : Int).natAbs.log2 < 1920) = true
    rw [Int.natAbs_natCast]; exact decide_eq_true (log_lt k hk)
  · show (natS k).length ≤ 1
    rw [natS_len k hk]; decide
theorem Shw.bl {k : Bool} : Shw 0 5 (.bl k) := by
  refine ⟨rfl, rfl, Nat.le_refl _, Nat.le_refl _, ?_⟩
  cases k <;> decide +kernel
theorem Shw.non : Shw 0 4 .non := ⟨rfl, rfl, Nat.le_refl _, Nat.le_refl _, by decide +kernel⟩
theorem Shw.str {x : Str} {m : Nat} (hx : Cs x) (hl : x.length ≤ m) : Shw 0 (10 * m + 2) (.str x) := by
  refine ⟨rfl, rfl, Nat.le_refl _, Nat.le_refl _, ?_⟩
  have := StrLaws.reprText_len x hx
  show (reprText x).length ≤ _
  omega
theorem shownL_len {B : Nat} : ∀ {xs : List D}, (∀ x ∈ xs, x.toP.shown.length ≤ B) → ((PyData.shownAll (toPL xs)).map (·.length)).sum ≤ xs.length * B
  | [], _ => by simp [toPL, PyData.shownAll]
  | x :: r, h => by
    have h1 := h x (List.mem_cons_self ..)
    have h2 := shownL_len fun z hz => h z (List.mem_cons_of_mem _ hz)
    rw [toPL, PyData.shownAll, List.map_cons, List.sum_cons, List.length_cons]
    have : (r.length + 1) * B = r.length * B + B := Nat.succ_mul _ _
    omega
theorem sjoin_len (ys : List Str) : (Str.join ", " ys).length ≤ (ys.map (·.length)).sum + ys.length * 2 := by
  have := join_len ", " ys
  rw [TL.join_eq] at this
  have e : ((", " : Str)).length = 2 := by decide +kernel
  rw [e] at this
  exact this
theorem toPL_len : ∀ xs : List D, (toPL xs).length = xs.length
  | [] => by simp [toPL]
  | x :: r => by rw [toPL]; simp [toPL_len r]
theorem pureL_of : ∀ {xs : List D}, (∀ x ∈ xs, x.pure = true) → pureL xs = true
  | [], _ => by rw [pureL]
  | x :: r, h => by rw [pureL, h x (List.mem_cons_self ..), pureL_of fun z hz => h z (List.mem_cons_of_mem _ hz)]; rfl
theorem showL_of : ∀ {xs : List D}, (∀ x ∈ xs, x.toP.showable = true) → PyData.showableAll (toPL xs) = true
  | [], _ => by rw [toPL, PyData.showableAll]
  | x :: r, h => by rw [toPL, PyData.showableAll, h x (List.mem_cons_self ..), showL_of fun z hz => h z (List.mem_cons_of_mem _ hz)]; rfl
theorem depL_of {k : Nat} : ∀ {xs : List D}, (∀ x ∈ xs, x.toP.depth ≤ k) → PyData.depthAll (toPL xs) ≤ k
  | [], _ => by rw [toPL, PyData.depthAll]; omega
  | x :: r, h => by
    have := h x (List.mem_cons_self ..); have := depL_of fun z hz => h z (List.mem_cons_of_mem _ hz)
    rw [toPL, PyData.depthAll]; omega
theorem depthL_of {k : Nat} : ∀ {xs : List D}, (∀ x ∈ xs, x.depth ≤ k) → depthL xs ≤ k
  | [], _ => by rw [depthL]; omega
  | x :: r, h => by
    have := h x (List.mem_cons_self ..); have := depthL_of fun z hz => h z (List.mem_cons_of_mem _ hz)
    rw [depthL]; omega
theorem Shw.lst {k B m : Nat} {xs : List D} (h : ∀ x ∈ xs, Shw k B x) (hm : xs.length ≤ m) : Shw (k + 1) (m * (B + 2) + 6) (.lst xs) := by
  refine ⟨by rw [D.pure]; exact pureL_of fun x hx => (h x hx).pu, by rw [D.toP, PyData.showable]; exact showL_of fun x hx => (h x hx).sh, by rw [D.toP, PyData.depth]; exact Nat.succ_le_succ (depL_of fun x hx => (h x hx).dp), by rw [D.depth]; exact Nat.succ_le_succ (depthL_of fun x hx => (h x hx).dq), ?_⟩
  have h1 := shownL_len (B := B) fun x hx => (h x hx).len
  have h2 := sjoin_len (PyData.shownAll (toPL xs))
  rw [PyData.shownAll_length, toPL_len] at h2
  have e1 : (("[" : Str)).length = 1 ∧ (("]" : Str)).length = 1 := by decide +kernel
  rw [D.toP, PyData.shown_list, len_app, len_app, e1.1, e1.2]
  have h3 : xs.length * (B + 2) ≤ m * (B + 2) := Nat.mul_le_mul_right _ hm
  rw [Nat.mul_add] at h3
  omega
theorem Shw.tup {k B m : Nat} {xs : List D} (h : ∀ x ∈ xs, Shw k B x) (hm : xs.length ≤ m) : Shw (k + 1) (m * (B + 2) + 6) (.tup xs) := by
  refine ⟨by rw [D.pure]; exact pureL_of fun x hx => (h x hx).pu, by rw [D.toP, PyData.showable]; exact showL_of fun x hx => (h x hx).sh, by rw [D.toP, PyData.depth]; exact Nat.succ_le_succ (depL_of fun x hx => (h x hx).dp), by rw [D.depth]; exact Nat.succ_le_succ (depthL_of fun x hx => (h x hx).dq), ?_⟩
  have h1 := shownL_len (B := B) fun x hx => (h x hx).len
  have h2 := sjoin_len (PyData.shownAll (toPL xs))
  rw [PyData.shownAll_length, toPL_len] at h2
  have e1 : (("(" : Str)).length = 1 ∧ ((",)" : Str)).length = 2 ∧ ((")" : Str)).length = 1 := by decide +kernel
  rw [D.toP, PyData.shown_tuple, len_app, len_app, e1.1]
  have h3 : xs.length * (B + 2) ≤ m * (B + 2) := Nat.mul_le_mul_right _ hm
  rw [Nat.mul_add] at h3
  have h4 : (((if (toPL xs).length == 1 then ",)" else ")" : String) : Str)).length ≤ 2 := by
    split
    · rw [e1.2.1]; decide
    · rw [e1.2.2]; decide
  omega
theorem Shw.repr {k B : Nat} {xs : List D} (s : Shw k B (.lst xs)) (hk : k ≤ 64) (hB : B < 1000000) : reprA [.d (.lst xs)] h = some (.d (.str (D.lst xs).toP.shown), h) := by
  have h1 : asP (.d (.lst xs)) h = some (.lst xs) := by unfold asP; simp [s.pu]
  have h2 : seqD (.lst xs) = true ∧ (D.lst xs).toP.showable = true ∧ (D.lst xs).toP.depth ≤ 64 ∧ (D.lst xs).toP.shown.length ≤ sizeLine := ⟨rfl, s.sh, Nat.le_trans s.dp hk, Nat.le_trans s.len (lt_size hB)⟩
  simp only [reprA, h1]
  rw [if_pos h2]
/-! ### parts -/
theorem shw_turns (B : b.Ok) : Shw 3 800 (.tup (b.turns.map turnD)) := by
  have b2 := B.s2
  refine (Shw.tup (k := 2) (B := 190) (m := 4) (fun x hx => ?_) (by have := B.t1; simpa using this)).mono (by decide) (by decide)
  obtain ⟨t, ht, rfl⟩ := List.mem_map.mp hx
  refine (Shw.tup (k := 1) (B := 82) (m := 2) (fun x hx => ?_) (by simp)).mono (by decide) (by decide)
  rcases List.mem_cons.mp hx with rfl | hx
  · exact (Shw.str (Cs_name (B.t3 t ht)) (B.t3 t ht).len).mono (by decide) (by decide)
  · rw [List.mem_singleton.mp hx]
    refine (Shw.tup (k := 0) (B := 1) (m := 6) (fun x hx => ?_) ?_).mono (by decide) (by decide)
    · simp only [iL, List.mem_map] at hx
      obtain ⟨k, hk, rfl⟩ := hx
      exact Shw.nat (by have := perm_lt (B.t4 t ht) hk; omega)
    · have := (B.t4 t ht).length_eq; simp [iL] at *; omega
theorem shw_cal (B : b.Ok) : Shw 3 800 (.tup (b.cal.map enD)) := by
  have b2 := B.s2
  refine (Shw.tup (k := 0) (B := 82) (m := 6) (fun x hx => ?_) (by have := B.c2; simpa using this)).mono (by decide) (by decide)
  obtain ⟨e, he, rfl⟩ := List.mem_map.mp hx
  cases e with
  | inl x =>
    obtain ⟨t, ht, e⟩ := List.mem_map.mp (B.c3 x he)
    rw [enD, ← e]; exact (Shw.str (Cs_name (B.t3 t ht)) (B.t3 t ht).len).mono (by decide) (by decide)
  | inr k => exact (Shw.nat (by have := B.c4 k he; omega)).mono (by decide) (by decide)
theorem shw_slips (B : b.Ok) : Shw 3 800 (.tup (sL b.slips)) := by
  refine (Shw.tup (k := 0) (B := 82) (m := 2) (fun x hx => ?_) (by have := slips_len _ B.sl; simpa [sL] using this)).mono (by decide) (by decide)
  obtain ⟨y, hy, rfl⟩ := List.mem_map.mp hx
  exact (Shw.str (Cs_words.2.2.2.2.2.2 _ B.sl y hy) (slips_w _ B.sl y hy)).mono (by decide) (by decide)
theorem shw_fs (B : b.Ok) : ∀ x ∈ b.fs, Shw 3 800 x := by
  intro x hx
  have b2 := B.s2; have b4 := B.g2
  simp only [Hb.fs, List.mem_cons, List.not_mem_nil, or_false] at hx
  rcases hx with rfl | rfl | rfl | rfl | rfl
  · exact (Shw.nat (by omega)).mono (by decide) (by decide)
  · exact shw_turns B
  · exact shw_cal B
  · exact shw_slips B
  · exact (Shw.nat (by omega)).mono (by decide) (by decide)
theorem shw_parts (B : b.Ok) : Shw 4 4100 b.parts := (Shw.tup (shw_fs B) (m := 5) (Nat.le_refl 5)).mono (by decide) (by decide)
theorem shw_page (B : b.Ok) : Shw 3 6002 (.str (page b)) := (Shw.str (Cs_page B) (page_len B)).mono (by decide) (by decide)
end
end MP
end S_RHe
section S_RWi
/-! RWi: the image of a month (no purse). -/
namespace MP
open PySem L2
structure Img (T : Tab) : Prop where
  f41 : T.fn 41 = some fn41
  n41 : T.np 41 = 2
  s41 : T.shape 41 2 [] = some (plainSh 2)
def Hb.img (b : Hb) : Str ⊕ Nat → List Nat
  | .inl x => ((b.turns.filter fun t => t.1 == x).map (·.2)).headD []
  | .inr g => List.replicate b.size g
def Hb.im (b : Hb) (m : Nat) : List Nat := match b.cal[m % b.cal.length]? with
  | some e => b.img e
  | none => []
section
variable {T : Tab} {n u : Nat} {h0 h h1 h2 : Hh} {b : Hb}
theorem comp_filterA {α : Type} {C : CallT} {it : It} {e : E} {cn : Eo} {own : List Nat} {s : Sl} {ts : List α} {g : α → A} {m : Option Nat} {f : α → D} {p : α → Bool} {ft : A → Sl → Option Sl}
    (e1 : evi T C it s h = .ok (ts.map g, m) h1) (e2 : ∀ t ∈ ts, ∃ s2, ft (g t) (wipeS s own) = some s2 ∧ evc T C cn s2 h1 = .ok (p t) h1 ∧ (evP T C e).v s2 h1 = .ok (.d (f t)) h1) (hl : ts.length ≤ sizeLine) : compF false (evi T C it) ft (evc T C cn) (evP T C e).v own s h = .ok (.d (.lst ((ts.filter p).map f))) h1 := by
  refine compF_of (ys := ((ts.filter p).map f).map .d) (r := (.d (.lst ((ts.filter p).map f)), h1)) e1 ?_ (newL_d (by rw [List.length_map]; exact Nat.le_trans (List.length_filter_le _ _) hl))
  have : ∀ l : List α, (∀ t ∈ l, t ∈ ts) → loopC (turnC ft (evc T C cn) (evP T C e).v (wipeS s own)) m h1 (l.map g) h1 = .ok (((l.filter p).map f).map .d) h1 := by
    intro l
    induction l with
    | nil => intro _; rfl
    | cons a r ih =>
      intro ha
      obtain ⟨s2, k1, k2, k3⟩ := e2 a (ha a (List.mem_cons_self ..))
      have ih := ih fun t ht => ha t (List.mem_cons_of_mem _ ht)
      have et : turnC ft (evc T C cn) (evP T C e).v (wipeS s own) (g a) h1 = .ok (if p a = true then some (.d (f a)) else none) h1 := by
        unfold turnC
        rw [k1]; dsimp only
        rw [k2, Out.bind_ok]
        by_cases hp : p a = true
        · rw [if_pos hp, k3, if_pos hp]; rfl
        · rw [if_neg hp, if_neg hp]
      rw [List.map_cons, loopC, et]
      dsimp only
      rw [if_pos (keepO_refl _ _), ih, Out.bind_ok]
      by_cases hp : p a = true <;> simp [hp]
  exact this ts fun t ht => ht
theorem lst_hd {x : D} {l : List D} : subF (.d (.lst (x :: l))) (.d (.int 0)) h = some (.d x) := by rw [subF_lst, List.map_cons, atI_0]
theorem Hb.Ok.clen (B : b.Ok) : 1 ≤ b.cal.length := by
  have := List.length_pos_iff.mpr B.c1; omega
/-- the entry of a month -/
theorem Hb.Ok.ent (B : b.Ok) (m : Nat) : ∃ e ∈ b.cal, b.cal[m % b.cal.length]? = some e ∧ b.im m = b.img e := by
  have hl := B.clen
  have hm : m % b.cal.length < b.cal.length := Nat.mod_lt _ (by omega)
  refine ⟨b.cal[m % b.cal.length], List.getElem_mem hm, List.getElem?_eq_getElem hm, ?_⟩
  unfold Hb.im
  rw [List.getElem?_eq_getElem hm]
theorem Hb.Ok.inl_ent (B : b.Ok) {x : Str} (hx : .inl x ∈ b.cal) : ∃ t r, t ∈ b.turns ∧ (b.turns.filter fun t => t.1 == x) = t :: r ∧ b.img (.inl x) = t.2 := by
  obtain ⟨t, ht, e⟩ := List.mem_map.mp (B.c3 x hx)
  cases hf : b.turns.filter (fun t => t.1 == x) with
  | nil =>
    have : t ∈ b.turns.filter (fun t => t.1 == x) := List.mem_filter.mpr ⟨ht, by simp [e]⟩
    rw [hf] at this; cases this
  | cons a r =>
    refine ⟨a, r, (List.mem_filter.mp (by rw [hf]; exact List.mem_cons_self ..)).1, rfl, ?_⟩
    show ((b.turns.filter fun t => t.1 == x).map (·.2)).headD [] = a.2
    rw [hf]; rfl
theorem atI_mod {α : Type} {xs : List α} {m : Nat} (hl : 1 ≤ xs.length) : L2.atI xs ((m : Int) % (xs.length : Int)) = xs[m % xs.length]? := by
  rw [show ((m : Int) % (xs.length : Int)) = ((m % xs.length : Nat) : Int) by omega, atI_nat]
theorem rep1 {k g : Nat} : (List.replicate k [D.int (g : Nat)]).flatten = iL (List.replicate k g) := by
  induction k with
  | zero => rfl
  | succ k ih => rw [List.replicate_succ, List.flatten_cons, ih]; simp [iL, List.replicate_succ]
theorem rep_turns {k g : Nat} : turnsD (iL (List.replicate k g)) = false := by
  cases k <;> rfl
theorem himage_ok (K : Core T) (I : Img T) {m : Nat} (c : Clo h) (B : b.Ok) : callN T (n + 2) 41 [.d b.o, .d (.int m)] h = .ok (.d (.tup (iL (b.im m)))) h := by
  obtain ⟨e, he, hg, hi⟩ := B.ent m
  have hl := B.clen
  have c2 := B.c2
  have s1 := B.s1
  have s2 := B.s2
  have t1 := B.t1
  have ea : L2.atI ((b.cal.map enD).map A.d) ((m : Int) % (b.cal.length : Int)) = some (.d (enD e)) := by
    have := atI_mod (xs := (b.cal.map enD).map A.d) (m := m) (by simpa using hl)
    rw [List.length_map, List.length_map] at this
    rw [this, List.getElem?_map, List.getElem?_map, hg]; rfl
  have hp : (0 : Int) < (b.cal.length : Int) := by omega
  rw [hi]
  refine callN_rt I.f41 rfl ?_ (retD0 c)
  cases e with
  | inr g =>
    have hr : (1 : Int) ≤ (b.size : Int) ∧ (b.size : Int) ≤ 1000 := by omega
    have e2 : ((b.size : Int)).toNat = b.size := by omega
    simp -implicitDefEqProofs only [fn41_a0, fn41_a1, fn41_a2, exSs, exS1, ev, evT, evP, evs, evB, evo_none, evo_some, evc_none, evc_some, evi_val, evi_rng, evi_enum, evL, evLs, vt, getS, opt_some, optH_some, Out.bind_ok, Out.bind_ex, Out.st_ok, Out.st_ex, OS.seq_nx, OS.seq_rt, OS.seq_ex, OS.seq_ct, OS.seq_bk, startS, Es.len, tg_name, tg_tup, tgs_nil, tgs_cons, Tgs.len, Lvs.len, setAll, List.getElem?_cons_zero, List.getElem?_cons_succ, List.set_cons_zero, List.set_cons_succ, List.map_cons, List.map_nil, List.cons_append, List.nil_append, List.replicate, List.length_cons, List.length_nil, Nat.reduceAdd, Nat.reduceSub, if_true, if_false, if_pos, reduceIte, reduceCtorEq, finC, blA, argF, plainSh, List.range', fillA, callF, Option.map_some, Option.bind_some, Option.map_none, Option.bind_none, and_self, true_and, and_true, intA, wipeS, Bool.not_true, Bool.not_false, Bool.false_eq_true, decide_true, decide_false, Bool.true_eq_false, binA, cmpO, cmpA, mtF, biF, Mt.ty, bmF, tyA, truthO, truthA, truthD, ne_eq, not_true_eq_false, not_false_eq_true, String.reduceBEq, beq_self_eq_true, modA, mulA, pcal K c, olen K c (show b.cal.length < 1000 by omega), hp, subF_tup, ea, enD, kindA, kindD, K.i_int_str, tupA_1, psize K c, hr, e2, rep1, rep_turns, Hb.img]
  | inl x =>
    obtain ⟨t, r, ht, hf, ht2⟩ := B.inl_ent he
    have hc := comp_filterA (T := T) (C := callN T (n + 1)) (it := .val (.attr (.var 0) ("turns" : Str))) (e := fn41_x0) (cn := fn41_y1) (own := [3, 4]) (ft := (Tg.tup (.cons (.name 3) (.cons (.name 4) .nil))).set) (s := [some (.d b.o), some (.d (.int m)), some (.d (.str x)), none, none]) (h := h) (h1 := h) (ts := b.turns) (g := fun t => .d (turnD t)) (m := none) (f := fun t => .tup (iL t.2)) (p := fun t => t.1 == x)
      (by simp -implicitDefEqProofs only [exSs, exS1, ev, evT, evP, evs, evB, evo_none, evo_some, evc_none, evc_some, evi_val, evi_rng, evi_enum, evL, evLs, vt, getS, opt_some, optH_some, Out.bind_ok, Out.bind_ex, Out.st_ok, Out.st_ex, OS.seq_nx, OS.seq_rt, OS.seq_ex, OS.seq_ct, OS.seq_bk, startS, Es.len, tg_name, tg_tup, tgs_nil, tgs_cons, Tgs.len, Lvs.len, setAll, List.getElem?_cons_zero, List.getElem?_cons_succ, List.set_cons_zero, List.set_cons_succ, List.map_cons, List.map_nil, List.cons_append, List.nil_append, List.replicate, List.length_cons, List.length_nil, Nat.reduceAdd, Nat.reduceSub, if_true, if_false, if_pos, reduceIte, reduceCtorEq, finC, blA, argF, plainSh, List.range', fillA, callF, Option.map_some, Option.bind_some, Option.map_none, Option.bind_none, and_self, true_and, and_true, intA, wipeS, Bool.not_true, Bool.not_false, Bool.false_eq_true, decide_true, decide_false, Bool.true_eq_false, binA, cmpO, cmpA, mtF, biF, Mt.ty, bmF, tyA, truthO, truthA, truthD, ne_eq, not_true_eq_false, not_false_eq_true, String.reduceBEq, beq_self_eq_true, pturns K c, iterV, List.map_map]; rfl)
      (fun t ht => ⟨[some (.d b.o), some (.d (.int m)), some (.d (.str x)), some (.d (.str t.1)), some (.d (.tup (iL t.2)))], by simp -implicitDefEqProofs only [exSs, exS1, ev, evT, evP, evs, evB, evo_none, evo_some, evc_none, evc_some, evi_val, evi_rng, evi_enum, evL, evLs, vt, getS, opt_some, optH_some, Out.bind_ok, Out.bind_ex, Out.st_ok, Out.st_ex, OS.seq_nx, OS.seq_rt, OS.seq_ex, OS.seq_ct, OS.seq_bk, startS, Es.len, tg_name, tg_tup, tgs_nil, tgs_cons, Tgs.len, Lvs.len, setAll, List.getElem?_cons_zero, List.getElem?_cons_succ, List.set_cons_zero, List.set_cons_succ, List.map_cons, List.map_nil, List.cons_append, List.nil_append, List.replicate, List.length_cons, List.length_nil, Nat.reduceAdd, Nat.reduceSub, if_true, if_false, if_pos, reduceIte, reduceCtorEq, finC, blA, argF, plainSh, List.range', fillA, callF, Option.map_some, Option.bind_some, Option.map_none, Option.bind_none, and_self, true_and, and_true, intA, wipeS, Bool.not_true, Bool.not_false, Bool.false_eq_true, decide_true, decide_false, Bool.true_eq_false, binA, cmpO, cmpA, mtF, biF, Mt.ty, bmF, tyA, truthO, truthA, truthD, ne_eq, not_true_eq_false, not_false_eq_true, String.reduceBEq, beq_self_eq_true, turnD, asSeq_tup], by simp -implicitDefEqProofs only [fn41_y1, exSs, exS1, ev, evT, evP, evs, evB, evo_none, evo_some, evc_none, evc_some, evi_val, evi_rng, evi_enum, evL, evLs, vt, getS, opt_some, optH_some, Out.bind_ok, Out.bind_ex, Out.st_ok, Out.st_ex, OS.seq_nx, OS.seq_rt, OS.seq_ex, OS.seq_ct, OS.seq_bk, startS, Es.len, tg_name, tg_tup, tgs_nil, tgs_cons, Tgs.len, Lvs.len, setAll, List.getElem?_cons_zero, List.getElem?_cons_succ, List.set_cons_zero, List.set_cons_succ, List.map_cons, List.map_nil, List.cons_append, List.nil_append, List.replicate, List.length_cons, List.length_nil, Nat.reduceAdd, Nat.reduceSub, if_true, if_false, if_pos, reduceIte, reduceCtorEq, finC, blA, argF, plainSh, List.range', fillA, callF, Option.map_some, Option.bind_some, Option.map_none, Option.bind_none, and_self, true_and, and_true, intA, wipeS, Bool.not_true, Bool.not_false, Bool.false_eq_true, decide_true, decide_false, Bool.true_eq_false, binA, cmpO, cmpA, mtF, biF, Mt.ty, bmF, tyA, truthO, truthA, truthD, ne_eq, not_true_eq_false, not_false_eq_true, String.reduceBEq, beq_self_eq_true, eqO_str], by simp -implicitDefEqProofs only [fn41_x0, exSs, exS1, ev, evT, evP, evs, evB, evo_none, evo_some, evc_none, evc_some, evi_val, evi_rng, evi_enum, evL, evLs, vt, getS, opt_some, optH_some, Out.bind_ok, Out.bind_ex, Out.st_ok, Out.st_ex, OS.seq_nx, OS.seq_rt, OS.seq_ex, OS.seq_ct, OS.seq_bk, startS, Es.len, tg_name, tg_tup, tgs_nil, tgs_cons, Tgs.len, Lvs.len, setAll, List.getElem?_cons_zero, List.getElem?_cons_succ, List.set_cons_zero, List.set_cons_succ, List.map_cons, List.map_nil, List.cons_append, List.nil_append, List.replicate, List.length_cons, List.length_nil, Nat.reduceAdd, Nat.reduceSub, if_true, if_false, if_pos, reduceIte, reduceCtorEq, finC, blA, argF, plainSh, List.range', fillA, callF, Option.map_some, Option.bind_some, Option.map_none, Option.bind_none, and_self, true_and, and_true, intA, wipeS, Bool.not_true, Bool.not_false, Bool.false_eq_true, decide_true, decide_false, Bool.true_eq_false, binA, cmpO, cmpA, mtF, biF, Mt.ty, bmF, tyA, truthO, truthA, truthD, ne_eq, not_true_eq_false, not_false_eq_true, String.reduceBEq, beq_self_eq_true]⟩)
      (lt_size (by omega))
    rw [hf] at hc
    simp -implicitDefEqProofs only [fn41_a0, fn41_a1, fn41_b0, exSs, exS1, ev, evT, evP, evs, evB, evo_none, evo_some, evc_none, evc_some, evi_val, evi_rng, evi_enum, evL, evLs, vt, getS, opt_some, optH_some, Out.bind_ok, Out.bind_ex, Out.st_ok, Out.st_ex, OS.seq_nx, OS.seq_rt, OS.seq_ex, OS.seq_ct, OS.seq_bk, startS, Es.len, tg_name, tg_tup, tgs_nil, tgs_cons, Tgs.len, Lvs.len, setAll, List.getElem?_cons_zero, List.getElem?_cons_succ, List.set_cons_zero, List.set_cons_succ, List.map_cons, List.map_nil, List.cons_append, List.nil_append, List.replicate, List.length_cons, List.length_nil, Nat.reduceAdd, Nat.reduceSub, if_true, if_false, if_pos, reduceIte, reduceCtorEq, finC, blA, argF, plainSh, List.range', fillA, callF, Option.map_some, Option.bind_some, Option.map_none, Option.bind_none, and_self, true_and, and_true, intA, wipeS, Bool.not_true, Bool.not_false, Bool.false_eq_true, decide_true, decide_false, Bool.true_eq_false, binA, cmpO, cmpA, mtF, biF, Mt.ty, bmF, tyA, truthO, truthA, truthD, ne_eq, not_true_eq_false, not_false_eq_true, String.reduceBEq, beq_self_eq_true, modA, mulA, pcal K c, olen K c (show b.cal.length < 1000 by omega), hp, subF_tup, ea, enD, kindA, kindD, K.i_str_str, hc, lst_hd, ht2]
theorem Hb.Ok.im_len (B : b.Ok) (m : Nat) : (b.im m).length = b.size ∧ ∀ x ∈ b.im m, x < b.size := by
  obtain ⟨e, he, _, hi⟩ := B.ent m
  rw [hi]
  cases e with
  | inr g =>
    refine ⟨by simp [Hb.img], fun x hx => ?_⟩
    have : x = g := by simp [Hb.img] at hx; exact hx.2
    rw [this]; exact B.c4 g he
  | inl x =>
    obtain ⟨t, r, ht, _, e⟩ := B.inl_ent he
    rw [e]
    have hp := B.t4 t ht
    exact ⟨by have := hp.length_eq; simpa using this, fun y hy => perm_lt hp hy⟩
theorem im_mod (m : Nat) : b.im (m % b.cal.length) = b.im m := by
  unfold Hb.im
  rw [Nat.mod_mod]
end
end MP
end S_RWi
section S_RWa
/-! RWa: runs: words, step, way, walk. -/
namespace MP
open PySem L2
structure Run (T : Tab) : Prop where
  f40 : T.fn 40 = some fn40
  n40 : T.np 40 = 1
  s40 : T.shape 40 1 [] = some (plainSh 1)
  s41 : T.shape 41 2 [] = some (plainSh 2)
  f63 : T.fn 63 = some fn63
  n63 : T.np 63 = 2
  s63 : T.shape 63 2 [] = some (plainSh 2)
  f64 : T.fn 64 = some fn64
  n64 : T.np 64 = 2
  s64 : T.shape 64 2 [] = some (plainSh 2)
  f65 : T.fn 65 = some fn65
  n65 : T.np 65 = 3
  s65 : T.shape 65 3 [] = some (plainSh 3)
  f66 : T.fn 66 = some fn66
  n66 : T.np 66 = 2
  s66 : T.shape 66 2 [] = some (plainSh 2)
  f67 : T.fn 67 = some fn67
  n67 : T.np 67 = 3
  s67 : T.shape 67 3 [] = some (plainSh 3)
  f68 : T.fn 68 = some fn68
  n68 : T.np 68 = 2
  s68 : T.shape 68 2 [] = some (plainSh 2)
  f69 : T.fn 69 = some fn69
  n69 : T.np 69 = 2
  s69 : T.shape 69 2 [] = some (plainSh 2)
  f70 : T.fn 70 = some fn70
  n70 : T.np 70 = 3
  s70 : T.shape 70 3 [] = some (plainSh 3)
  g_KEEP : T.glo ("KEEP" : Str) = some (.str ("keep" : Str))
  g_ROW : T.glo ("MOST_ROW" : Str) = some (.int 10000)
  g_TIMES : T.gd ("TIMES" : Str) = some [(("forget" : Str), 0), (("keep" : Str), 1), (("twice" : Str), 2)]
def kp : Str := "keep"
theorem kp_eq : ("keep" : Str) = kp := rfl
def words3 : List Str := ["forget", "keep", "twice"]
def times (w : Str) : Nat := if w = "forget" then 0 else if w = "keep" then 1 else 2
theorem times_lk : ∀ w ∈ words3, List.lookup w [(("forget" : Str), (0 : Int)), (("keep" : Str), 1), (("twice" : Str), 2)] = some ((times w : Nat) : Int) := by decide +kernel
theorem times_le (w : Str) : times w ≤ 2 := by unfold times; split <;> (try split) <;> omega
theorem slips_w3 : ∀ l ∈ slipsL, ∀ w ∈ l, w ∈ words3 ∧ w ≠ "keep" := by decide +kernel
def stD (p m r : Nat) : D := .tup [.int p, .int m, .int r]
/-- where a placement comes in a month -/
def Hb.go1 (b : Hb) (m p : Nat) : Nat := (b.im m).getD p 0
def Hb.gon (b : Hb) (m : Nat) : Nat → Nat → Nat
  | 0, p => p
  | k + 1, p => b.go1 m (b.gon m k p)
def Hb.nxt (b : Hb) (m : Nat) (w : Str) (p : Nat) : Nat := b.gon m (times w) p
def Hb.rst (b : Hb) (r : Nat) (w : Str) : Nat := if w = "keep" then min b.gap (r + 1) else 1
def Hb.pos (b : Hb) (p : Nat) (ws : List Str) : Nat → Nat
  | 0 => p
  | k + 1 => b.nxt k (ws.getD k "") (b.pos p ws k)
def Hb.rs (b : Hb) (ws : List Str) : Nat → Nat
  | 0 => b.gap
  | k + 1 => b.rst (b.rs ws k) (ws.getD k "")
/-- the months since the last slip, as the law counts them -/
def Hb.lr (b : Hb) (ws : List Str) : Nat → Nat
  | 0 => b.gap
  | k + 1 => if ws.getD k "" = "keep" then b.lr ws k + 1 else 1
def Hb.row (b : Hb) (ws : List Str) : Prop := ∀ (k : Nat) (w : Str), ws[k]? = some w → w = "keep" ∨ (b.gap ≤ b.lr ws k ∧ w ∈ b.slips)
section
variable {T : Tab} {n u : Nat} {h0 h h1 h2 : Hh} {b : Hb}
theorem Hb.Ok.go1_lt (B : b.Ok) {m p : Nat} (hp : p < b.size) : b.go1 m p < b.size ∧ (b.im m)[p]? = some (b.go1 m p) := by
  obtain ⟨h1, h2⟩ := B.im_len m
  have hp' : p < (b.im m).length := by omega
  have e : (b.im m)[p]? = some (b.go1 m p) := by
    unfold Hb.go1; rw [List.getD_eq_getElem?_getD, List.getElem?_eq_getElem hp']; rfl
  exact ⟨h2 _ (List.mem_of_getElem? e), e⟩
theorem Hb.Ok.gon_lt (B : b.Ok) {m : Nat} : ∀ {k p : Nat}, p < b.size → b.gon m k p < b.size
  | 0, _, hp => hp
  | k + 1, p, hp => (B.go1_lt (B.gon_lt (k := k) hp)).1
theorem Hb.Ok.nxt_lt (B : b.Ok) {m p : Nat} {w : Str} (hp : p < b.size) : b.nxt m w p < b.size := B.gon_lt hp
theorem Hb.Ok.pos_lt (B : b.Ok) {p : Nat} {ws : List Str} (hp : p < b.size) : ∀ k, b.pos p ws k < b.size
  | 0 => hp
  | k + 1 => B.nxt_lt (B.pos_lt hp k)
theorem gon_mod (m : Nat) : ∀ (k p : Nat), b.gon (m % b.cal.length) k p = b.gon m k p
  | 0, _ => rfl
  | k + 1, p => by rw [Hb.gon, Hb.gon, gon_mod m k p, Hb.go1, Hb.go1, im_mod]
theorem Hb.Ok.rs_lr (B : b.Ok) (ws : List Str) : ∀ k, b.rs ws k = min b.gap (b.lr ws k) ∧ 1 ≤ b.lr ws k
  | 0 => ⟨by simp [Hb.rs, Hb.lr], B.g1⟩
  | k + 1 => by
    obtain ⟨i1, i2⟩ := B.rs_lr ws k
    have g1 := B.g1
    rw [Hb.rs, Hb.lr, i1, Hb.rst]
    by_cases e : ws.getD k "" = "keep"
    · rw [if_pos e, if_pos e]; omega
    · rw [if_neg e, if_neg e]; omega
theorem strsD_sL : ∀ l : List Str, strsD (sL l) = some l
  | [] => rfl
  | x :: r => by
    have := strsD_sL r
    simp only [sL, List.map_cons] at this ⊢
    rw [strsD, this]; rfl
theorem words_ok (K : Core T) (R : Run T) (c : Clo h) (B : b.Ok) {p m r : Nat} : callN T (n + 2) 64 [.d b.o, .d (stD p m r)] h = .ok (.d (.lst (sL (sortS (kp :: if r = b.gap then b.slips else []))))) h := by
  have hs : ∀ l : List Str, l.length < 10 → sortedA false [.d (.lst (sL (kp :: l)))] h = some (.d (.lst (sL (sortS (kp :: l)))), h) := fun l hl => by
    have e1 : intsA (.d (.lst (sL (kp :: l)))) h = none := by
      simp only [intsA, asLst, allD_map]; rfl
    have e2 : strsLA (.d (.lst (sL (kp :: l)))) h = some (kp :: l) := by
      simp only [strsLA, asLst, allD_map, Option.bind_some, strsD_sL]
    have e3 : (kp :: l).length < 64 := by simp; omega
    have e4 := newL_d (ds := sL (sortS (kp :: l))) (h := h) (lt_size (by have := (sortS_perm (kp :: l)).length_eq; simp [sL] at *; omega))
    simp only [sortedA, e1, e2, e3, if_true]
    rw [← e4]; simp only [sL, List.map_map]; rfl
  have hsl := slips_len _ B.sl
  have e0 : subF (.d (stD p m r)) (.d (.int 2)) h = some (.d (.int r)) := by rw [stD, subF_tup]; exact atI_2
  refine callN_rt R.f64 rfl ?_ (retD0 c)
  by_cases e : r = b.gap
  · have e1 : ((r : Int) == (b.gap : Int)) = true := by rw [beq_iff_eq]; omega
    have e2 := hs b.slips (by omega)
    have e3 := lst_of (h := h) (xs := A.d (.str "keep") :: ((sL b.slips).map .d ++ [])) (ds := sL (kp :: b.slips)) (by simp [sL, kp]) (by simp [sL]; omega)
    rw [if_pos e]
    simp -implicitDefEqProofs only [fn64_a0, exSs, exS1, ev, evT, evP, evs, evB, evo_none, evo_some, evc_none, evc_some, evi_val, evi_rng, evi_enum, evL, evLs, vt, getS, opt_some, optH_some, Out.bind_ok, Out.bind_ex, Out.st_ok, Out.st_ex, OS.seq_nx, OS.seq_rt, OS.seq_ex, OS.seq_ct, OS.seq_bk, startS, Es.len, tg_name, tg_tup, tgs_nil, tgs_cons, Tgs.len, Lvs.len, setAll, List.getElem?_cons_zero, List.getElem?_cons_succ, List.set_cons_zero, List.set_cons_succ, List.map_cons, List.map_nil, List.cons_append, List.nil_append, List.replicate, List.length_cons, List.length_nil, Nat.reduceAdd, Nat.reduceSub, if_true, if_false, if_pos, reduceIte, reduceCtorEq, finC, blA, argF, plainSh, List.range', fillA, callF, Option.map_some, Option.bind_some, Option.map_none, Option.bind_none, and_self, true_and, and_true, intA, wipeS, Bool.not_true, Bool.not_false, Bool.false_eq_true, decide_true, decide_false, Bool.true_eq_false, binA, cmpO, cmpA, mtF, biF, Mt.ty, bmF, tyA, truthO, truthA, truthD, ne_eq, not_true_eq_false, not_false_eq_true, String.reduceBEq, beq_self_eq_true, R.g_KEEP, e0, pgap K c, eqO_int, e1, pslips K c, asSeq_tup, e3, e2]
  · have e1 : ((r : Int) == (b.gap : Int)) = false := by rw [beq_eq_false_iff_ne]; omega
    have e2 := hs [] (by simp)
    have e3 := lst_of (h := h) (xs := [A.d (.str "keep")]) (ds := sL [kp]) (by simp [sL, kp]) (by simp [sL])
    rw [if_neg e]
    simp -implicitDefEqProofs only [fn64_a0, exSs, exS1, ev, evT, evP, evs, evB, evo_none, evo_some, evc_none, evc_some, evi_val, evi_rng, evi_enum, evL, evLs, vt, getS, opt_some, optH_some, Out.bind_ok, Out.bind_ex, Out.st_ok, Out.st_ex, OS.seq_nx, OS.seq_rt, OS.seq_ex, OS.seq_ct, OS.seq_bk, startS, Es.len, tg_name, tg_tup, tgs_nil, tgs_cons, Tgs.len, Lvs.len, setAll, List.getElem?_cons_zero, List.getElem?_cons_succ, List.set_cons_zero, List.set_cons_succ, List.map_cons, List.map_nil, List.cons_append, List.nil_append, List.replicate, List.length_cons, List.length_nil, Nat.reduceAdd, Nat.reduceSub, if_true, if_false, if_pos, reduceIte, reduceCtorEq, finC, blA, argF, plainSh, List.range', fillA, callF, Option.map_some, Option.bind_some, Option.map_none, Option.bind_none, and_self, true_and, and_true, intA, wipeS, Bool.not_true, Bool.not_false, Bool.false_eq_true, decide_true, decide_false, Bool.true_eq_false, binA, cmpO, cmpA, mtF, biF, Mt.ty, bmF, tyA, truthO, truthA, truthD, ne_eq, not_true_eq_false, not_false_eq_true, String.reduceBEq, beq_self_eq_true, R.g_KEEP, e0, pgap K c, eqO_int, e1, tupA_0, asSeq_tup, e3, e2]
theorem first_ok (K : Core T) (R : Run T) (c : Clo h) {p : Nat} : callN T (n + 2) 66 [.d b.o, .d (.int p)] h = .ok (.d (stD p 0 b.gap)) h := by
  refine callN_rt R.f66 rfl ?_ (retD0 c)
  simp -implicitDefEqProofs only [fn66_a0, exSs, exS1, ev, evT, evP, evs, evB, evo_none, evo_some, evc_none, evc_some, evi_val, evi_rng, evi_enum, evL, evLs, vt, getS, opt_some, optH_some, Out.bind_ok, Out.bind_ex, Out.st_ok, Out.st_ex, OS.seq_nx, OS.seq_rt, OS.seq_ex, OS.seq_ct, OS.seq_bk, startS, Es.len, tg_name, tg_tup, tgs_nil, tgs_cons, Tgs.len, Lvs.len, setAll, List.getElem?_cons_zero, List.getElem?_cons_succ, List.set_cons_zero, List.set_cons_succ, List.map_cons, List.map_nil, List.cons_append, List.nil_append, List.replicate, List.length_cons, List.length_nil, Nat.reduceAdd, Nat.reduceSub, if_true, if_false, if_pos, reduceIte, reduceCtorEq, finC, blA, argF, plainSh, List.range', fillA, callF, Option.map_some, Option.bind_some, Option.map_none, Option.bind_none, and_self, true_and, and_true, intA, wipeS, Bool.not_true, Bool.not_false, Bool.false_eq_true, decide_true, decide_false, Bool.true_eq_false, binA, cmpO, cmpA, mtF, biF, Mt.ty, bmF, tyA, truthO, truthA, truthD, ne_eq, not_true_eq_false, not_false_eq_true, String.reduceBEq, beq_self_eq_true, pgap K c, tupA_3]
  rfl
theorem step_ok (K : Core T) (I : Img T) (R : Run T) (c : Clo h) (B : b.Ok) {p m r : Nat} {w : Str} (hw : w ∈ words3) (hp : p < b.size) : callN T (n + 3) 65 [.d b.o, .d (stD p m r), .d (.str w)] h = .ok (.d (stD (b.nxt m w p) ((m + 1) % b.cal.length) (b.rst r w))) h := by
  have hl := B.clen
  have c2 := B.c2
  have e1 := himage_ok (n := n) (m := m) K I c B
  have e2 := times_lk w hw
  obtain ⟨s', h', e', v7, hs', hh'⟩ := loopF_inv (ft := (Tg.name 7).set) (fb := exSs T (callN T (n + 2)) fn65_b0) (m := none) (h0 := h) (xs := rngL 0 (times w)) (s := [some (.d b.o), some (.d (stD p m r)), some (.d (.str w)), some (.d (.int p)), some (.d (.int m)), some (.d (.int r)), some (.d (.tup (iL (b.im m)))), none]) (h := h)
    (fun k s h' => ∃ v7, s = [some (.d b.o), some (.d (stD p m r)), some (.d (.str w)), some (.d (.int (b.gon m k p : Nat))), some (.d (.int m)), some (.d (.int r)), some (.d (.tup (iL (b.im m)))), v7] ∧ h' = h)
    (fun k x s2 h2 hk ⟨v7, q1, q2⟩ => by
      subst q1
      rw [q2]
      have ea : subF (.d (.tup (iL (b.im m)))) (.d (.int (b.gon m k p : Nat))) h = some (.d (.int (b.gon m (k + 1) p : Nat))) := by
        rw [subF_tup, atI_nat, iL, List.getElem?_map, List.getElem?_map, (B.go1_lt (B.gon_lt hp)).2]; rfl
      refine ⟨_, [some (.d b.o), some (.d (stD p m r)), some (.d (.str w)), some (.d (.int (b.gon m (k + 1) p : Nat))), some (.d (.int m)), some (.d (.int r)), some (.d (.tup (iL (b.im m)))), some x], h, tg_name _ _ _, .inl ?_, trivial, _, rfl, rfl⟩
      simp -implicitDefEqProofs only [fn65_b0, exSs, exS1, ev, evT, evP, evs, evB, evo_none, evo_some, evc_none, evc_some, evi_val, evi_rng, evi_enum, evL, evLs, vt, getS, opt_some, optH_some, Out.bind_ok, Out.bind_ex, Out.st_ok, Out.st_ex, OS.seq_nx, OS.seq_rt, OS.seq_ex, OS.seq_ct, OS.seq_bk, startS, Es.len, tg_name, tg_tup, tgs_nil, tgs_cons, Tgs.len, Lvs.len, setAll, List.getElem?_cons_zero, List.getElem?_cons_succ, List.set_cons_zero, List.set_cons_succ, List.map_cons, List.map_nil, List.cons_append, List.nil_append, List.replicate, List.length_cons, List.length_nil, Nat.reduceAdd, Nat.reduceSub, if_true, if_false, if_pos, reduceIte, reduceCtorEq, finC, blA, argF, plainSh, List.range', fillA, callF, Option.map_some, Option.bind_some, Option.map_none, Option.bind_none, and_self, true_and, and_true, intA, wipeS, Bool.not_true, Bool.not_false, Bool.false_eq_true, decide_true, decide_false, Bool.true_eq_false, binA, cmpO, cmpA, mtF, biF, Mt.ty, bmF, tyA, truthO, truthA, truthD, ne_eq, not_true_eq_false, not_false_eq_true, String.reduceBEq, beq_self_eq_true, ea])
    ⟨none, rfl, rfl⟩
  subst hs'
  rw [rngL_len, hh'] at e'
  have hr : rngA [.d (.int (times w : Nat))] = some (rngL 0 (times w), none) := rng1 (by have := times_le w; omega)
  have hmod : ((m : Int) + 1) % (b.cal.length : Int) = (((m + 1) % b.cal.length : Nat) : Int) := by
    have := Int.natCast_emod (m + 1) b.cal.length
    simpa using this.symm
  have hpos : (0 : Int) < (b.cal.length : Int) := by omega
  have st : stD p m r = .tup [.int p, .int m, .int r] := rfl
  refine callN_rt R.f65 rfl ?_ (retD0 c)
  rw [st] at e' ⊢
  by_cases e : w = "keep"
  · have q1 : (w == "keep") = true := beq_iff_eq.mpr e
    have q2 : b.rst r w = min b.gap (r + 1) := by rw [Hb.rst, if_pos e]
    have q3 : (if (r : Int) + 1 < (b.gap : Int) then (r : Int) + 1 else (b.gap : Int)) = ((min b.gap (r + 1) : Nat) : Int) := by split <;> omega
    rw [q2]
    simp -implicitDefEqProofs only [fn65_a0, fn65_a1, fn65_a2, exSs, exS1, ev, evT, evP, evs, evB, evo_none, evo_some, evc_none, evc_some, evi_val, evi_rng, evi_enum, evL, evLs, vt, getS, opt_some, optH_some, Out.bind_ok, Out.bind_ex, Out.st_ok, Out.st_ex, OS.seq_nx, OS.seq_rt, OS.seq_ex, OS.seq_ct, OS.seq_bk, startS, Es.len, tg_name, tg_tup, tgs_nil, tgs_cons, Tgs.len, Lvs.len, setAll, List.getElem?_cons_zero, List.getElem?_cons_succ, List.set_cons_zero, List.set_cons_succ, List.map_cons, List.map_nil, List.cons_append, List.nil_append, List.replicate, List.length_cons, List.length_nil, Nat.reduceAdd, Nat.reduceSub, if_true, if_false, if_pos, reduceIte, reduceCtorEq, finC, blA, argF, plainSh, List.range', fillA, callF, Option.map_some, Option.bind_some, Option.map_none, Option.bind_none, and_self, true_and, and_true, intA, wipeS, Bool.not_true, Bool.not_false, Bool.false_eq_true, decide_true, decide_false, Bool.true_eq_false, binA, cmpO, cmpA, mtF, biF, Mt.ty, bmF, tyA, truthO, truthA, truthD, ne_eq, not_true_eq_false, not_false_eq_true, String.reduceBEq, beq_self_eq_true, R.s41, I.n41, e1, R.g_TIMES, subG, e2, hr, e']
    simp -implicitDefEqProofs only [fn65_a3, fn65_a4, exSs, exS1, ev, evT, evP, evs, evB, evo_none, evo_some, evc_none, evc_some, evi_val, evi_rng, evi_enum, evL, evLs, vt, getS, opt_some, optH_some, Out.bind_ok, Out.bind_ex, Out.st_ok, Out.st_ex, OS.seq_nx, OS.seq_rt, OS.seq_ex, OS.seq_ct, OS.seq_bk, startS, Es.len, tg_name, tg_tup, tgs_nil, tgs_cons, Tgs.len, Lvs.len, setAll, List.getElem?_cons_zero, List.getElem?_cons_succ, List.set_cons_zero, List.set_cons_succ, List.map_cons, List.map_nil, List.cons_append, List.nil_append, List.replicate, List.length_cons, List.length_nil, Nat.reduceAdd, Nat.reduceSub, if_true, if_false, if_pos, reduceIte, reduceCtorEq, finC, blA, argF, plainSh, List.range', fillA, callF, Option.map_some, Option.bind_some, Option.map_none, Option.bind_none, and_self, true_and, and_true, intA, wipeS, Bool.not_true, Bool.not_false, Bool.false_eq_true, decide_true, decide_false, Bool.true_eq_false, binA, cmpO, cmpA, mtF, biF, Mt.ty, bmF, tyA, truthO, truthA, truthD, ne_eq, not_true_eq_false, not_false_eq_true, String.reduceBEq, beq_self_eq_true, R.g_KEEP, eqO_str, q1, pgap K c, addA_int, minA, min2A, q3, modA, olen K c (show b.cal.length < 1000 by omega), hpos, hmod, tupA_3]
    rfl
  · have q1 : (w == "keep") = false := beq_eq_false_iff_ne.mpr e
    have q2 : b.rst r w = 1 := by rw [Hb.rst, if_neg e]
    rw [q2]
    simp -implicitDefEqProofs only [fn65_a0, fn65_a1, fn65_a2, exSs, exS1, ev, evT, evP, evs, evB, evo_none, evo_some, evc_none, evc_some, evi_val, evi_rng, evi_enum, evL, evLs, vt, getS, opt_some, optH_some, Out.bind_ok, Out.bind_ex, Out.st_ok, Out.st_ex, OS.seq_nx, OS.seq_rt, OS.seq_ex, OS.seq_ct, OS.seq_bk, startS, Es.len, tg_name, tg_tup, tgs_nil, tgs_cons, Tgs.len, Lvs.len, setAll, List.getElem?_cons_zero, List.getElem?_cons_succ, List.set_cons_zero, List.set_cons_succ, List.map_cons, List.map_nil, List.cons_append, List.nil_append, List.replicate, List.length_cons, List.length_nil, Nat.reduceAdd, Nat.reduceSub, if_true, if_false, if_pos, reduceIte, reduceCtorEq, finC, blA, argF, plainSh, List.range', fillA, callF, Option.map_some, Option.bind_some, Option.map_none, Option.bind_none, and_self, true_and, and_true, intA, wipeS, Bool.not_true, Bool.not_false, Bool.false_eq_true, decide_true, decide_false, Bool.true_eq_false, binA, cmpO, cmpA, mtF, biF, Mt.ty, bmF, tyA, truthO, truthA, truthD, ne_eq, not_true_eq_false, not_false_eq_true, String.reduceBEq, beq_self_eq_true, R.s41, I.n41, e1, R.g_TIMES, subG, e2, hr, e']
    simp -implicitDefEqProofs only [fn65_a3, fn65_a4, exSs, exS1, ev, evT, evP, evs, evB, evo_none, evo_some, evc_none, evc_some, evi_val, evi_rng, evi_enum, evL, evLs, vt, getS, opt_some, optH_some, Out.bind_ok, Out.bind_ex, Out.st_ok, Out.st_ex, OS.seq_nx, OS.seq_rt, OS.seq_ex, OS.seq_ct, OS.seq_bk, startS, Es.len, tg_name, tg_tup, tgs_nil, tgs_cons, Tgs.len, Lvs.len, setAll, List.getElem?_cons_zero, List.getElem?_cons_succ, List.set_cons_zero, List.set_cons_succ, List.map_cons, List.map_nil, List.cons_append, List.nil_append, List.replicate, List.length_cons, List.length_nil, Nat.reduceAdd, Nat.reduceSub, if_true, if_false, if_pos, reduceIte, reduceCtorEq, finC, blA, argF, plainSh, List.range', fillA, callF, Option.map_some, Option.bind_some, Option.map_none, Option.bind_none, and_self, true_and, and_true, intA, wipeS, Bool.not_true, Bool.not_false, Bool.false_eq_true, decide_true, decide_false, Bool.true_eq_false, binA, cmpO, cmpA, mtF, biF, Mt.ty, bmF, tyA, truthO, truthA, truthD, ne_eq, not_true_eq_false, not_false_eq_true, String.reduceBEq, beq_self_eq_true, R.g_KEEP, eqO_str, q1, addA_int, modA, olen K c (show b.cal.length < 1000 by omega), hpos, hmod, tupA_3]
    rfl
end
end MP
end S_RWa
section S_RWb
/-! RWb: way_of, the checks of a run. -/
namespace MP
open PySem L2
def Hb.st (b : Hb) (p : Nat) (ws : List Str) (k : Nat) : D := stD (b.pos p ws k) (k % b.cal.length) (b.rs ws k)
def Hb.way (b : Hb) (p : Nat) (ws : List Str) (k : Nat) : List D := (List.range (k + 1)).map (b.st p ws)
section
variable {T : Tab} {n u : Nat} {h0 h h1 h2 : Hh} {b : Hb}
theorem atI_m1 {α : Type} {xs : List α} {d : α} : L2.atI (xs ++ [d]) (-1) = some d := by
  have e : L2.ixN (xs ++ [d]).length (-1) = some xs.length := by
    unfold L2.ixN
    rw [if_neg (by decide), if_pos (by simp; omega)]
    congr 1
    simp <;> omega
  unfold L2.atI
  rw [e]; simp
theorem inA_lst {x : Str} {l : List Str} : inA (.d (.str x)) (.d (.lst (sL l))) h = some (decide (x ∈ l)) := by
  have e : asP (.d (.lst (sL l))) h = some (.lst (sL l)) := by simp only [asP, D.pure, pure_sL, if_true]
  have e2 : lookA (.d (.lst (sL l))) (.d (.str x)) h = none := by simp [lookA, asDk, asDt]
  have ex : asP (.d (.str x)) h = some (.str x) := rfl
  simp only [inA, e2, e, ex, D.depth, Nat.zero_le, if_true, any_sL]
theorem inA_tup {x : Str} {l : List Str} : inA (.d (.str x)) (.d (.tup (sL l))) h = some (decide (x ∈ l)) := by
  have e : asP (.d (.tup (sL l))) h = some (.tup (sL l)) := by simp only [asP, D.pure, pure_sL, if_true]
  have e2 : lookA (.d (.tup (sL l))) (.d (.str x)) h = none := by simp [lookA, asDk, asDt]
  have ex : asP (.d (.str x)) h = some (.str x) := rfl
  simp only [inA, e2, e, ex, D.depth, Nat.zero_le, if_true, any_sL]
theorem lenO_tup {C : CallT} {tb : Nat → Option Nat} {xs : List D} : lenO C tb [.d (.tup xs)] h = some (.d (.int xs.length), h) := by
  simp only [lenO, clsA, Option.bind_none, lenA, asSeq, List.length_map]
theorem Hb.row.ok (B : b.Ok) {ws : List Str} (r : b.row ws) {k : Nat} {w : Str} (hk : ws[k]? = some w) : w ∈ words3 ∧ w ∈ sortS (kp :: if b.rs ws k = b.gap then b.slips else []) := by
  rcases r k w hk with rfl | ⟨h1, h2⟩
  · refine ⟨by decide +kernel, (sortS_perm _).mem_iff.mpr List.mem_cons_self⟩
  · refine ⟨(slips_w3 _ B.sl w h2).1, (sortS_perm _).mem_iff.mpr ?_⟩
    have := (B.rs_lr ws k).1
    rw [if_pos (by omega)]
    exact List.mem_cons_of_mem _ h2
theorem way_ok (K : Core T) (I : Img T) (R : Run T) (c : Clo h) (B : b.Ok) {p : Nat} {ws : List Str} (hr : b.row ws) (hp : p < b.size) (hl : ws.length < 1000) : callN T (n + 4) 67 [.d b.o, .d (stD p 0 b.gap), .d (.tup (sL ws))] h = .ok (.d (.lst (b.way p ws ws.length))) h := by
  have hb : ∀ k, (O.lst ((b.way p ws k).map .d)).below (h.length + 1) = true := fun k => lst_below _ _
  obtain ⟨s', h', e', v4, hs', hh'⟩ := loopF_inv (ft := (Tg.name 4).set) (fb := exSs T (callN T (n + 3)) fn67_b0) (m := none) (h0 := h ++ [.lst ((b.way p ws 0).map .d)]) (xs := (sL ws).map .d) (s := [some (.d b.o), some (.d (stD p 0 b.gap)), some (.d (.tup (sL ws))), some (.ref h.length), none]) (h := h ++ [.lst ((b.way p ws 0).map .d)])
    (fun k s h' => ∃ v4, s = [some (.d b.o), some (.d (stD p 0 b.gap)), some (.d (.tup (sL ws))), some (.ref h.length), v4] ∧ h' = h ++ [.lst ((b.way p ws k).map .d)])
    (fun k x s2 h2 hk ⟨v4, q1, q2⟩ => by
      subst q1 q2
      rw [List.getElem?_map, sL, List.getElem?_map] at hk
      cases hw : ws[k]? with
      | none => rw [hw] at hk; cases hk
      | some w =>
        rw [hw] at hk
        cases hk
        have hkl : k < ws.length := (List.getElem?_eq_some_iff.mp hw).1
        have hgd : ws.getD k "" = w := by rw [List.getD_eq_getElem?_getD, hw]; rfl
        obtain ⟨w1, w2⟩ := hr.ok B hw
        have cc : Clo (h ++ [.lst ((b.way p ws k).map .d)]) := c.app (hb k)
        have e0 : subF (.ref h.length) (.d (.int (-1))) (h ++ [.lst ((b.way p ws k).map .d)]) = some (.d (b.st p ws k)) := by
          rw [subF_ref get_app, Hb.way, List.range_succ, List.map_append, List.map_append]
          exact atI_m1
        have e1 := words_ok (n := n + 1) (p := b.pos p ws k) (m := k % b.cal.length) (r := b.rs ws k) K R cc B
        replace e1 : callN T (n + 3) 64 [.d b.o, .d (b.st p ws k)] _ = _ := e1
        have e2 := inA_lst (h := h ++ [.lst ((b.way p ws k).map .d)]) (x := w) (l := sortS (kp :: if b.rs ws k = b.gap then b.slips else []))
        rw [decide_eq_true w2] at e2
        have e3 := step_ok (n := n) (p := b.pos p ws k) (m := k % b.cal.length) (r := b.rs ws k) K I R cc B w1 (B.pos_lt hp k)
        have e4 : stD (b.nxt (k % b.cal.length) w (b.pos p ws k)) ((k % b.cal.length + 1) % b.cal.length) (b.rst (b.rs ws k) w) = b.st p ws (k + 1) := by
          rw [Hb.st, Hb.pos, Hb.rs, hgd, Hb.nxt, Hb.nxt, gon_mod, Nat.mod_add_mod]
        rw [e4] at e3
        replace e3 : callN T (n + 3) 65 [.d b.o, .d (b.st p ws k), .d (.str w)] _ = _ := e3
        have hap : ((b.way p ws k).map A.d).length < sizeLine := lt_size (by simp [Hb.way]; omega)
        have hex : (b.way p ws k).map A.d ++ [A.d (b.st p ws (k + 1))] = (b.way p ws (k + 1)).map .d := by
          simp [Hb.way, List.range_succ]
        refine ⟨_, [some (.d b.o), some (.d (stD p 0 b.gap)), some (.d (.tup (sL ws))), some (.ref h.length), some (.d (.str w))], h ++ [.lst ((b.way p ws (k + 1)).map .d)], tg_name _ _ _, .inl ?_, trivial, _, rfl, rfl⟩
        simp -implicitDefEqProofs only [fn67_b0, fn67_b1, fn67_c0, exSs, exS1, ev, evT, evP, evs, evB, evo_none, evo_some, evc_none, evc_some, evi_val, evi_rng, evi_enum, evL, evLs, vt, getS, opt_some, optH_some, Out.bind_ok, Out.bind_ex, Out.st_ok, Out.st_ex, OS.seq_nx, OS.seq_rt, OS.seq_ex, OS.seq_ct, OS.seq_bk, startS, Es.len, tg_name, tg_tup, tgs_nil, tgs_cons, Tgs.len, Lvs.len, setAll, List.getElem?_cons_zero, List.getElem?_cons_succ, List.set_cons_zero, List.set_cons_succ, List.map_cons, List.map_nil, List.cons_append, List.nil_append, List.replicate, List.length_cons, List.length_nil, Nat.reduceAdd, Nat.reduceSub, if_true, if_false, if_pos, reduceIte, reduceCtorEq, finC, blA, argF, plainSh, List.range', fillA, callF, Option.map_some, Option.bind_some, Option.map_none, Option.bind_none, and_self, true_and, and_true, intA, wipeS, Bool.not_true, Bool.not_false, Bool.false_eq_true, decide_true, decide_false, Bool.true_eq_false, binA, cmpO, cmpA, mtF, biF, Mt.ty, bmF, tyA, truthO, truthA, truthD, ne_eq, not_true_eq_false, not_false_eq_true, String.reduceBEq, beq_self_eq_true, negA, e0, R.s64, R.n64, e1, inA0, e2, R.s65, R.n65, e3, get_app, set_app, appendM, hap, hex])
    ⟨none, rfl, rfl⟩
  subst hs' hh'
  rw [List.length_map, sL, List.length_map] at e'
  have hn := newL_m (h := h) (xs := [A.d (stD p 0 b.gap)]) (by simp)
  have h00 : [A.d (stD p 0 b.gap)] = (b.way p ws 0).map .d := by simp [Hb.way, Hb.st, Hb.pos, Hb.rs]
  rw [h00] at hn
  refine callN_rt (a := .ref h.length) (h1 := h ++ [.lst ((b.way p ws ws.length).map .d)]) R.f67 rfl ?_ ?_
  · rw [← sL] at e'
    simp -implicitDefEqProofs only [fn67_a0, fn67_a1, fn67_a2, exSs, exS1, ev, evT, evP, evs, evB, evo_none, evo_some, evc_none, evc_some, evi_val, evi_rng, evi_enum, evL, evLs, vt, getS, opt_some, optH_some, Out.bind_ok, Out.bind_ex, Out.st_ok, Out.st_ex, OS.seq_nx, OS.seq_rt, OS.seq_ex, OS.seq_ct, OS.seq_bk, startS, Es.len, tg_name, tg_tup, tgs_nil, tgs_cons, Tgs.len, Lvs.len, setAll, List.getElem?_cons_zero, List.getElem?_cons_succ, List.set_cons_zero, List.set_cons_succ, List.map_cons, List.map_nil, List.cons_append, List.nil_append, List.replicate, List.length_cons, List.length_nil, Nat.reduceAdd, Nat.reduceSub, if_true, if_false, if_pos, reduceIte, reduceCtorEq, finC, blA, argF, plainSh, List.range', fillA, callF, Option.map_some, Option.bind_some, Option.map_none, Option.bind_none, and_self, true_and, and_true, intA, wipeS, Bool.not_true, Bool.not_false, Bool.false_eq_true, decide_true, decide_false, Bool.true_eq_false, binA, cmpO, cmpA, mtF, biF, Mt.ty, bmF, tyA, truthO, truthA, truthD, ne_eq, not_true_eq_false, not_false_eq_true, String.reduceBEq, beq_self_eq_true, h00, hn, iterV, e']
  · have := c.cutT [.lst ((b.way p ws ws.length).map .d)]
    simp only [retA, Nat.lt_irrefl, if_false, get_app, allD_map, this, Option.map_some]
theorem isrow_ok (K : Core T) (I : Img T) (R : Run T) (c : Clo h) (B : b.Ok) {ws : List Str} (hr : b.row ws) (hl : ws.length < 1000) : callN T (n + 5) 68 [.d b.o, .d (.tup (sL ws))] h = .ok (.d (.bl true)) h := by
  have e1 := first_ok (n := n + 2) (p := 0) K R c (b := b)
  have e2 := way_ok (n := n) (p := 0) K I R c B hr (by have := B.s1; omega) hl
  have hc := comp_map (T := T) (C := callN T (n + 4)) (it := .val (.var 1)) (i := 2) (e := fn68_x0) (own := [2]) (s := [some (.d b.o), some (.d (.tup (sL ws))), none]) (h := h) (h1 := h) (xs := (sL ws).map .d) (m := none) (f := fun _ => .bl true)
    (by simp -implicitDefEqProofs only [exSs, exS1, ev, evT, evP, evs, evB, evo_none, evo_some, evc_none, evc_some, evi_val, evi_rng, evi_enum, evL, evLs, vt, getS, opt_some, optH_some, Out.bind_ok, Out.bind_ex, Out.st_ok, Out.st_ex, OS.seq_nx, OS.seq_rt, OS.seq_ex, OS.seq_ct, OS.seq_bk, startS, Es.len, tg_name, tg_tup, tgs_nil, tgs_cons, Tgs.len, Lvs.len, setAll, List.getElem?_cons_zero, List.getElem?_cons_succ, List.set_cons_zero, List.set_cons_succ, List.map_cons, List.map_nil, List.cons_append, List.nil_append, List.replicate, List.length_cons, List.length_nil, Nat.reduceAdd, Nat.reduceSub, if_true, if_false, if_pos, reduceIte, reduceCtorEq, finC, blA, argF, plainSh, List.range', fillA, callF, Option.map_some, Option.bind_some, Option.map_none, Option.bind_none, and_self, true_and, and_true, intA, wipeS, Bool.not_true, Bool.not_false, Bool.false_eq_true, decide_true, decide_false, Bool.true_eq_false, binA, cmpO, cmpA, mtF, biF, Mt.ty, bmF, tyA, truthO, truthA, truthD, ne_eq, not_true_eq_false, not_false_eq_true, String.reduceBEq, beq_self_eq_true, iterV])
    (fun y hy => by
      simp only [sL, List.map_map, List.mem_map] at hy
      obtain ⟨x, _, rfl⟩ := hy
      simp -implicitDefEqProofs only [fn68_x0, exSs, exS1, ev, evT, evP, evs, evB, evo_none, evo_some, evc_none, evc_some, evi_val, evi_rng, evi_enum, evL, evLs, vt, getS, opt_some, optH_some, Out.bind_ok, Out.bind_ex, Out.st_ok, Out.st_ex, OS.seq_nx, OS.seq_rt, OS.seq_ex, OS.seq_ct, OS.seq_bk, startS, Es.len, tg_name, tg_tup, tgs_nil, tgs_cons, Tgs.len, Lvs.len, setAll, List.getElem?_cons_zero, List.getElem?_cons_succ, List.set_cons_zero, List.set_cons_succ, List.map_cons, List.map_nil, List.cons_append, List.nil_append, List.replicate, List.length_cons, List.length_nil, Nat.reduceAdd, Nat.reduceSub, if_true, if_false, if_pos, reduceIte, reduceCtorEq, finC, blA, argF, plainSh, List.range', fillA, callF, Option.map_some, Option.bind_some, Option.map_none, Option.bind_none, and_self, true_and, and_true, intA, wipeS, Bool.not_true, Bool.not_false, Bool.false_eq_true, decide_true, decide_false, Bool.true_eq_false, binA, cmpO, cmpA, mtF, biF, Mt.ty, bmF, tyA, truthO, truthA, truthD, ne_eq, not_true_eq_false, not_false_eq_true, String.reduceBEq, beq_self_eq_true, Function.comp, kindA, kindD, K.i_str_str])
    (lt_size (by simp [sL]; omega))
  replace e1 : callN T (n + 4) 66 [.d b.o, .d (.int 0)] h = .ok (.d (stD 0 0 b.gap)) h := e1
  refine callN_rt R.f68 rfl ?_ (retD0 c)
  simp -implicitDefEqProofs only [fn68_a0, fn68_a1, fn68_b0, exSs, exS1, ev, evT, evP, evs, evB, evo_none, evo_some, evc_none, evc_some, evi_val, evi_rng, evi_enum, evL, evLs, vt, getS, opt_some, optH_some, Out.bind_ok, Out.bind_ex, Out.st_ok, Out.st_ex, OS.seq_nx, OS.seq_rt, OS.seq_ex, OS.seq_ct, OS.seq_bk, startS, Es.len, tg_name, tg_tup, tgs_nil, tgs_cons, Tgs.len, Lvs.len, setAll, List.getElem?_cons_zero, List.getElem?_cons_succ, List.set_cons_zero, List.set_cons_succ, List.map_cons, List.map_nil, List.cons_append, List.nil_append, List.replicate, List.length_cons, List.length_nil, Nat.reduceAdd, Nat.reduceSub, if_true, if_false, if_pos, reduceIte, reduceCtorEq, finC, blA, argF, plainSh, List.range', fillA, callF, Option.map_some, Option.bind_some, Option.map_none, Option.bind_none, and_self, true_and, and_true, intA, wipeS, Bool.not_true, Bool.not_false, Bool.false_eq_true, decide_true, decide_false, Bool.true_eq_false, binA, cmpO, cmpA, mtF, biF, Mt.ty, bmF, tyA, truthO, truthA, truthD, ne_eq, not_true_eq_false, not_false_eq_true, String.reduceBEq, beq_self_eq_true, kindA, kindD, K.i_tuple_tuple, hc, all_true, R.s66, R.n66, e1, R.s67, R.n67, e2, isnotA, isNon]
theorem crow_ok (K : Core T) (I : Img T) (R : Run T) (c : Clo h) (B : b.Ok) {ws : List Str} (hr : b.row ws) (hl : ws.length < 1000) : callN T (n + 6) 69 [.d b.o, .d (.tup (sL ws))] h = .ok (.d .non) h := by
  have e1 := isrow_ok (n := n) K I R c B hr hl
  have e2 : ¬ (10000 : Int) < ((sL ws).length : Nat) := by simp [sL]; omega
  refine callN_nx (s := [some (.d b.o), some (.d (.tup (sL ws)))]) R.f69 rfl ?_ (retD0 c)
  simp -implicitDefEqProofs only [fn69_a0, fn69_b0, exSs, exS1, ev, evT, evP, evs, evB, evo_none, evo_some, evc_none, evc_some, evi_val, evi_rng, evi_enum, evL, evLs, vt, getS, opt_some, optH_some, Out.bind_ok, Out.bind_ex, Out.st_ok, Out.st_ex, OS.seq_nx, OS.seq_rt, OS.seq_ex, OS.seq_ct, OS.seq_bk, startS, Es.len, tg_name, tg_tup, tgs_nil, tgs_cons, Tgs.len, Lvs.len, setAll, List.getElem?_cons_zero, List.getElem?_cons_succ, List.set_cons_zero, List.set_cons_succ, List.map_cons, List.map_nil, List.cons_append, List.nil_append, List.replicate, List.length_cons, List.length_nil, Nat.reduceAdd, Nat.reduceSub, if_true, if_false, if_pos, reduceIte, reduceCtorEq, finC, blA, argF, plainSh, List.range', fillA, callF, Option.map_some, Option.bind_some, Option.map_none, Option.bind_none, and_self, true_and, and_true, intA, wipeS, Bool.not_true, Bool.not_false, Bool.false_eq_true, decide_true, decide_false, Bool.true_eq_false, binA, cmpO, cmpA, mtF, biF, Mt.ty, bmF, tyA, truthO, truthA, truthD, ne_eq, not_true_eq_false, not_false_eq_true, String.reduceBEq, beq_self_eq_true, kindA, kindD, K.i_tuple_tuple, lenO_tup, R.g_ROW, ordA, e2, R.s68, R.n68, e1]
theorem cplace_ok (K : Core T) (R : Run T) (c : Clo h) (B : b.Ok) {p : Nat} (hp : p < b.size) : callN T (n + 3) 63 [.d b.o, .d (.int p)] h = .ok (.d .non) h := by
  have e1 := integer_ok (n := n) (i := p) (a := 0) (b := (b.size : Int) - 1) K c
  rw [decide_eq_true (show (0 : Int) ≤ (p : Int) ∧ (p : Int) ≤ (b.size : Int) - 1 by omega)] at e1
  refine callN_nx (s := [some (.d b.o), some (.d (.int p))]) R.f63 rfl ?_ (retD0 c)
  simp -implicitDefEqProofs only [fn63_a0, fn63_b0, exSs, exS1, ev, evT, evP, evs, evB, evo_none, evo_some, evc_none, evc_some, evi_val, evi_rng, evi_enum, evL, evLs, vt, getS, opt_some, optH_some, Out.bind_ok, Out.bind_ex, Out.st_ok, Out.st_ex, OS.seq_nx, OS.seq_rt, OS.seq_ex, OS.seq_ct, OS.seq_bk, startS, Es.len, tg_name, tg_tup, tgs_nil, tgs_cons, Tgs.len, Lvs.len, setAll, List.getElem?_cons_zero, List.getElem?_cons_succ, List.set_cons_zero, List.set_cons_succ, List.map_cons, List.map_nil, List.cons_append, List.nil_append, List.replicate, List.length_cons, List.length_nil, Nat.reduceAdd, Nat.reduceSub, if_true, if_false, if_pos, reduceIte, reduceCtorEq, finC, blA, argF, plainSh, List.range', fillA, callF, Option.map_some, Option.bind_some, Option.map_none, Option.bind_none, and_self, true_and, and_true, intA, wipeS, Bool.not_true, Bool.not_false, Bool.false_eq_true, decide_true, decide_false, Bool.true_eq_false, binA, cmpO, cmpA, mtF, biF, Mt.ty, bmF, tyA, truthO, truthA, truthD, ne_eq, not_true_eq_false, not_false_eq_true, String.reduceBEq, beq_self_eq_true, psize (n := n + 1) K c, subA, K.s2, K.n2, e1]
theorem chabit_ok (K : Core T) (R : Run T) (c : Clo h) : callN T (n + 1) 40 [.d b.o] h = .ok (.d .non) h := by
  have hk : kindA (.d b.o) h = some (.own 1) := rfl
  refine callN_nx (s := [some (.d b.o)]) R.f40 rfl ?_ (retD0 c)
  simp -implicitDefEqProofs only [fn40_a0, exSs, exS1, ev, evT, evP, evs, evB, evo_none, evo_some, evc_none, evc_some, evi_val, evi_rng, evi_enum, evL, evLs, vt, getS, opt_some, optH_some, Out.bind_ok, Out.bind_ex, Out.st_ok, Out.st_ex, OS.seq_nx, OS.seq_rt, OS.seq_ex, OS.seq_ct, OS.seq_bk, startS, Es.len, tg_name, tg_tup, tgs_nil, tgs_cons, Tgs.len, Lvs.len, setAll, List.getElem?_cons_zero, List.getElem?_cons_succ, List.set_cons_zero, List.set_cons_succ, List.map_cons, List.map_nil, List.cons_append, List.nil_append, List.replicate, List.length_cons, List.length_nil, Nat.reduceAdd, Nat.reduceSub, if_true, if_false, if_pos, reduceIte, reduceCtorEq, finC, blA, argF, plainSh, List.range', fillA, callF, Option.map_some, Option.bind_some, Option.map_none, Option.bind_none, and_self, true_and, and_true, intA, wipeS, Bool.not_true, Bool.not_false, Bool.false_eq_true, decide_true, decide_false, Bool.true_eq_false, binA, cmpO, cmpA, mtF, biF, Mt.ty, bmF, tyA, truthO, truthA, truthD, ne_eq, not_true_eq_false, not_false_eq_true, String.reduceBEq, beq_self_eq_true, hk, K.i_own_own]
theorem crun_ok (K : Core T) (I : Img T) (R : Run T) (c : Clo h) (B : b.Ok) {p : Nat} {ws : List Str} (hr : b.row ws) (hp : p < b.size) (hl : ws.length < 1000) : callN T (n + 7) 70 [.d b.o, .d (.int p), .d (.tup (sL ws))] h = .ok (.d .non) h := by
  have e1 := chabit_ok (n := n + 5) (b := b) K R c
  have e2 := cplace_ok (n := n + 3) K R c B hp
  have e3 := crow_ok (n := n) K I R c B hr hl
  replace e1 : callN T (n + 6) 40 _ _ = _ := e1
  replace e2 : callN T (n + 6) 63 _ _ = _ := e2
  refine callN_nx (s := [some (.d b.o), some (.d (.int p)), some (.d (.tup (sL ws)))]) R.f70 rfl ?_ (retD0 c)
  simp -implicitDefEqProofs only [fn70_a0, fn70_a1, fn70_a2, exSs, exS1, ev, evT, evP, evs, evB, evo_none, evo_some, evc_none, evc_some, evi_val, evi_rng, evi_enum, evL, evLs, vt, getS, opt_some, optH_some, Out.bind_ok, Out.bind_ex, Out.st_ok, Out.st_ex, OS.seq_nx, OS.seq_rt, OS.seq_ex, OS.seq_ct, OS.seq_bk, startS, Es.len, tg_name, tg_tup, tgs_nil, tgs_cons, Tgs.len, Lvs.len, setAll, List.getElem?_cons_zero, List.getElem?_cons_succ, List.set_cons_zero, List.set_cons_succ, List.map_cons, List.map_nil, List.cons_append, List.nil_append, List.replicate, List.length_cons, List.length_nil, Nat.reduceAdd, Nat.reduceSub, if_true, if_false, if_pos, reduceIte, reduceCtorEq, finC, blA, argF, plainSh, List.range', fillA, callF, Option.map_some, Option.bind_some, Option.map_none, Option.bind_none, and_self, true_and, and_true, intA, wipeS, Bool.not_true, Bool.not_false, Bool.false_eq_true, decide_true, decide_false, Bool.true_eq_false, binA, cmpO, cmpA, mtF, biF, Mt.ty, bmF, tyA, truthO, truthA, truthD, ne_eq, not_true_eq_false, not_false_eq_true, String.reduceBEq, beq_self_eq_true, R.s40, R.n40, e1, R.s63, R.n63, e2, R.s69, R.n69, e3]
def Hb.poss (b : Hb) (p : Nat) (ws : List Str) : List Nat := (List.range (ws.length + 1)).map (b.pos p ws)
theorem walk_ok (f71 : T.fn 71 = some fn71) (K : Core T) (I : Img T) (R : Run T) (c : Clo h) (B : b.Ok) {p : Nat} {ws : List Str} (hr : b.row ws) (hp : p < b.size) (hl : ws.length < 1000) : callN T (n + 8) 71 [.d b.o, .d (.int p), .d (.tup (sL ws))] h = .ok (.d (.tup (iL (b.poss p ws)))) h := by
  have e1 := crun_ok (n := n) K I R c B hr hp hl
  have e2 := first_ok (n := n + 5) (p := p) (b := b) K R c
  have e3 := way_ok (n := n + 3) K I R c B hr hp hl
  replace e2 : callN T (n + 7) 66 _ _ = _ := e2
  replace e3 : callN T (n + 7) 67 _ _ = _ := e3
  have hc := comp_map (T := T) (C := callN T (n + 7)) (it := .val (.call 67 [] (.cons (.var 0) (.cons (.call 66 [] (.cons (.var 0) (.cons (.var 1) .nil)) .nil) (.cons (.var 2) .nil))) .nil)) (i := 3) (e := fn71_x0) (own := [3]) (s := [some (.d b.o), some (.d (.int p)), some (.d (.tup (sL ws))), none]) (h := h) (h1 := h) (xs := (b.way p ws ws.length).map .d) (m := none) (f := fun x => match x with | .d (.tup (y :: _)) => y | _ => .non)
    (by simp -implicitDefEqProofs only [exSs, exS1, ev, evT, evP, evs, evB, evo_none, evo_some, evc_none, evc_some, evi_val, evi_rng, evi_enum, evL, evLs, vt, getS, opt_some, optH_some, Out.bind_ok, Out.bind_ex, Out.st_ok, Out.st_ex, OS.seq_nx, OS.seq_rt, OS.seq_ex, OS.seq_ct, OS.seq_bk, startS, Es.len, tg_name, tg_tup, tgs_nil, tgs_cons, Tgs.len, Lvs.len, setAll, List.getElem?_cons_zero, List.getElem?_cons_succ, List.set_cons_zero, List.set_cons_succ, List.map_cons, List.map_nil, List.cons_append, List.nil_append, List.replicate, List.length_cons, List.length_nil, Nat.reduceAdd, Nat.reduceSub, if_true, if_false, if_pos, reduceIte, reduceCtorEq, finC, blA, argF, plainSh, List.range', fillA, callF, Option.map_some, Option.bind_some, Option.map_none, Option.bind_none, and_self, true_and, and_true, intA, wipeS, Bool.not_true, Bool.not_false, Bool.false_eq_true, decide_true, decide_false, Bool.true_eq_false, binA, cmpO, cmpA, mtF, biF, Mt.ty, bmF, tyA, truthO, truthA, truthD, ne_eq, not_true_eq_false, not_false_eq_true, String.reduceBEq, beq_self_eq_true, R.s66, R.n66, e2, R.s67, R.n67, e3, iterV])
    (fun y hy => by
      simp only [Hb.way, List.map_map, List.mem_map] at hy
      obtain ⟨k, _, rfl⟩ := hy
      simp -implicitDefEqProofs only [fn71_x0, exSs, exS1, ev, evT, evP, evs, evB, evo_none, evo_some, evc_none, evc_some, evi_val, evi_rng, evi_enum, evL, evLs, vt, getS, opt_some, optH_some, Out.bind_ok, Out.bind_ex, Out.st_ok, Out.st_ex, OS.seq_nx, OS.seq_rt, OS.seq_ex, OS.seq_ct, OS.seq_bk, startS, Es.len, tg_name, tg_tup, tgs_nil, tgs_cons, Tgs.len, Lvs.len, setAll, List.getElem?_cons_zero, List.getElem?_cons_succ, List.set_cons_zero, List.set_cons_succ, List.map_cons, List.map_nil, List.cons_append, List.nil_append, List.replicate, List.length_cons, List.length_nil, Nat.reduceAdd, Nat.reduceSub, if_true, if_false, if_pos, reduceIte, reduceCtorEq, finC, blA, argF, plainSh, List.range', fillA, callF, Option.map_some, Option.bind_some, Option.map_none, Option.bind_none, and_self, true_and, and_true, intA, wipeS, Bool.not_true, Bool.not_false, Bool.false_eq_true, decide_true, decide_false, Bool.true_eq_false, binA, cmpO, cmpA, mtF, biF, Mt.ty, bmF, tyA, truthO, truthA, truthD, ne_eq, not_true_eq_false, not_false_eq_true, String.reduceBEq, beq_self_eq_true, Function.comp, Hb.st, stD, subF_tup, atI_0])
    (lt_size (by simp [Hb.way]; omega))
  have hm : ((b.way p ws ws.length).map A.d).map (fun x => match x with | .d (.tup (y :: _)) => y | _ => D.non) = iL (b.poss p ws) := by
    simp [Hb.way, Hb.poss, iL, Hb.st, stD, Function.comp_def]
  rw [hm] at hc
  refine callN_rt f71 rfl ?_ (retD0 c)
  simp -implicitDefEqProofs only [fn71_a0, fn71_a1, exSs, exS1, ev, evT, evP, evs, evB, evo_none, evo_some, evc_none, evc_some, evi_val, evi_rng, evi_enum, evL, evLs, vt, getS, opt_some, optH_some, Out.bind_ok, Out.bind_ex, Out.st_ok, Out.st_ex, OS.seq_nx, OS.seq_rt, OS.seq_ex, OS.seq_ct, OS.seq_bk, startS, Es.len, tg_name, tg_tup, tgs_nil, tgs_cons, Tgs.len, Lvs.len, setAll, List.getElem?_cons_zero, List.getElem?_cons_succ, List.set_cons_zero, List.set_cons_succ, List.map_cons, List.map_nil, List.cons_append, List.nil_append, List.replicate, List.length_cons, List.length_nil, Nat.reduceAdd, Nat.reduceSub, if_true, if_false, if_pos, reduceIte, reduceCtorEq, finC, blA, argF, plainSh, List.range', fillA, callF, Option.map_some, Option.bind_some, Option.map_none, Option.bind_none, and_self, true_and, and_true, intA, wipeS, Bool.not_true, Bool.not_false, Bool.false_eq_true, decide_true, decide_false, Bool.true_eq_false, binA, cmpO, cmpA, mtF, biF, Mt.ty, bmF, tyA, truthO, truthA, truthD, ne_eq, not_true_eq_false, not_false_eq_true, String.reduceBEq, beq_self_eq_true, R.s70, R.n70, e1, hc, tupleA_lst]
end
end MP
end S_RWb
section S_RLa
/-! RLa: the law's own page, the urn made. -/
namespace MP
open PySem L2
section
variable {T : Tab} {n u : Nat} {h0 h h1 h2 : Hh} {b : Hb}
theorem addA_lst {xs ys : List D} (hl : xs.length + ys.length < 1000000) : addA (.d (.lst xs)) (.d (.lst ys)) h = some (.d (.lst (xs ++ ys))) := by
  have e : allD (xs.map .d ++ ys.map .d) = some (xs ++ ys) := by rw [← List.map_append, allD_map]
  have hz : (xs ++ ys).length ≤ sizeLine := lt_size (by simpa using hl)
  simp only [addA, asLst, e, hz, if_true]
theorem addA_ref {j : Nat} {xs ys : List D} (hj : h[j]? = some (.lst (xs.map .d))) (hl : xs.length + ys.length < 1000000) : addA (.ref j) (.d (.lst ys)) h = some (.d (.lst (xs ++ ys))) := by
  have e : allD (xs.map .d ++ ys.map .d) = some (xs ++ ys) := by rw [← List.map_append, allD_map]
  have hz : (xs ++ ys).length ≤ sizeLine := lt_size (by simpa using hl)
  simp only [addA, asLst, hj, e, hz, if_true]
theorem listA_tup {xs : List D} (hl : xs.length < 1000000) : listA false [.d (.tup xs)] h = some (.d (.lst xs), h) := by
  simp only [listA, asSeq]; exact newL_d (lt_size hl)
theorem pt0 : subF (.d b.parts) (.d (.int 0)) h = some (.d (.int b.size)) := by simp only [Hb.parts, Hb.fs, subF_tup, List.map_cons, atI_0]
theorem pt1 : subF (.d b.parts) (.d (.int 1)) h = some (.d (.tup (b.turns.map turnD))) := by simp only [Hb.parts, Hb.fs, subF_tup, List.map_cons, atI_1]
theorem pt2 : subF (.d b.parts) (.d (.int 2)) h = some (.d (.tup (b.cal.map enD))) := by simp only [Hb.parts, Hb.fs, subF_tup, List.map_cons, atI_2]
theorem pt3 : subF (.d b.parts) (.d (.int 3)) h = some (.d (.tup (sL b.slips))) := by simp only [Hb.parts, Hb.fs, subF_tup, List.map_cons, atI_3]
theorem pt4 : subF (.d b.parts) (.d (.int 4)) h = some (.d (.int b.gap)) := by simp only [Hb.parts, Hb.fs, subF_tup, List.map_cons, atI_4]
theorem lpage_ok (f21 : T.fn 21 = some fn21) (B : b.Ok) (c : Clo h) : callN T (n + 1) 21 [.d b.parts] h = .ok (.d (.str (page b))) h := by
  have b2 := B.s2; have b4 := B.g2; have b5 := B.t1; have b6 := B.c2
  have hs : ∀ (k : Nat) (C : CallT) (h : Hh), k < 10 → strO C T.str [.d (.int k)] h = some (.d (.str (natS k)), h) := fun k C h hk => strO_nat hk
  have hrow : ∀ ts : List (Str × List Nat), (sL ((("habit " ++ natS b.size) : Str) :: ts.map turnRow)).map A.d = (sL ((("habit " ++ natS b.size) : Str) :: ts.map turnRow)).map A.d := fun _ => rfl
  obtain ⟨s', h', e', v2, v3, hs', hh'⟩ := loopF_inv (ft := (Tg.tup (.cons (.name 2) (.cons (.name 3) .nil))).set) (fb := exSs T (callN T n) fn21_b0) (m := none) (h0 := h ++ [.lst ((sL [("habit " ++ natS b.size : Str)]).map .d)]) (xs := (b.turns.map turnD).map .d) (s := [some (.d b.parts), some (.ref h.length), none, none, none]) (h := h ++ [.lst ((sL [("habit " ++ natS b.size : Str)]).map .d)])
    (fun k s h' => ∃ v2 v3, s = [some (.d b.parts), some (.ref h.length), v2, v3, none] ∧ h' = h ++ [.lst ((sL ((("habit " ++ natS b.size) : Str) :: (b.turns.take k).map turnRow)).map .d)])
    (fun k x s2 h2 hk ⟨v2, v3, e1, e2⟩ => by
      rw [List.getElem?_map, List.getElem?_map] at hk
      cases ht : b.turns[k]? with
      | none => rw [ht] at hk; cases hk
      | some t =>
        rw [ht] at hk
        cases hk
        subst e1 e2
        have hm' := List.mem_of_getElem? ht
        refine ⟨[some (.d b.parts), some (.ref h.length), some (.d (.str t.1)), some (.d (.tup (iL t.2))), none], _, _, ?_, .inl ?_, trivial, some (.d (.str t.1)), some (.d (.tup (iL t.2))), rfl, rfl⟩
        · simp -implicitDefEqProofs only [exSs, exS1, ev, evT, evP, evs, evB, evo_none, evo_some, evc_none, evc_some, evi_val, evi_rng, evi_enum, evL, evLs, vt, getS, opt_some, optH_some, Out.bind_ok, Out.bind_ex, Out.st_ok, Out.st_ex, OS.seq_nx, OS.seq_rt, OS.seq_ex, OS.seq_ct, OS.seq_bk, startS, Es.len, tg_name, tg_tup, tgs_nil, tgs_cons, Tgs.len, Lvs.len, setAll, List.getElem?_cons_zero, List.getElem?_cons_succ, List.set_cons_zero, List.set_cons_succ, List.map_cons, List.map_nil, List.cons_append, List.nil_append, List.replicate, List.length_cons, List.length_nil, Nat.reduceAdd, Nat.reduceSub, if_true, if_false, if_pos, reduceIte, reduceCtorEq, finC, blA, argF, plainSh, List.range', fillA, callF, Option.map_some, Option.bind_some, Option.map_none, Option.bind_none, and_self, true_and, and_true, intA, wipeS, Bool.not_true, Bool.not_false, Bool.false_eq_true, decide_true, decide_false, Bool.true_eq_false, clsA, binA, cmpO, cmpA, mtF, biF, Mt.ty, bmF, tyA, truthO, truthA, truthD, ne_eq, not_true_eq_false, not_false_eq_true, String.reduceBEq, beq_self_eq_true, turnD]
        · have hd := digits (T := T) (C := callN T n) (tb := T.str) (h := h ++ [.lst ((sL ((("habit " ++ natS b.size) : Str) :: (b.turns.take k).map turnRow)).map .d)]) (l := t.2) (it := .val (.var 3)) (i := 4) (e := fn21_x0) (own := [4]) (s := [some (.d b.parts), some (.ref h.length), some (.d (.str t.1)), some (.d (.tup (iL t.2))), none]) (fun k hk => by have := perm_lt (B.t4 t hm') hk; omega) (by have := (B.t4 t hm').length_eq; simp at this; omega)
            (by simp -implicitDefEqProofs only [exSs, exS1, ev, evT, evP, evs, evB, evo_none, evo_some, evc_none, evc_some, evi_val, evi_rng, evi_enum, evL, evLs, vt, getS, opt_some, optH_some, Out.bind_ok, Out.bind_ex, Out.st_ok, Out.st_ex, OS.seq_nx, OS.seq_rt, OS.seq_ex, OS.seq_ct, OS.seq_bk, startS, Es.len, tg_name, tg_tup, tgs_nil, tgs_cons, Tgs.len, Lvs.len, setAll, List.getElem?_cons_zero, List.getElem?_cons_succ, List.set_cons_zero, List.set_cons_succ, List.map_cons, List.map_nil, List.cons_append, List.nil_append, List.replicate, List.length_cons, List.length_nil, Nat.reduceAdd, Nat.reduceSub, if_true, if_false, if_pos, reduceIte, reduceCtorEq, finC, blA, argF, plainSh, List.range', fillA, callF, Option.map_some, Option.bind_some, Option.map_none, Option.bind_none, and_self, true_and, and_true, intA, wipeS, Bool.not_true, Bool.not_false, Bool.false_eq_true, decide_true, decide_false, Bool.true_eq_false, clsA, binA, cmpO, cmpA, mtF, biF, Mt.ty, bmF, tyA, truthO, truthA, truthD, ne_eq, not_true_eq_false, not_false_eq_true, String.reduceBEq, beq_self_eq_true, iterV])
            (fun k hk => by simp -implicitDefEqProofs only [fn21_x0, exSs, exS1, ev, evT, evP, evs, evB, evo_none, evo_some, evc_none, evc_some, evi_val, evi_rng, evi_enum, evL, evLs, vt, getS, opt_some, optH_some, Out.bind_ok, Out.bind_ex, Out.st_ok, Out.st_ex, OS.seq_nx, OS.seq_rt, OS.seq_ex, OS.seq_ct, OS.seq_bk, startS, Es.len, tg_name, tg_tup, tgs_nil, tgs_cons, Tgs.len, Lvs.len, setAll, List.getElem?_cons_zero, List.getElem?_cons_succ, List.set_cons_zero, List.set_cons_succ, List.map_cons, List.map_nil, List.cons_append, List.nil_append, List.replicate, List.length_cons, List.length_nil, Nat.reduceAdd, Nat.reduceSub, if_true, if_false, if_pos, reduceIte, reduceCtorEq, finC, blA, argF, plainSh, List.range', fillA, callF, Option.map_some, Option.bind_some, Option.map_none, Option.bind_none, and_self, true_and, and_true, intA, wipeS, Bool.not_true, Bool.not_false, Bool.false_eq_true, decide_true, decide_false, Bool.true_eq_false, clsA, binA, cmpO, cmpA, mtF, biF, Mt.ty, bmF, tyA, truthO, truthA, truthD, ne_eq, not_true_eq_false, not_false_eq_true, String.reduceBEq, beq_self_eq_true, hs k _ _ hk])
          have hj := fun h => joinM_ok (x := " ") (h := h) (turn_w B hm').1 (Nat.le_trans (turn_w B hm').2 (by decide)) (by decide) (by rw [sp1]; decide)
          have hl := fun h => lst_of (h := h) (xs := [A.d (.str "turn"), A.d (.str t.1)]) (ds := sL ["turn", t.1]) rfl (by simp [sL])
          have ha := fun h => addA_lst (h := h) (xs := sL ["turn", t.1]) (ys := sL (t.2.map natS)) (by have := (turn_w B hm').2; simp [sL] at *; omega)
          have ea : sL ["turn", t.1] ++ sL (t.2.map natS) = sL ("turn" :: t.1 :: t.2.map natS) := by simp [sL]
          have hfl : ((sL ((("habit " ++ natS b.size) : Str) :: (b.turns.take k).map turnRow)).map A.d).length < sizeLine := lt_size' (by simp [sL]; omega)
          have ek : (sL ((("habit " ++ natS b.size) : Str) :: (b.turns.take (k + 1)).map turnRow)).map A.d = (sL ((("habit " ++ natS b.size) : Str) :: (b.turns.take k).map turnRow)).map A.d ++ [A.d (.str (Txt.join " " ("turn" :: t.1 :: t.2.map natS)))] := by
            rw [List.take_add_one, ht]; simp [sL, turnRow]
          rw [ek]
          simp -implicitDefEqProofs only [fn21_b0, exSs, exS1, ev, evT, evP, evs, evB, evo_none, evo_some, evc_none, evc_some, evi_val, evi_rng, evi_enum, evL, evLs, vt, getS, opt_some, optH_some, Out.bind_ok, Out.bind_ex, Out.st_ok, Out.st_ex, OS.seq_nx, OS.seq_rt, OS.seq_ex, OS.seq_ct, OS.seq_bk, startS, Es.len, tg_name, tg_tup, tgs_nil, tgs_cons, Tgs.len, Lvs.len, setAll, List.getElem?_cons_zero, List.getElem?_cons_succ, List.set_cons_zero, List.set_cons_succ, List.map_cons, List.map_nil, List.cons_append, List.nil_append, List.replicate, List.length_cons, List.length_nil, Nat.reduceAdd, Nat.reduceSub, if_true, if_false, if_pos, reduceIte, reduceCtorEq, finC, blA, argF, plainSh, List.range', fillA, callF, Option.map_some, Option.bind_some, Option.map_none, Option.bind_none, and_self, true_and, and_true, intA, wipeS, Bool.not_true, Bool.not_false, Bool.false_eq_true, decide_true, decide_false, Bool.true_eq_false, clsA, binA, cmpO, cmpA, mtF, biF, Mt.ty, bmF, tyA, truthO, truthA, truthD, ne_eq, not_true_eq_false, not_false_eq_true, String.reduceBEq, beq_self_eq_true, get_app, hd, hl, ha, ea, hj, appendM, hfl, set_app])
    ⟨none, none, rfl, by simp [sL]⟩
  have hfull : b.turns.take ((b.turns.map turnD).map A.d).length = b.turns := by simp
  rw [hfull] at hh'
  have ez : (("habit " : Str)).length + (natS b.size).length ≤ sizeLine := lt_size (by rw [wl.2.2.2, natS_len _ (by omega)]; decide)
  have hn1 : newL true [A.d (.str ("habit " ++ natS b.size))] h = some (.ref h.length, h ++ [.lst ((sL [("habit " ++ natS b.size : Str)]).map .d)]) := newL_m (by simp)
  subst hs' hh'
  have hc2 := entryW (T := T) (C := callN T n) (h := h ++ [.lst ((sL ((("habit " ++ natS b.size) : Str) :: b.turns.map turnRow)).map .d)]) (l := b.cal) (it := .val (.sub (.var 0) (.k (.int 2)))) (i := 4) (e := fn21_x1) (own := [4]) (s := [some (.d b.parts), some (.ref h.length), v2, v3, none]) (fun k hk => by have := B.c4 k hk; omega) (by omega)
    (by simp -implicitDefEqProofs only [exSs, exS1, ev, evT, evP, evs, evB, evo_none, evo_some, evc_none, evc_some, evi_val, evi_rng, evi_enum, evL, evLs, vt, getS, opt_some, optH_some, Out.bind_ok, Out.bind_ex, Out.st_ok, Out.st_ex, OS.seq_nx, OS.seq_rt, OS.seq_ex, OS.seq_ct, OS.seq_bk, startS, Es.len, tg_name, tg_tup, tgs_nil, tgs_cons, Tgs.len, Lvs.len, setAll, List.getElem?_cons_zero, List.getElem?_cons_succ, List.set_cons_zero, List.set_cons_succ, List.map_cons, List.map_nil, List.cons_append, List.nil_append, List.replicate, List.length_cons, List.length_nil, Nat.reduceAdd, Nat.reduceSub, if_true, if_false, if_pos, reduceIte, reduceCtorEq, finC, blA, argF, plainSh, List.range', fillA, callF, Option.map_some, Option.bind_some, Option.map_none, Option.bind_none, and_self, true_and, and_true, intA, wipeS, Bool.not_true, Bool.not_false, Bool.false_eq_true, decide_true, decide_false, Bool.true_eq_false, clsA, binA, cmpO, cmpA, mtF, biF, Mt.ty, bmF, tyA, truthO, truthA, truthD, ne_eq, not_true_eq_false, not_false_eq_true, String.reduceBEq, beq_self_eq_true, pt2, iterV])
    (fun k hk => by simp -implicitDefEqProofs only [fn21_x1, exSs, exS1, ev, evT, evP, evs, evB, evo_none, evo_some, evc_none, evc_some, evi_val, evi_rng, evi_enum, evL, evLs, vt, getS, opt_some, optH_some, Out.bind_ok, Out.bind_ex, Out.st_ok, Out.st_ex, OS.seq_nx, OS.seq_rt, OS.seq_ex, OS.seq_ct, OS.seq_bk, startS, Es.len, tg_name, tg_tup, tgs_nil, tgs_cons, Tgs.len, Lvs.len, setAll, List.getElem?_cons_zero, List.getElem?_cons_succ, List.set_cons_zero, List.set_cons_succ, List.map_cons, List.map_nil, List.cons_append, List.nil_append, List.replicate, List.length_cons, List.length_nil, Nat.reduceAdd, Nat.reduceSub, if_true, if_false, if_pos, reduceIte, reduceCtorEq, finC, blA, argF, plainSh, List.range', fillA, callF, Option.map_some, Option.bind_some, Option.map_none, Option.bind_none, and_self, true_and, and_true, intA, wipeS, Bool.not_true, Bool.not_false, Bool.false_eq_true, decide_true, decide_false, Bool.true_eq_false, clsA, binA, cmpO, cmpA, mtF, biF, Mt.ty, bmF, tyA, truthO, truthA, truthD, ne_eq, not_true_eq_false, not_false_eq_true, String.reduceBEq, beq_self_eq_true, hs k _ _ hk])
    (fun x => by simp -implicitDefEqProofs only [fn21_x1, exSs, exS1, ev, evT, evP, evs, evB, evo_none, evo_some, evc_none, evc_some, evi_val, evi_rng, evi_enum, evL, evLs, vt, getS, opt_some, optH_some, Out.bind_ok, Out.bind_ex, Out.st_ok, Out.st_ex, OS.seq_nx, OS.seq_rt, OS.seq_ex, OS.seq_ct, OS.seq_bk, startS, Es.len, tg_name, tg_tup, tgs_nil, tgs_cons, Tgs.len, Lvs.len, setAll, List.getElem?_cons_zero, List.getElem?_cons_succ, List.set_cons_zero, List.set_cons_succ, List.map_cons, List.map_nil, List.cons_append, List.nil_append, List.replicate, List.length_cons, List.length_nil, Nat.reduceAdd, Nat.reduceSub, if_true, if_false, if_pos, reduceIte, reduceCtorEq, finC, blA, argF, plainSh, List.range', fillA, callF, Option.map_some, Option.bind_some, Option.map_none, Option.bind_none, and_self, true_and, and_true, intA, wipeS, Bool.not_true, Bool.not_false, Bool.false_eq_true, decide_true, decide_false, Bool.true_eq_false, clsA, binA, cmpO, cmpA, mtF, biF, Mt.ty, bmF, tyA, truthO, truthA, truthD, ne_eq, not_true_eq_false, not_false_eq_true, String.reduceBEq, beq_self_eq_true, strO_str])
  have hj2 := fun h => joinM_ok (x := " ") (h := h) (cal_w B).1 (Nat.le_trans (cal_w B).2 (by decide)) (by decide) (by rw [sp1]; decide)
  have hl2 := fun h => lst_of (h := h) (xs := [A.d (.str "calendar")]) (ds := sL ["calendar"]) rfl (by simp [sL])
  have ha2 := fun h => addA_lst (h := h) (xs := sL ["calendar"]) (ys := sL (b.cal.map enS)) (by simp [sL]; omega)
  have ea2 : sL ["calendar"] ++ sL (b.cal.map enS) = sL ("calendar" :: b.cal.map enS) := by simp [sL]
  have hfl : ((sL ((("habit " ++ natS b.size) : Str) :: b.turns.map turnRow)).map A.d).length < sizeLine := lt_size' (by simp [sL]; omega)
  have sl2 := slips_len _ B.sl
  have hj3 := fun h => joinM_ok (x := " ") (h := h) (slip_w B).1 (Nat.le_trans (slip_w B).2 (by decide)) (by decide) (by rw [sp1]; decide)
  have hl3 := fun h => lst_of (h := h) (xs := [A.d (.str "slips")]) (ds := sL ["slips"]) rfl (by simp [sL])
  have hl4 := fun h => lst_of (h := h) (xs := [A.d (.str (natS b.gap))]) (ds := sL [natS b.gap]) rfl (by simp [sL])
  have hli := fun h => listA_tup (h := h) (xs := sL b.slips) (by simp [sL]; omega)
  have ha3 := fun h => addA_lst (h := h) (xs := sL ["slips"]) (ys := sL b.slips) (by simp [sL]; omega)
  have ha4 := fun h => addA_lst (h := h) (xs := sL ["slips"] ++ sL b.slips) (ys := sL [natS b.gap]) (by simp [sL]; omega)
  have ea3 : sL ["slips"] ++ sL b.slips ++ sL [natS b.gap] = sL ("slips" :: (b.slips ++ [natS b.gap])) := by simp [sL]
  have hl5 := fun h => lst_of (h := h) (xs := [A.d (.str (slipRow b))]) (ds := sL [slipRow b]) rfl (by simp [sL])
  have e3 : Txt.join " " ("slips" :: (b.slips ++ [natS b.gap])) = slipRow b := rfl
  have ha5 := addA_ref (h := h ++ [.lst ((sL ((("habit " ++ natS b.size) : Str) :: b.turns.map turnRow)).map .d ++ [A.d (.str (calRow b))])]) (j := h.length) (xs := sL ((("habit " ++ natS b.size) : Str) :: (b.turns.map turnRow ++ [calRow b]))) (ys := sL [slipRow b]) (by rw [get_app]; simp [sL]) (by simp [sL]; omega)
  have ea5 : sL ((("habit " ++ natS b.size) : Str) :: (b.turns.map turnRow ++ [calRow b])) ++ sL [slipRow b] = sL (("habit " ++ natS b.size) :: (b.turns.map turnRow ++ [calRow b, slipRow b])) := by simp [sL]
  have hj4 := fun h => joinM_ok (x := "\n") (h := h) (page_w B).1 (Nat.le_trans (page_w B).2 (by decide)) (by decide) (by rw [nl1]; decide)
  have e2 : Txt.join " " ("calendar" :: b.cal.map enS) = calRow b := rfl
  have e4 : Txt.join "\n" (("habit " ++ natS b.size) :: (b.turns.map turnRow ++ [calRow b, slipRow b])) = page b := rfl
  refine callN_rt (h1 := h ++ [.lst ((sL ((("habit " ++ natS b.size) : Str) :: b.turns.map turnRow)).map .d ++ [A.d (.str (calRow b))])]) f21 rfl ?_ (retD c _)
  simp -implicitDefEqProofs only [fn21_a0, fn21_a1, fn21_a2, exSs, exS1, ev, evT, evP, evs, evB, evo_none, evo_some, evc_none, evc_some, evi_val, evi_rng, evi_enum, evL, evLs, vt, getS, opt_some, optH_some, Out.bind_ok, Out.bind_ex, Out.st_ok, Out.st_ex, OS.seq_nx, OS.seq_rt, OS.seq_ex, OS.seq_ct, OS.seq_bk, startS, Es.len, tg_name, tg_tup, tgs_nil, tgs_cons, Tgs.len, Lvs.len, setAll, List.getElem?_cons_zero, List.getElem?_cons_succ, List.set_cons_zero, List.set_cons_succ, List.map_cons, List.map_nil, List.cons_append, List.nil_append, List.replicate, List.length_cons, List.length_nil, Nat.reduceAdd, Nat.reduceSub, if_true, if_false, if_pos, reduceIte, reduceCtorEq, finC, blA, argF, plainSh, List.range', fillA, callF, Option.map_some, Option.bind_some, Option.map_none, Option.bind_none, and_self, true_and, and_true, intA, wipeS, Bool.not_true, Bool.not_false, Bool.false_eq_true, decide_true, decide_false, Bool.true_eq_false, clsA, binA, cmpO, cmpA, mtF, biF, Mt.ty, bmF, tyA, truthO, truthA, truthD, ne_eq, not_true_eq_false, not_false_eq_true, String.reduceBEq, beq_self_eq_true, pt0, pt1, pt2, hs b.size _ _ (show b.size < 10 by omega), addA_int, addA_str, subA, mulA, fdivA, modA, powA, ordA, negA, intTA, divmodA, absA, lenO, lenA, maxA, minA, max2A, min2A, ez, hn1, iterV, e', hc2, get_app, hl2]
  simp -implicitDefEqProofs only [ha2, ea2, exSs, exS1, ev, evT, evP, evs, evB, evo_none, evo_some, evc_none, evc_some, evi_val, evi_rng, evi_enum, evL, evLs, vt, getS, opt_some, optH_some, Out.bind_ok, Out.bind_ex, Out.st_ok, Out.st_ex, OS.seq_nx, OS.seq_rt, OS.seq_ex, OS.seq_ct, OS.seq_bk, startS, Es.len, tg_name, tg_tup, tgs_nil, tgs_cons, Tgs.len, Lvs.len, setAll, List.getElem?_cons_zero, List.getElem?_cons_succ, List.set_cons_zero, List.set_cons_succ, List.map_cons, List.map_nil, List.cons_append, List.nil_append, List.replicate, List.length_cons, List.length_nil, Nat.reduceAdd, Nat.reduceSub, if_true, if_false, if_pos, reduceIte, reduceCtorEq, finC, blA, argF, plainSh, List.range', fillA, callF, Option.map_some, Option.bind_some, Option.map_none, Option.bind_none, and_self, true_and, and_true, intA, wipeS, Bool.not_true, Bool.not_false, Bool.false_eq_true, decide_true, decide_false, Bool.true_eq_false, clsA, binA, cmpO, cmpA, mtF, biF, Mt.ty, bmF, tyA, truthO, truthA, truthD, ne_eq, not_true_eq_false, not_false_eq_true, String.reduceBEq, beq_self_eq_true, hj2, appendM, get_app, hfl, set_app, e2]
  simp -implicitDefEqProofs only [fn21_a3, exSs, exS1, ev, evT, evP, evs, evB, evo_none, evo_some, evc_none, evc_some, evi_val, evi_rng, evi_enum, evL, evLs, vt, getS, opt_some, optH_some, Out.bind_ok, Out.bind_ex, Out.st_ok, Out.st_ex, OS.seq_nx, OS.seq_rt, OS.seq_ex, OS.seq_ct, OS.seq_bk, startS, Es.len, tg_name, tg_tup, tgs_nil, tgs_cons, Tgs.len, Lvs.len, setAll, List.getElem?_cons_zero, List.getElem?_cons_succ, List.set_cons_zero, List.set_cons_succ, List.map_cons, List.map_nil, List.cons_append, List.nil_append, List.replicate, List.length_cons, List.length_nil, Nat.reduceAdd, Nat.reduceSub, if_true, if_false, if_pos, reduceIte, reduceCtorEq, finC, blA, argF, plainSh, List.range', fillA, callF, Option.map_some, Option.bind_some, Option.map_none, Option.bind_none, and_self, true_and, and_true, intA, wipeS, Bool.not_true, Bool.not_false, Bool.false_eq_true, decide_true, decide_false, Bool.true_eq_false, clsA, binA, cmpO, cmpA, mtF, biF, Mt.ty, bmF, tyA, truthO, truthA, truthD, ne_eq, not_true_eq_false, not_false_eq_true, String.reduceBEq, beq_self_eq_true, pt3, pt4, get_app, hl3, hli, ha3, hs b.gap _ _ (show b.gap < 10 by omega), hl4, ha4, ea3, hj3, e3, hl5, ha5, ea5, hj4, e4]
end
end MP
end S_RLa
section S_RUe
/-! RUe: the parts of a habit, drawn. -/
namespace MP
open PySem L2
section
variable {T : Tab} {n u : Nat} {h0 h h1 h2 : Hh}
def slips5 : List (List Str) := [[], ["forget"], ["forget", "twice"], ["twice"], ["forget"]]
def gaps8 : List Nat := [1, 1, 2, 2, 3, 4, 5, 6]
theorem slips5_ok : ∀ x ∈ slips5, x ∈ slipsL := by decide +kernel
theorem gaps8_ok : ∀ x ∈ gaps8, 1 ≤ x ∧ x ≤ 6 := by decide
theorem parts_ok (U : Urn T) {a b : Nat} (s : Sd u h0 h) (ha : 1 ≤ a) (ha2 : a ≤ 6) (hb : 1 ≤ b) (hb2 : b ≤ 6) : ∃ (q : Hb) (h1 : Hh), callN T (n + 3) 19 [.ref u, .d (.int a), .d (.int b)] h = .ok (.d q.parts) h1 ∧ Sd u h0 h1 ∧ q.Ok ∧ q.size ≤ a ∧ q.cal.length ≤ b := by
  obtain ⟨r, h1, e1, r1, r2, s1⟩ := take_ok U (n := n + 1) (m := a) s (by omega) (by omega)
  obtain ⟨z, rfl⟩ := Int.eq_ofNat_of_zero_le r1
  obtain ⟨r, h2, e2, r3, r4, s2⟩ := take_ok U (n := n + 1) (m := 5) s1 (by decide) (by decide)
  obtain ⟨y, rfl⟩ := Int.eq_ofNat_of_zero_le r3
  obtain ⟨xs, h3, e3, s3, x1, x2, x3⟩ := tags_ok U (n := n) (m := y) s2 (by omega)
  replace e1 : callN T (n + 2) _ _ _ = _ := e1
  replace e2 : callN T (n + 2) _ _ _ = _ := e2
  have ez : (1 : Int) + (z : Int) = ((1 + z : Nat) : Int) := by omega
  obtain ⟨ts, h4, e4, s4, t1, t2⟩ := turns_ok U (n := n) (m := 1 + z) (xs := xs) (s1 := some (.d (.int a))) (s2 := some (.d (.int b))) (s5 := none) (s7 := none) (s8 := none) (s9 := none) s3 (by omega) (by omega)
  have e4' : tupleA [.d (.lst (ts.map turnD))] h4 = some (.d (.tup (ts.map turnD)), h4) := tupleA_lst
  obtain ⟨r, h5, e5, r5, r6, s5⟩ := take_ok U (n := n + 1) (m := b) s4 (by omega) (by omega)
  obtain ⟨w, rfl⟩ := Int.eq_ofNat_of_zero_le r5
  replace e5 : callN T (n + 2) _ _ _ = _ := e5
  have ew : (1 : Int) + (w : Int) = ((1 + w : Nat) : Int) := by omega
  obtain ⟨es, h6, e6, s6, c1, c2, c3⟩ := entries_ok U (n := n) (m := 1 + z) (k := 1 + w) (xs := xs) (s1 := some (.d (.int a))) (s2 := some (.d (.int b))) (s5 := some (.d (.tup (ts.map turnD)))) (s6 := none) (s7 := none) (s9 := none) s5 (by omega) (by omega) (by omega) (by omega)
  have e6' : compF false (evi T (callN T (n + 2)) (.rng (.cons (.bin .add (.k (.int 1)) (.call 15 [] (.cons (.var 0) (.cons (.var 2) .nil)) .nil)) .nil))) (Tg.name 8).set (evc T (callN T (n + 2)) .none) (evP T (callN T (n + 2)) fn19_x1).v [8] [some (.ref u), some (.d (.int a)), some (.d (.int b)), some (.d (.int (1 + z : Nat))), some (.d (.lst (sL xs))), some (.d (.tup (ts.map turnD))), none, none, none, none] h4 = .ok (.d (.lst (es.map enD))) h6 := by
    refine compF_of (p := (rngL 0 (1 + w), none)) (h1 := h5) (r := (.d (.lst (es.map enD)), h6)) ?_ e6 (newL_d (lt_size ?_))
    · simp -implicitDefEqProofs only [exSs, exS1, ev, evT, evP, evs, evB, evo_none, evo_some, evc_none, evc_some, evi_val, evi_rng, evi_enum, evL, evLs, vt, getS, opt_some, optH_some, Out.bind_ok, Out.bind_ex, Out.st_ok, Out.st_ex, OS.seq_nx, OS.seq_rt, OS.seq_ex, OS.seq_ct, OS.seq_bk, startS, Es.len, tg_name, tg_tup, tgs_nil, tgs_cons, Tgs.len, Lvs.len, setAll, List.getElem?_cons_zero, List.getElem?_cons_succ, List.set_cons_zero, List.set_cons_succ, List.map_cons, List.map_nil, List.cons_append, List.nil_append, List.replicate, List.length_cons, List.length_nil, Nat.reduceAdd, Nat.reduceSub, if_true, if_false, if_pos, reduceIte, reduceCtorEq, finC, blA, argF, plainSh, List.range', fillA, callF, Option.map_some, Option.bind_some, Option.map_none, Option.bind_none, and_self, true_and, and_true, intA, wipeS, Bool.not_true, Bool.not_false, Bool.false_eq_true, decide_true, decide_false, Bool.true_eq_false, clsA, binA, cmpO, cmpA, mtF, biF, Mt.ty, bmF, tyA, truthO, truthA, truthD, ne_eq, not_true_eq_false, not_false_eq_true, String.reduceBEq, beq_self_eq_true, addA_int, addA_str, subA, mulA, fdivA, modA, powA, ordA, negA, intTA, divmodA, absA, lenO, lenA, maxA, minA, max2A, min2A, U.s15, U.n15, e5, ew, rng1 (show 1 + w < 1000000 by omega)]
    · simp; omega
  obtain ⟨x, h7, e7, hx, s7⟩ := of_ok U (n := n) (xs := slips5.map fun l => .tup (sL l)) s6 (by simp [slips5]) (by simp [slips5])
  obtain ⟨sl, hsl, rfl⟩ := List.mem_map.mp hx
  obtain ⟨x, h8, e8, hx, s8⟩ := of_ok U (n := n) (xs := iL gaps8) s7 (by simp [gaps8, iL]) (by simp [gaps8, iL])
  obtain ⟨gp, hgp, rfl⟩ := List.mem_map.mp hx
  have hg := gaps8_ok gp hgp
  refine ⟨⟨1 + z, ts, es, sl, gp⟩, h8, ?_, s8, ?_, by show 1 + z ≤ a; omega, by show es.length ≤ b; omega⟩
  · have hn7 : ∀ h, newL false [A.d (.tup []), A.d (.tup [.str "forget"]), A.d (.tup [.str "forget", .str "twice"]), A.d (.tup [.str "twice"]), A.d (.tup [.str "forget"])] h = some (.d (.lst (slips5.map fun l => .tup (sL l))), h) := fun h => newL_d (ds := slips5.map fun l => .tup (sL l)) (lt_size (by simp [slips5]))
    have hn8 : ∀ h, newL false [A.d (.int 1), A.d (.int 1), A.d (.int 2), A.d (.int 2), A.d (.int 3), A.d (.int 4), A.d (.int 5), A.d (.int 6)] h = some (.d (.lst (iL gaps8)), h) := fun h => newL_d (ds := iL gaps8) (lt_size (by simp [gaps8, iL]))
    have e9 : ∀ h, tupleA [.d (.lst (es.map enD))] h = some (.d (.tup (es.map enD)), h) := fun h => tupleA_lst
    refine callN_rt U.f19 rfl ?_ (s.ret s8)
    simp -implicitDefEqProofs only [fn19_a0, fn19_a1, fn19_a2, fn19_a3, exSs, exS1, ev, evT, evP, evs, evB, evo_none, evo_some, evc_none, evc_some, evi_val, evi_rng, evi_enum, evL, evLs, vt, getS, opt_some, optH_some, Out.bind_ok, Out.bind_ex, Out.st_ok, Out.st_ex, OS.seq_nx, OS.seq_rt, OS.seq_ex, OS.seq_ct, OS.seq_bk, startS, Es.len, tg_name, tg_tup, tgs_nil, tgs_cons, Tgs.len, Lvs.len, setAll, List.getElem?_cons_zero, List.getElem?_cons_succ, List.set_cons_zero, List.set_cons_succ, List.map_cons, List.map_nil, List.cons_append, List.nil_append, List.replicate, List.length_cons, List.length_nil, Nat.reduceAdd, Nat.reduceSub, if_true, if_false, if_pos, reduceIte, reduceCtorEq, finC, blA, argF, plainSh, List.range', fillA, callF, Option.map_some, Option.bind_some, Option.map_none, Option.bind_none, and_self, true_and, and_true, intA, wipeS, Bool.not_true, Bool.not_false, Bool.false_eq_true, decide_true, decide_false, Bool.true_eq_false, clsA, binA, cmpO, cmpA, mtF, biF, Mt.ty, bmF, tyA, truthO, truthA, truthD, ne_eq, not_true_eq_false, not_false_eq_true, String.reduceBEq, beq_self_eq_true, addA_int, addA_str, subA, mulA, fdivA, modA, powA, ordA, negA, intTA, divmodA, absA, lenO, lenA, maxA, minA, max2A, min2A, U.s15, U.n15, U.s16, U.n16, U.s17, U.n17, e1, ez, e2, e3, e4, e4', e6']
    simp -implicitDefEqProofs only [fn19_a4, fn19_a5, exSs, exS1, ev, evT, evP, evs, evB, evo_none, evo_some, evc_none, evc_some, evi_val, evi_rng, evi_enum, evL, evLs, vt, getS, opt_some, optH_some, Out.bind_ok, Out.bind_ex, Out.st_ok, Out.st_ex, OS.seq_nx, OS.seq_rt, OS.seq_ex, OS.seq_ct, OS.seq_bk, startS, Es.len, tg_name, tg_tup, tgs_nil, tgs_cons, Tgs.len, Lvs.len, setAll, List.getElem?_cons_zero, List.getElem?_cons_succ, List.set_cons_zero, List.set_cons_succ, List.map_cons, List.map_nil, List.cons_append, List.nil_append, List.replicate, List.length_cons, List.length_nil, Nat.reduceAdd, Nat.reduceSub, if_true, if_false, if_pos, reduceIte, reduceCtorEq, finC, blA, argF, plainSh, List.range', fillA, callF, Option.map_some, Option.bind_some, Option.map_none, Option.bind_none, and_self, true_and, and_true, intA, wipeS, Bool.not_true, Bool.not_false, Bool.false_eq_true, decide_true, decide_false, Bool.true_eq_false, clsA, binA, cmpO, cmpA, mtF, biF, Mt.ty, bmF, tyA, truthO, truthA, truthD, ne_eq, not_true_eq_false, not_false_eq_true, String.reduceBEq, beq_self_eq_true, addA_int, addA_str, subA, mulA, fdivA, modA, powA, ordA, negA, intTA, divmodA, absA, lenO, lenA, maxA, minA, max2A, min2A, U.s15, U.n15, U.s16, U.n16, tupA_0, tupA_1, tupA_2, hn7, e7, e9, hn8, e8, tupA_5]
    rfl
  · refine ⟨by show 1 ≤ 1 + z; omega, by show 1 + z ≤ 6; omega, ?_, ?_, ?_, t2, ?_, by show es.length ≤ 6; omega, ?_, c3, slips5_ok _ hsl, hg.1, hg.2⟩
    · have := congrArg List.length t1; simp at this; show ts.length ≤ 4; omega
    · show (ts.map (·.1)).Nodup; rw [t1]; exact x2
    · intro t ht; exact x3 _ (by rw [← t1]; exact List.mem_map_of_mem ht)
    · show es ≠ []; intro e; rw [e] at c1; simp at c1; omega
    · intro x hx; show x ∈ ts.map (·.1); rw [t1]; exact c2 x hx
end
end MP
end S_RUe
section S_RLb
/-! RLb: the urn is made; the law's row of urns. -/
namespace MP
open PySem L2
section
variable {T : Tab} {n u : Nat} {h0 h h1 h2 : Hh} {b : Hb}
theorem cutL_le {α : Type} (xs : List α) (lo hi : Option Int) : (cutL xs lo hi).length ≤ xs.length := by
  unfold cutL; rw [List.length_take, List.length_drop]; omega
theorem urn_ok (U : Urn T) {ns : List Int} {k : Nat} (hn : ns.length ≤ 63) (hk : k < 1000) : ∃ a b : Int, 0 ≤ a ∧ 0 ≤ b ∧ b < 2147483123 ∧ callN T (n + 1) 14 [.d (.scr ns), .d (.int k)] h = .ok (.ref h.length) (h ++ [urnO a b 0]) := by
  have hc1 : (-(2 ^ 64 : Int) < 6101 ∧ (6101 : Int) < 2 ^ 64) := by decide
  have hc2 : (-(2 ^ 64 : Int) < 509 ∧ (509 : Int) < 2 ^ 64) := by decide
  have hc3 : (-(2 ^ 64 : Int) < 47017 ∧ (47017 : Int) < 2 ^ 64) := by decide
  have hp : (0 : Int) < 2147483123 := by decide
  obtain ⟨cell, hcell⟩ : ∃ cell : Int, exSs T (callN T n) fn14_a0 (startS 5 [.d (.scr ns), .d (.int k)]) h = exSs T (callN T n) fn14_a1 [some (.d (.scr ns)), some (.d (.int k)), some (.d (.int cell)), none, none] h := by
    by_cases hl : (k : Int) < (ns.length : Int)
    · have hk' : k < ns.length := by omega
      refine ⟨ns[k], ?_⟩
      have e : L2.atI ns (k : Int) = some ns[k] := by rw [atI_nat, List.getElem?_eq_getElem hk']
      simp -implicitDefEqProofs only [fn14_a0, exSs, exS1, ev, evT, evP, evs, evB, evo_none, evo_some, evc_none, evc_some, evi_val, evi_rng, evi_enum, evL, evLs, vt, getS, opt_some, optH_some, Out.bind_ok, Out.bind_ex, Out.st_ok, Out.st_ex, OS.seq_nx, OS.seq_rt, OS.seq_ex, OS.seq_ct, OS.seq_bk, startS, Es.len, tg_name, tg_tup, tgs_nil, tgs_cons, Tgs.len, Lvs.len, setAll, List.getElem?_cons_zero, List.getElem?_cons_succ, List.set_cons_zero, List.set_cons_succ, List.map_cons, List.map_nil, List.cons_append, List.nil_append, List.replicate, List.length_cons, List.length_nil, Nat.reduceAdd, Nat.reduceSub, if_true, if_false, if_pos, reduceIte, reduceCtorEq, finC, blA, argF, plainSh, List.range', fillA, callF, Option.map_some, Option.bind_some, Option.map_none, Option.bind_none, and_self, true_and, and_true, intA, wipeS, Bool.not_true, Bool.not_false, Bool.false_eq_true, decide_true, decide_false, Bool.true_eq_false, clsA, binA, cmpO, cmpA, mtF, biF, Mt.ty, bmF, tyA, truthO, truthA, truthD, ne_eq, not_true_eq_false, not_false_eq_true, String.reduceBEq, beq_self_eq_true, addA_int, addA_str, subA, mulA, fdivA, modA, powA, ordA, negA, intTA, divmodA, absA, lenO, lenA, maxA, minA, max2A, min2A, hl, subF_scr, e]
    · refine ⟨6101 * k + 71, ?_⟩
      simp -implicitDefEqProofs only [fn14_a0, exSs, exS1, ev, evT, evP, evs, evB, evo_none, evo_some, evc_none, evc_some, evi_val, evi_rng, evi_enum, evL, evLs, vt, getS, opt_some, optH_some, Out.bind_ok, Out.bind_ex, Out.st_ok, Out.st_ex, OS.seq_nx, OS.seq_rt, OS.seq_ex, OS.seq_ct, OS.seq_bk, startS, Es.len, tg_name, tg_tup, tgs_nil, tgs_cons, Tgs.len, Lvs.len, setAll, List.getElem?_cons_zero, List.getElem?_cons_succ, List.set_cons_zero, List.set_cons_succ, List.map_cons, List.map_nil, List.cons_append, List.nil_append, List.replicate, List.length_cons, List.length_nil, Nat.reduceAdd, Nat.reduceSub, if_true, if_false, if_pos, reduceIte, reduceCtorEq, finC, blA, argF, plainSh, List.range', fillA, callF, Option.map_some, Option.bind_some, Option.map_none, Option.bind_none, and_self, true_and, and_true, intA, wipeS, Bool.not_true, Bool.not_false, Bool.false_eq_true, decide_true, decide_false, Bool.true_eq_false, clsA, binA, cmpO, cmpA, mtF, biF, Mt.ty, bmF, tyA, truthO, truthA, truthD, ne_eq, not_true_eq_false, not_false_eq_true, String.reduceBEq, beq_self_eq_true, addA_int, addA_str, subA, mulA, fdivA, modA, powA, ordA, negA, intTA, divmodA, absA, lenO, lenA, maxA, minA, max2A, min2A, hl, hc1, true_or]
  have hloop : ∀ (xs : List Int), ∃ v4 b, loopF (Tg.name 4).set (exSs T (callN T n) fn14_b0) none h ((xs.map D.int).map .d) [some (.d (.scr ns)), some (.d (.int k)), some (.d (.int cell)), some (.d (.int (83003 + 509 * k))), none] h = .nx [some (.d (.scr ns)), some (.d (.int k)), some (.d (.int cell)), some (.d (.int b)), v4] h ∧ 0 ≤ b ∧ b < 2147483123 := fun xs => by
    obtain ⟨s', h', e', v4, b, hs', hh', b1, b2⟩ := loopF_inv (ft := (Tg.name 4).set) (fb := exSs T (callN T n) fn14_b0) (m := none) (h0 := h) (xs := (xs.map D.int).map .d) (s := [some (.d (.scr ns)), some (.d (.int k)), some (.d (.int cell)), some (.d (.int (83003 + 509 * k))), none]) (h := h)
      (fun i s h' => ∃ v4 b, s = [some (.d (.scr ns)), some (.d (.int k)), some (.d (.int cell)), some (.d (.int b)), v4] ∧ h' = h ∧ 0 ≤ b ∧ b < 2147483123)
      (fun i x s2 h2 hi ⟨v4, b, e1, e2, b1, b2⟩ => by
        rw [List.getElem?_map, List.getElem?_map] at hi
        cases hx : xs[i]? with
        | none => rw [hx] at hi; cases hi
        | some y =>
          rw [hx] at hi; cases hi
          subst e1 e2
          have hb : (-(2 ^ 64 : Int) < b ∧ b < 2 ^ 64) := ⟨by omega, by omega⟩
          refine ⟨_, [some (.d (.scr ns)), some (.d (.int k)), some (.d (.int cell)), some (.d (.int ((b * 47017 + y) % 2147483123))), some (.d (.int y))], h2, tg_name _ _ _, .inl ?_, trivial, _, _, rfl, rfl, Int.emod_nonneg _ (by decide), Int.emod_lt_of_pos _ (by decide)⟩
          simp -implicitDefEqProofs only [fn14_b0, exSs, exS1, ev, evT, evP, evs, evB, evo_none, evo_some, evc_none, evc_some, evi_val, evi_rng, evi_enum, evL, evLs, vt, getS, opt_some, optH_some, Out.bind_ok, Out.bind_ex, Out.st_ok, Out.st_ex, OS.seq_nx, OS.seq_rt, OS.seq_ex, OS.seq_ct, OS.seq_bk, startS, Es.len, tg_name, tg_tup, tgs_nil, tgs_cons, Tgs.len, Lvs.len, setAll, List.getElem?_cons_zero, List.getElem?_cons_succ, List.set_cons_zero, List.set_cons_succ, List.map_cons, List.map_nil, List.cons_append, List.nil_append, List.replicate, List.length_cons, List.length_nil, Nat.reduceAdd, Nat.reduceSub, if_true, if_false, if_pos, reduceIte, reduceCtorEq, finC, blA, argF, plainSh, List.range', fillA, callF, Option.map_some, Option.bind_some, Option.map_none, Option.bind_none, and_self, true_and, and_true, intA, wipeS, Bool.not_true, Bool.not_false, Bool.false_eq_true, decide_true, decide_false, Bool.true_eq_false, clsA, binA, cmpO, cmpA, mtF, biF, Mt.ty, bmF, tyA, truthO, truthA, truthD, ne_eq, not_true_eq_false, not_false_eq_true, String.reduceBEq, beq_self_eq_true, addA_int, addA_str, subA, mulA, fdivA, modA, powA, ordA, negA, intTA, divmodA, absA, lenO, lenA, maxA, minA, max2A, min2A, hb, true_or, hp])
      ⟨none, 83003 + 509 * k, rfl, rfl, by omega, by omega⟩
    subst hs' hh'
    exact ⟨v4, b, e', b1, b2⟩
  obtain ⟨v4, b, el, b1, b2⟩ := hloop (cutL ns none (some 5) ++ [cell])
  have ha := addA_lst (h := h) (xs := (cutL ns none (some 5)).map D.int) (ys := [.int cell]) (by have := cutL_le ns none (some 5); simp; omega)
  have hm : (cutL ns none (some 5)).map D.int ++ [.int cell] = (cutL ns none (some 5) ++ [cell]).map D.int := by simp
  have hl1 := lst_of (h := h) (xs := [A.d (.int cell)]) (ds := [.int cell]) rfl (by simp)
  have hn3 := fun x y => newL_m (h := h) (xs := [A.d (.int x), A.d (.int y), A.d (.int 0)]) (by simp)
  have hpw : (0 : Int) ≤ 18 ∧ (18 : Int) ≤ 1000000 ∧ (10 : Int).natAbs < 2 ^ 64 := by decide
  have hx1 : exSs T (callN T n) fn14_a1 [some (.d (.scr ns)), some (.d (.int k)), some (.d (.int cell)), none, none] h = exSs T (callN T n) fn14_a3 [some (.d (.scr ns)), some (.d (.int k)), some (.d (.int cell)), some (.d (.int b)), v4] h := by
    simp -implicitDefEqProofs only [fn14_a1, fn14_a2, exSs, exS1, ev, evT, evP, evs, evB, evo_none, evo_some, evc_none, evc_some, evi_val, evi_rng, evi_enum, evL, evLs, vt, getS, opt_some, optH_some, Out.bind_ok, Out.bind_ex, Out.st_ok, Out.st_ex, OS.seq_nx, OS.seq_rt, OS.seq_ex, OS.seq_ct, OS.seq_bk, startS, Es.len, tg_name, tg_tup, tgs_nil, tgs_cons, Tgs.len, Lvs.len, setAll, List.getElem?_cons_zero, List.getElem?_cons_succ, List.set_cons_zero, List.set_cons_succ, List.map_cons, List.map_nil, List.cons_append, List.nil_append, List.replicate, List.length_cons, List.length_nil, Nat.reduceAdd, Nat.reduceSub, if_true, if_false, if_pos, reduceIte, reduceCtorEq, finC, blA, argF, plainSh, List.range', fillA, callF, Option.map_some, Option.bind_some, Option.map_none, Option.bind_none, and_self, true_and, and_true, intA, wipeS, Bool.not_true, Bool.not_false, Bool.false_eq_true, decide_true, decide_false, Bool.true_eq_false, clsA, binA, cmpO, cmpA, mtF, biF, Mt.ty, bmF, tyA, truthO, truthA, truthD, ne_eq, not_true_eq_false, not_false_eq_true, String.reduceBEq, beq_self_eq_true, addA_int, addA_str, subA, mulA, fdivA, modA, powA, ordA, negA, intTA, divmodA, absA, lenO, lenA, maxA, minA, max2A, min2A, hc2, true_or, sliceA, hl1, ha, hm, iterV, el]
  by_cases h1 : cell < 0
  · refine ⟨-cell, b, by omega, b1, b2, callN_keep U.f14 rfl (hcell.trans (hx1.trans ?_))⟩
    simp -implicitDefEqProofs only [fn14_a3, exSs, exS1, ev, evT, evP, evs, evB, evo_none, evo_some, evc_none, evc_some, evi_val, evi_rng, evi_enum, evL, evLs, vt, getS, opt_some, optH_some, Out.bind_ok, Out.bind_ex, Out.st_ok, Out.st_ex, OS.seq_nx, OS.seq_rt, OS.seq_ex, OS.seq_ct, OS.seq_bk, startS, Es.len, tg_name, tg_tup, tgs_nil, tgs_cons, Tgs.len, Lvs.len, setAll, List.getElem?_cons_zero, List.getElem?_cons_succ, List.set_cons_zero, List.set_cons_succ, List.map_cons, List.map_nil, List.cons_append, List.nil_append, List.replicate, List.length_cons, List.length_nil, Nat.reduceAdd, Nat.reduceSub, if_true, if_false, if_pos, reduceIte, reduceCtorEq, finC, blA, argF, plainSh, List.range', fillA, callF, Option.map_some, Option.bind_some, Option.map_none, Option.bind_none, and_self, true_and, and_true, intA, wipeS, Bool.not_true, Bool.not_false, Bool.false_eq_true, decide_true, decide_false, Bool.true_eq_false, clsA, binA, cmpO, cmpA, mtF, biF, Mt.ty, bmF, tyA, truthO, truthA, truthD, ne_eq, not_true_eq_false, not_false_eq_true, String.reduceBEq, beq_self_eq_true, addA_int, addA_str, subA, mulA, fdivA, modA, powA, ordA, negA, intTA, divmodA, absA, lenO, lenA, maxA, minA, max2A, min2A, h1, hn3, urnO]
  · by_cases h2 : (10 : Int) ^ (18 : Int).toNat ≤ cell
    · refine ⟨cell, b, by omega, b1, b2, callN_keep U.f14 rfl (hcell.trans (hx1.trans ?_))⟩
      simp -implicitDefEqProofs only [fn14_a3, exSs, exS1, ev, evT, evP, evs, evB, evo_none, evo_some, evc_none, evc_some, evi_val, evi_rng, evi_enum, evL, evLs, vt, getS, opt_some, optH_some, Out.bind_ok, Out.bind_ex, Out.st_ok, Out.st_ex, OS.seq_nx, OS.seq_rt, OS.seq_ex, OS.seq_ct, OS.seq_bk, startS, Es.len, tg_name, tg_tup, tgs_nil, tgs_cons, Tgs.len, Lvs.len, setAll, List.getElem?_cons_zero, List.getElem?_cons_succ, List.set_cons_zero, List.set_cons_succ, List.map_cons, List.map_nil, List.cons_append, List.nil_append, List.replicate, List.length_cons, List.length_nil, Nat.reduceAdd, Nat.reduceSub, if_true, if_false, if_pos, reduceIte, reduceCtorEq, finC, blA, argF, plainSh, List.range', fillA, callF, Option.map_some, Option.bind_some, Option.map_none, Option.bind_none, and_self, true_and, and_true, intA, wipeS, Bool.not_true, Bool.not_false, Bool.false_eq_true, decide_true, decide_false, Bool.true_eq_false, clsA, binA, cmpO, cmpA, mtF, biF, Mt.ty, bmF, tyA, truthO, truthA, truthD, ne_eq, not_true_eq_false, not_false_eq_true, String.reduceBEq, beq_self_eq_true, addA_int, addA_str, subA, mulA, fdivA, modA, powA, ordA, negA, intTA, divmodA, absA, lenO, lenA, maxA, minA, max2A, min2A, h1, hpw, h2, hn3, urnO]
    · refine ⟨0, b, by omega, b1, b2, callN_keep U.f14 rfl (hcell.trans (hx1.trans ?_))⟩
      simp -implicitDefEqProofs only [fn14_a3, exSs, exS1, ev, evT, evP, evs, evB, evo_none, evo_some, evc_none, evc_some, evi_val, evi_rng, evi_enum, evL, evLs, vt, getS, opt_some, optH_some, Out.bind_ok, Out.bind_ex, Out.st_ok, Out.st_ex, OS.seq_nx, OS.seq_rt, OS.seq_ex, OS.seq_ct, OS.seq_bk, startS, Es.len, tg_name, tg_tup, tgs_nil, tgs_cons, Tgs.len, Lvs.len, setAll, List.getElem?_cons_zero, List.getElem?_cons_succ, List.set_cons_zero, List.set_cons_succ, List.map_cons, List.map_nil, List.cons_append, List.nil_append, List.replicate, List.length_cons, List.length_nil, Nat.reduceAdd, Nat.reduceSub, if_true, if_false, if_pos, reduceIte, reduceCtorEq, finC, blA, argF, plainSh, List.range', fillA, callF, Option.map_some, Option.bind_some, Option.map_none, Option.bind_none, and_self, true_and, and_true, intA, wipeS, Bool.not_true, Bool.not_false, Bool.false_eq_true, decide_true, decide_false, Bool.true_eq_false, clsA, binA, cmpO, cmpA, mtF, biF, Mt.ty, bmF, tyA, truthO, truthA, truthD, ne_eq, not_true_eq_false, not_false_eq_true, String.reduceBEq, beq_self_eq_true, addA_int, addA_str, subA, mulA, fdivA, modA, powA, ordA, negA, intTA, divmodA, absA, lenO, lenA, maxA, minA, max2A, min2A, h1, hpw, h2, hn3, urnO]
theorem Sd.start {a c : Int} (cl : Clo h) (h1 : 0 ≤ a) (h2 : 0 ≤ c) (h3 : c < 4294967296) : Sd h.length (h ++ [urnO a c 0]) (h ++ [urnO a c 0]) :=
  ⟨by simp, cl.app rfl, a, c, 0, h1, h2, h3, by rw [set_app]⟩
end
end MP
end S_RLb
section S_RWc
/-! RWc: runs, the law's side. -/
namespace MP
open PySem L2
structure LRun (T : Tab) : Prop where
  f72 : T.fn 72 = some fn72
  n72 : T.np 72 = 3
  s72 : T.shape 72 3 [] = some (plainSh 3)
  f73 : T.fn 73 = some fn73
  n73 : T.np 73 = 2
  s73 : T.shape 73 2 [] = some (plainSh 2)
  f74 : T.fn 74 = some fn74
  n74 : T.np 74 = 4
  s74 : T.shape 74 4 [] = some (plainSh 4)
  f75 : T.fn 75 = some fn75
  n75 : T.np 75 = 3
  s75 : T.shape 75 3 [] = some (plainSh 3)
  f76 : T.fn 76 = some fn76
  n76 : T.np 76 = 3
  s76 : T.shape 76 3 [] = some (plainSh 3)
section
variable {T : Tab} {n u : Nat} {h0 h h1 h2 : Hh} {b : Hb}
theorem pairsK_turns : ∀ l : List (Str × List Nat), pairsK (l.map turnD) = some (l.map fun t => ((.inr t.1 : Key), D.tup (iL t.2)))
  | [] => rfl
  | t :: r => by
    rw [List.map_cons, turnD, pairsK, pairsK_turns r]; rfl
theorem look_turns (x : Str) : ∀ l : List (Str × List Nat), look ((l.map fun t => ((.inr t.1 : Key), D.tup (iL t.2))).map fun kv => (kv.1, A.d kv.2)) (.inr x) = ((l.filter fun t => t.1 == x).head?).map fun t => A.d (.tup (iL t.2))
  | [] => rfl
  | t :: r => by
    rw [List.map_cons, List.map_cons, look_cons, look_turns x r]
    by_cases e : t.1 = x
    · subst e; simp
    · have e2 : ¬ ((Sum.inr t.1 : Key) = .inr x) := fun q => e (by injection q)
      rw [if_neg e2]
      simp [e]
theorem dict_ok (B : b.Ok) (hn : b.turns ≠ []) : dictA [.d (.tup (b.turns.map turnD))] h = some (.d (.dk (b.turns.map fun t => ((.inr t.1 : Key), D.tup (iL t.2)))), h) := by
  have h1 : turnsD (b.turns.map turnD) = true := by
    cases ht : b.turns with
    | nil => exact absurd ht hn
    | cons t r => rfl
  have h2 : ((b.turns.map fun t => ((.inr t.1 : Key), D.tup (iL t.2))).map (·.1)).Nodup := by
    rw [List.map_map]
    have := B.t2
    have e : (b.turns.map ((fun (x : Key × D) => x.1) ∘ fun t => ((.inr t.1 : Key), D.tup (iL t.2)))) = (b.turns.map (·.1)).map (Sum.inr : Str → Key) := by simp [Function.comp_def]
    rw [e]
    exact List.Pairwise.map _ (fun a b h q => h (by injection q)) this
  simp only [dictA, h1, if_true, pairsK_turns]
  rw [if_pos h2]
theorem laid_ok (K : Core T) (L : LRun T) (c : Clo h) (B : b.Ok) {p k : Nat} (hp : p < b.size) : callN T (n + 1) 72 [.d b.parts, .d (.int p), .d (.int k)] h = .ok (.d (.int (b.go1 k p : Nat))) h := by
  obtain ⟨e, he, hg, hi⟩ := B.ent k
  have hl := B.clen
  have c2 := B.c2
  have ea : L2.atI ((b.cal.map enD).map A.d) ((k : Int) % (b.cal.length : Int)) = some (.d (enD e)) := by
    have := atI_mod (xs := (b.cal.map enD).map A.d) (m := k) (by simpa using hl)
    rw [List.length_map, List.length_map] at this
    rw [this, List.getElem?_map, List.getElem?_map, hg]; rfl
  have hpos : (0 : Int) < (b.cal.length : Int) := by omega
  have hg1 := (B.go1_lt (m := k) hp).2
  rw [hi] at hg1
  have hlen : ∀ (C : CallT) (tb : Nat → Option Nat), lenO C tb [.d (.tup (b.cal.map enD))] h = some (.d (.int b.cal.length), h) := fun C tb => by rw [lenO_tup, List.length_map]
  refine callN_rt L.f72 rfl ?_ (retD0 c)
  cases e with
  | inr g =>
    have e2 : b.go1 k p = g := by
      have : (List.replicate b.size g)[p]? = some (b.go1 k p) := hg1
      rw [List.getElem?_replicate, if_pos hp] at this
      injection this with this; exact this.symm
    rw [e2]
    simp -implicitDefEqProofs only [fn72_a0, fn72_a1, exSs, exS1, ev, evT, evP, evs, evB, evo_none, evo_some, evc_none, evc_some, evi_val, evi_rng, evi_enum, evL, evLs, vt, getS, opt_some, optH_some, Out.bind_ok, Out.bind_ex, Out.st_ok, Out.st_ex, OS.seq_nx, OS.seq_rt, OS.seq_ex, OS.seq_ct, OS.seq_bk, startS, Es.len, tg_name, tg_tup, tgs_nil, tgs_cons, Tgs.len, Lvs.len, setAll, List.getElem?_cons_zero, List.getElem?_cons_succ, List.set_cons_zero, List.set_cons_succ, List.map_cons, List.map_nil, List.cons_append, List.nil_append, List.replicate, List.length_cons, List.length_nil, Nat.reduceAdd, Nat.reduceSub, if_true, if_false, if_pos, reduceIte, reduceCtorEq, finC, blA, argF, plainSh, List.range', fillA, callF, Option.map_some, Option.bind_some, Option.map_none, Option.bind_none, and_self, true_and, and_true, intA, wipeS, Bool.not_true, Bool.not_false, Bool.false_eq_true, decide_true, decide_false, Bool.true_eq_false, clsA, binA, cmpO, cmpA, mtF, biF, Mt.ty, bmF, tyA, truthO, truthA, truthD, ne_eq, not_true_eq_false, not_false_eq_true, String.reduceBEq, beq_self_eq_true, pt2, intTA, modA, hlen, hpos, subF_tup, ea, enD, kindA, kindD, K.i_int_str]
  | inl x =>
    obtain ⟨t, r, ht, hf, ht2⟩ := B.inl_ent he
    rw [ht2] at hg1
    have hn : b.turns ≠ [] := fun q => by rw [q] at ht; cases ht
    have ed := dict_ok (h := h) B hn
    have e1 : subF (.d (.dk (b.turns.map fun t => ((.inr t.1 : Key), D.tup (iL t.2))))) (.d (.str x)) h = some (.d (.tup (iL t.2))) := by
      have e3 : lookA (.d (.dk (b.turns.map fun t => ((.inr t.1 : Key), D.tup (iL t.2))))) (.d (.str x)) h = some (some (.d (.tup (iL t.2)))) := by
        have := look_turns x b.turns
        rw [hf] at this
        simp only [lookA, asDk, keyD, this]; rfl
      simp only [subF, e3]
    have e2 : subF (.d (.tup (iL t.2))) (.d (.int p)) h = some (.d (.int (b.go1 k p : Nat))) := by
      rw [subF_tup, atI_nat, iL, List.getElem?_map, List.getElem?_map, hg1]; rfl
    have e4 : subF (.d (.tup (b.cal.map enD))) (.d (.int ((k : Int) % (b.cal.length : Int)))) h = some (.d (.str x)) := by rw [subF_tup, ea]; rfl
    simp -implicitDefEqProofs only [fn72_a0, fn72_a1, exSs, exS1, ev, evT, evP, evs, evB, evo_none, evo_some, evc_none, evc_some, evi_val, evi_rng, evi_enum, evL, evLs, vt, getS, opt_some, optH_some, Out.bind_ok, Out.bind_ex, Out.st_ok, Out.st_ex, OS.seq_nx, OS.seq_rt, OS.seq_ex, OS.seq_ct, OS.seq_bk, startS, Es.len, tg_name, tg_tup, tgs_nil, tgs_cons, Tgs.len, Lvs.len, setAll, List.getElem?_cons_zero, List.getElem?_cons_succ, List.set_cons_zero, List.set_cons_succ, List.map_cons, List.map_nil, List.cons_append, List.nil_append, List.replicate, List.length_cons, List.length_nil, Nat.reduceAdd, Nat.reduceSub, if_true, if_false, if_pos, reduceIte, reduceCtorEq, finC, blA, argF, plainSh, List.range', fillA, callF, Option.map_some, Option.bind_some, Option.map_none, Option.bind_none, and_self, true_and, and_true, intA, wipeS, Bool.not_true, Bool.not_false, Bool.false_eq_true, decide_true, decide_false, Bool.true_eq_false, clsA, binA, cmpO, cmpA, mtF, biF, Mt.ty, bmF, tyA, truthO, truthA, truthD, ne_eq, not_true_eq_false, not_false_eq_true, String.reduceBEq, beq_self_eq_true, pt2, pt1, intTA, modA, hlen, hpos, e4, kindA, kindD, K.i_str_str, ed, e1, e2]
theorem let_ok (L : LRun T) (c : Clo h) (B : b.Ok) {r : Nat} : callN T (n + 1) 73 [.d b.parts, .d (.int r)] h = .ok (.d (.lst (sL (kp :: if b.gap ≤ r then b.slips else [])))) h := by
  have hsl := slips_len _ B.sl
  have e1 := lst_of (h := h) (xs := [A.d (.str "keep")]) (ds := sL [kp]) (by simp [sL, kp]) (by simp [sL])
  refine callN_rt L.f73 rfl ?_ (retD0 c)
  by_cases e : b.gap ≤ r
  · have e0 : (b.gap : Int) ≤ (r : Int) := by omega
    have e2 := listA_tup (h := h) (xs := sL b.slips) (by simp [sL]; omega)
    have e3 := addA_lst (h := h) (xs := sL [kp]) (ys := sL b.slips) (by simp [sL]; omega)
    have e4 : sL [kp] ++ sL b.slips = sL (kp :: b.slips) := rfl
    rw [if_pos e]
    simp -implicitDefEqProofs only [fn73_a0, exSs, exS1, ev, evT, evP, evs, evB, evo_none, evo_some, evc_none, evc_some, evi_val, evi_rng, evi_enum, evL, evLs, vt, getS, opt_some, optH_some, Out.bind_ok, Out.bind_ex, Out.st_ok, Out.st_ex, OS.seq_nx, OS.seq_rt, OS.seq_ex, OS.seq_ct, OS.seq_bk, startS, Es.len, tg_name, tg_tup, tgs_nil, tgs_cons, Tgs.len, Lvs.len, setAll, List.getElem?_cons_zero, List.getElem?_cons_succ, List.set_cons_zero, List.set_cons_succ, List.map_cons, List.map_nil, List.cons_append, List.nil_append, List.replicate, List.length_cons, List.length_nil, Nat.reduceAdd, Nat.reduceSub, if_true, if_false, if_pos, reduceIte, reduceCtorEq, finC, blA, argF, plainSh, List.range', fillA, callF, Option.map_some, Option.bind_some, Option.map_none, Option.bind_none, and_self, true_and, and_true, intA, wipeS, Bool.not_true, Bool.not_false, Bool.false_eq_true, decide_true, decide_false, Bool.true_eq_false, clsA, binA, cmpO, cmpA, mtF, biF, Mt.ty, bmF, tyA, truthO, truthA, truthD, ne_eq, not_true_eq_false, not_false_eq_true, String.reduceBEq, beq_self_eq_true, e1, pt4, ordA, e0, pt3, e2, e3, e4]
  · have e0 : ¬ (b.gap : Int) ≤ (r : Int) := by omega
    have e2 := lst_of (h := h) (xs := []) (ds := sL []) (by simp [sL]) (by simp [sL])
    have e3 := addA_lst (h := h) (xs := sL [kp]) (ys := sL []) (by simp [sL])
    have e4 : sL [kp] ++ sL [] = sL [kp] := rfl
    rw [if_neg e]
    simp -implicitDefEqProofs only [fn73_a0, exSs, exS1, ev, evT, evP, evs, evB, evo_none, evo_some, evc_none, evc_some, evi_val, evi_rng, evi_enum, evL, evLs, vt, getS, opt_some, optH_some, Out.bind_ok, Out.bind_ex, Out.st_ok, Out.st_ex, OS.seq_nx, OS.seq_rt, OS.seq_ex, OS.seq_ct, OS.seq_bk, startS, Es.len, tg_name, tg_tup, tgs_nil, tgs_cons, Tgs.len, Lvs.len, setAll, List.getElem?_cons_zero, List.getElem?_cons_succ, List.set_cons_zero, List.set_cons_succ, List.map_cons, List.map_nil, List.cons_append, List.nil_append, List.replicate, List.length_cons, List.length_nil, Nat.reduceAdd, Nat.reduceSub, if_true, if_false, if_pos, reduceIte, reduceCtorEq, finC, blA, argF, plainSh, List.range', fillA, callF, Option.map_some, Option.bind_some, Option.map_none, Option.bind_none, and_self, true_and, and_true, intA, wipeS, Bool.not_true, Bool.not_false, Bool.false_eq_true, decide_true, decide_false, Bool.true_eq_false, clsA, binA, cmpO, cmpA, mtF, biF, Mt.ty, bmF, tyA, truthO, truthA, truthD, ne_eq, not_true_eq_false, not_false_eq_true, String.reduceBEq, beq_self_eq_true, e1, pt4, ordA, e0, e2, e3, e4]
theorem next_ok (K : Core T) (L : LRun T) (c : Clo h) (B : b.Ok) {p k : Nat} {w : Str} (hw : w ∈ words3) (hp : p < b.size) : callN T (n + 2) 74 [.d b.parts, .d (.int p), .d (.int k), .d (.str w)] h = .ok (.d (.int (b.nxt k w p : Nat))) h := by
  obtain ⟨s', h', e', v4, hs', hh'⟩ := loopF_inv (ft := (Tg.name 4).set) (fb := exSs T (callN T (n + 1)) fn74_b0) (m := none) (h0 := h) (xs := rngL 0 (times w)) (s := [some (.d b.parts), some (.d (.int p)), some (.d (.int k)), some (.d (.str w)), none]) (h := h)
    (fun j s h' => ∃ v4, s = [some (.d b.parts), some (.d (.int (b.gon k j p : Nat))), some (.d (.int k)), some (.d (.str w)), v4] ∧ h' = h)
    (fun j x s2 h2 hk ⟨v4, q1, q2⟩ => by
      subst q1
      rw [q2]
      have e1 := laid_ok (n := n) (k := k) K L c B (B.gon_lt (m := k) (k := j) hp)
      replace e1 : callN T (n + 1) 72 [.d b.parts, .d (.int (b.gon k j p : Nat)), .d (.int k)] h = .ok (.d (.int (b.gon k (j + 1) p : Nat))) h := e1
      refine ⟨_, [some (.d b.parts), some (.d (.int (b.gon k (j + 1) p : Nat))), some (.d (.int k)), some (.d (.str w)), some x], h, tg_name _ _ _, .inl ?_, trivial, _, rfl, rfl⟩
      simp -implicitDefEqProofs only [fn74_b0, exSs, exS1, ev, evT, evP, evs, evB, evo_none, evo_some, evc_none, evc_some, evi_val, evi_rng, evi_enum, evL, evLs, vt, getS, opt_some, optH_some, Out.bind_ok, Out.bind_ex, Out.st_ok, Out.st_ex, OS.seq_nx, OS.seq_rt, OS.seq_ex, OS.seq_ct, OS.seq_bk, startS, Es.len, tg_name, tg_tup, tgs_nil, tgs_cons, Tgs.len, Lvs.len, setAll, List.getElem?_cons_zero, List.getElem?_cons_succ, List.set_cons_zero, List.set_cons_succ, List.map_cons, List.map_nil, List.cons_append, List.nil_append, List.replicate, List.length_cons, List.length_nil, Nat.reduceAdd, Nat.reduceSub, if_true, if_false, if_pos, reduceIte, reduceCtorEq, finC, blA, argF, plainSh, List.range', fillA, callF, Option.map_some, Option.bind_some, Option.map_none, Option.bind_none, and_self, true_and, and_true, intA, wipeS, Bool.not_true, Bool.not_false, Bool.false_eq_true, decide_true, decide_false, Bool.true_eq_false, clsA, binA, cmpO, cmpA, mtF, biF, Mt.ty, bmF, tyA, truthO, truthA, truthD, ne_eq, not_true_eq_false, not_false_eq_true, String.reduceBEq, beq_self_eq_true, L.s72, L.n72, e1])
    ⟨none, rfl, rfl⟩
  subst hs'
  rw [rngL_len, hh'] at e'
  have hr : rngA [.d (.int (times w : Nat))] = some (rngL 0 (times w), none) := rng1 (by have := times_le w; omega)
  have hd : dispF false (evd T (callN T (n + 1)) (.cons (.k (.str ("forget" : Str))) (.k (.int 0)) (.cons (.k (.str ("keep" : Str))) (.k (.int 1)) (.cons (.k (.str ("twice" : Str))) (.k (.int 2)) .nil)))) [some (.d b.parts), some (.d (.int p)), some (.d (.int k)), some (.d (.str w)), none] h = .ok (.d (.dk [(.inr "forget", .int 0), (.inr "keep", .int 1), (.inr "twice", .int 2)])) h := by
    have hnd : ([(.inr "forget" : Key), .inr "keep", .inr "twice"]).Nodup := by decide +kernel
    simp only [dispF, evd, evP, vt, evPr, Out.bind_ok, keyP, keyD, newD, List.length_cons, List.length_nil, List.map_cons, List.map_nil]
    rw [if_pos ⟨by decide, hnd⟩]
    rfl
  have hs : ∀ w ∈ words3, subF (.d (.dk [(.inr "forget", .int 0), (.inr "keep", .int 1), (.inr "twice", .int 2)])) (.d (.str w)) h = some (.d (.int (times w : Nat))) := fun w hw => by
    simp only [words3, List.mem_cons, List.not_mem_nil, or_false] at hw
    rcases hw with rfl | rfl | rfl <;> rfl
  refine callN_rt L.f74 rfl ?_ (retD0 c)
  simp -implicitDefEqProofs only [fn74_a0, fn74_a1, exSs, exS1, ev, evT, evP, evs, evB, evo_none, evo_some, evc_none, evc_some, evi_val, evi_rng, evi_enum, evL, evLs, vt, getS, opt_some, optH_some, Out.bind_ok, Out.bind_ex, Out.st_ok, Out.st_ex, OS.seq_nx, OS.seq_rt, OS.seq_ex, OS.seq_ct, OS.seq_bk, startS, Es.len, tg_name, tg_tup, tgs_nil, tgs_cons, Tgs.len, Lvs.len, setAll, List.getElem?_cons_zero, List.getElem?_cons_succ, List.set_cons_zero, List.set_cons_succ, List.map_cons, List.map_nil, List.cons_append, List.nil_append, List.replicate, List.length_cons, List.length_nil, Nat.reduceAdd, Nat.reduceSub, if_true, if_false, if_pos, reduceIte, reduceCtorEq, finC, blA, argF, plainSh, List.range', fillA, callF, Option.map_some, Option.bind_some, Option.map_none, Option.bind_none, and_self, true_and, and_true, intA, wipeS, Bool.not_true, Bool.not_false, Bool.false_eq_true, decide_true, decide_false, Bool.true_eq_false, clsA, binA, cmpO, cmpA, mtF, biF, Mt.ty, bmF, tyA, truthO, truthA, truthD, ne_eq, not_true_eq_false, not_false_eq_true, String.reduceBEq, beq_self_eq_true, hd, hs w hw, hr, e']
  rfl
end
end MP
end S_RWc
section S_RWd
/-! RWd: runs, the law's side: rows drawn, ways told, rows judged. -/
namespace MP
open PySem L2
section
variable {T : Tab} {n u : Nat} {h0 h h1 h2 : Hh} {b : Hb}
theorem lr_congr {ws vs : List Str} : ∀ {j : Nat}, (∀ i, i < j → ws.getD i "" = vs.getD i "") → b.lr ws j = b.lr vs j
  | 0, _ => rfl
  | j + 1, h => by rw [Hb.lr, Hb.lr, lr_congr fun i hi => h i (by omega), h j (by omega)]
theorem pos_congr {ws vs : List Str} {p : Nat} : ∀ {j : Nat}, (∀ i, i < j → ws.getD i "" = vs.getD i "") → b.pos p ws j = b.pos p vs j
  | 0, _ => rfl
  | j + 1, h => by rw [Hb.pos, Hb.pos, pos_congr fun i hi => h i (by omega), h j (by omega)]
theorem getD_app {ws : List Str} {w : Str} {i : Nat} (hi : i < ws.length) : (ws ++ [w]).getD i "" = ws.getD i "" := by
  rw [List.getD_eq_getElem?_getD, List.getD_eq_getElem?_getD, List.getElem?_append_left hi]
theorem getD_take {ws : List Str} {c i : Nat} (hi : i < c) : (ws.take c).getD i "" = ws.getD i "" := by
  rw [List.getD_eq_getElem?_getD, List.getD_eq_getElem?_getD, List.getElem?_take, if_pos hi]
theorem row_app {ws : List Str} {w : Str} (r : b.row ws) (hw : w = "keep" ∨ (b.gap ≤ b.lr ws ws.length ∧ w ∈ b.slips)) : b.row (ws ++ [w]) := by
  intro k v hk
  by_cases hlt : k < ws.length
  · rw [List.getElem?_append_left hlt] at hk
    have e : b.lr (ws ++ [w]) k = b.lr ws k := lr_congr fun i hi => getD_app (by omega)
    rw [e]; exact r k v hk
  · have : k = ws.length := by
      have := (List.getElem?_eq_some_iff.mp hk).1
      simp at this; omega
    subst this
    have e : b.lr (ws ++ [w]) ws.length = b.lr ws ws.length := lr_congr fun i hi => getD_app hi
    rw [List.getElem?_append_right (Nat.le_refl _)] at hk
    simp at hk
    subst hk
    rw [e]; exact hw
theorem row_take {ws : List Str} (r : b.row ws) (c : Nat) : b.row (ws.take c) := by
  intro k v hk
  rw [List.getElem?_take] at hk
  split at hk
  · rename_i hlt
    have e : b.lr (ws.take c) k = b.lr ws k := lr_congr fun i hi => getD_take (by omega)
    rw [e]; exact r k v hk
  · cases hk
theorem lr_app {ws : List Str} {w : Str} : b.lr (ws ++ [w]) (ws.length + 1) = if w = "keep" then b.lr ws ws.length + 1 else 1 := by
  have e : b.lr (ws ++ [w]) ws.length = b.lr ws ws.length := lr_congr fun i hi => getD_app hi
  have e2 : (ws ++ [w]).getD ws.length "" = w := by
    rw [List.getD_eq_getElem?_getD, List.getElem?_append_right (Nat.le_refl _)]; simp
  rw [Hb.lr, e, e2]
theorem sL_turns (l : List Str) : turnsD (sL l) = false := by cases l <;> rfl
theorem iL_turns (l : List Nat) : turnsD (iL l) = false := by cases l <;> rfl
theorem addA_sL {a c : List Str} (hl : a.length + c.length < 1000) : addA (.d (.tup (sL a))) (.d (.tup (sL c))) h = some (.d (.tup (sL (a ++ c)))) := by
  have h1 : (sL a).length + (sL c).length ≤ sizeLine := lt_size (by simp [sL]; omega)
  have h2 : sL a ++ sL c = sL (a ++ c) := by simp [sL]
  simp only [addA, h1, h2, sL_turns, and_self, if_true]
theorem cutL_1 {α : Type} {a : α} {r : List α} : cutL (a :: r) (some 1) none = r := by
  have e1 : HT.sIx (a :: r).length 0 (some 1) = 1 := by simp [HT.sIx]
  have e2 : HT.sIx (a :: r).length (a :: r).length none = r.length + 1 := by simp [HT.sIx]
  unfold cutL
  rw [e1, e2]; simp
theorem drawn_ok (U : Urn T) (L : LRun T) (B : b.Ok) (s : Sd u h0 h) {k : Nat} (hk : k < 100) : ∃ (ws : List Str) (h1 : Hh), callN T (n + 3) 75 [.ref u, .d b.parts, .d (.int k)] h = .ok (.d (.tup (sL ws))) h1 ∧ Sd u h0 h1 ∧ ws.length = k ∧ b.row ws := by
  have hsl := slips_len _ B.sl
  obtain ⟨s', h', e', ws, v5, v6, hs', hh', hl, hr⟩ := loopF_inv (ft := (Tg.name 5).set) (fb := exSs T (callN T (n + 2)) fn75_b0) (m := none) (h0 := h) (xs := rngL 0 k) (s := [some (.ref u), some (.d b.parts), some (.d (.int k)), some (.d (.tup (sL []))), some (.d (.int b.gap)), none, none]) (h := h)
    (fun i s h' => ∃ (ws : List Str) (v5 v6 : Option A), s = [some (.ref u), some (.d b.parts), some (.d (.int k)), some (.d (.tup (sL ws))), some (.d (.int (b.lr ws i : Nat))), v5, v6] ∧ Sd u h0 h' ∧ ws.length = i ∧ b.row ws)
    (fun i x s2 h2 hx ⟨ws, v5, v6, q1, q2, q3, q4⟩ => by
      subst q1
      have hi : i < k := by have := (List.getElem?_eq_some_iff.mp hx).1; rwa [rngL_len] at this
      have c := q2.cl
      have e1 := let_ok (n := n + 1) (r := b.lr ws i) L c B
      replace e1 : callN T (n + 2) 73 _ _ = _ := e1
      obtain ⟨l, hl⟩ : ∃ l, l = if b.gap ≤ b.lr ws i then b.slips else [] := ⟨_, rfl⟩
      rw [← hl] at e1
      have hll : l.length ≤ 10 := by
        rw [hl]; split
        · omega
        · simp
      have e2 : sliceA (.d (.lst (sL (kp :: l)))) (some 1) none h2 = some (.d (.lst (sL l))) := by
        simp only [sliceA, asLst, allD_map]
        exact congrArg (fun x => some (A.d (.lst x))) cutL_1
      have e3 := addA_lst (h := h2) (xs := sL (kp :: l)) (ys := sL l) (by simp [sL]; omega)
      have e4 : sL (kp :: l) ++ sL l = sL (kp :: (l ++ l)) := by simp [sL]
      rw [e4] at e3
      obtain ⟨y, h3, e5, hy, s3⟩ := of_ok U (n := n) (xs := sL (kp :: (l ++ l))) q2 (by simp [sL]) (by simp [sL]; omega)
      obtain ⟨w, hw, rfl⟩ := List.mem_map.mp hy
      have hw' : w = "keep" ∨ (b.gap ≤ b.lr ws i ∧ w ∈ b.slips) := by
        rcases List.mem_cons.mp hw with e | e
        · exact .inl e
        · right
          have e : w ∈ l := (List.mem_append.mp e).elim id id
          rw [hl] at e
          split at e
          · rename_i h; exact ⟨h, e⟩
          · cases e
      subst q3
      have e6 := addA_sL (h := h3) (a := ws) (c := [w]) (by simp; omega)
      replace e6 : addA (.d (.tup (sL ws))) (.d (.tup [.str w])) h3 = _ := e6
      have e7 := lr_app (b := b) (ws := ws) (w := w)
      refine ⟨_, [some (.ref u), some (.d b.parts), some (.d (.int k)), some (.d (.tup (sL (ws ++ [w])))), some (.d (.int (b.lr (ws ++ [w]) (ws.length + 1) : Nat))), some x, some (.d (.str w))], h3, tg_name _ _ _, .inl ?_, trivial, ws ++ [w], some x, some (.d (.str w)), rfl, s3, by simp, row_app q4 hw'⟩
      rw [e7]
      by_cases ek : w = "keep"
      · have q1 : (w == "keep") = true := beq_iff_eq.mpr ek
        have q2 : ((b.lr ws ws.length : Nat) : Int) + 1 = ((b.lr ws ws.length + 1 : Nat) : Int) := by omega
        rw [if_pos ek]
        simp -implicitDefEqProofs only [fn75_b0, fn75_b1, fn75_b2, exSs, exS1, ev, evT, evP, evs, evB, evo_none, evo_some, evc_none, evc_some, evi_val, evi_rng, evi_enum, evL, evLs, vt, getS, opt_some, optH_some, Out.bind_ok, Out.bind_ex, Out.st_ok, Out.st_ex, OS.seq_nx, OS.seq_rt, OS.seq_ex, OS.seq_ct, OS.seq_bk, startS, Es.len, tg_name, tg_tup, tgs_nil, tgs_cons, Tgs.len, Lvs.len, setAll, List.getElem?_cons_zero, List.getElem?_cons_succ, List.set_cons_zero, List.set_cons_succ, List.map_cons, List.map_nil, List.cons_append, List.nil_append, List.replicate, List.length_cons, List.length_nil, Nat.reduceAdd, Nat.reduceSub, if_true, if_false, if_pos, reduceIte, reduceCtorEq, finC, blA, argF, plainSh, List.range', fillA, callF, Option.map_some, Option.bind_some, Option.map_none, Option.bind_none, and_self, true_and, and_true, intA, wipeS, Bool.not_true, Bool.not_false, Bool.false_eq_true, decide_true, decide_false, Bool.true_eq_false, clsA, binA, cmpO, cmpA, mtF, biF, Mt.ty, bmF, tyA, truthO, truthA, truthD, ne_eq, not_true_eq_false, not_false_eq_true, String.reduceBEq, beq_self_eq_true, L.s73, L.n73, e1, e2, e3, U.s16, U.n16, e5, eqO_str, q1, addA_int, q2, tupA_1, e6]
      · have q1 : (w == "keep") = false := beq_eq_false_iff_ne.mpr ek
        rw [if_neg ek]
        simp -implicitDefEqProofs only [fn75_b0, fn75_b1, fn75_b2, exSs, exS1, ev, evT, evP, evs, evB, evo_none, evo_some, evc_none, evc_some, evi_val, evi_rng, evi_enum, evL, evLs, vt, getS, opt_some, optH_some, Out.bind_ok, Out.bind_ex, Out.st_ok, Out.st_ex, OS.seq_nx, OS.seq_rt, OS.seq_ex, OS.seq_ct, OS.seq_bk, startS, Es.len, tg_name, tg_tup, tgs_nil, tgs_cons, Tgs.len, Lvs.len, setAll, List.getElem?_cons_zero, List.getElem?_cons_succ, List.set_cons_zero, List.set_cons_succ, List.map_cons, List.map_nil, List.cons_append, List.nil_append, List.replicate, List.length_cons, List.length_nil, Nat.reduceAdd, Nat.reduceSub, if_true, if_false, if_pos, reduceIte, reduceCtorEq, finC, blA, argF, plainSh, List.range', fillA, callF, Option.map_some, Option.bind_some, Option.map_none, Option.bind_none, and_self, true_and, and_true, intA, wipeS, Bool.not_true, Bool.not_false, Bool.false_eq_true, decide_true, decide_false, Bool.true_eq_false, clsA, binA, cmpO, cmpA, mtF, biF, Mt.ty, bmF, tyA, truthO, truthA, truthD, ne_eq, not_true_eq_false, not_false_eq_true, String.reduceBEq, beq_self_eq_true, L.s73, L.n73, e1, e2, e3, U.s16, U.n16, e5, eqO_str, q1, tupA_1, e6]
        rfl)
    ⟨[], none, none, rfl, s, rfl, fun k w hk => by simp at hk⟩
  subst hs'
  rw [rngL_len] at hl
  refine ⟨ws, h', callN_rt L.f75 rfl ?_ (s.ret hh'), hh', hl, hr⟩
  have er : rngA [.d (.int k)] = some (rngL 0 k, none) := rng1 (by omega)
  replace e' : loopF (Tg.name 5).set (exSs T (callN T (n + 2)) fn75_b0) none h (rngL 0 k) [some (.ref u), some (.d b.parts), some (.d (.int k)), some (.d (.tup [])), some (.d (.int b.gap)), none, none] h = _ := e'
  simp -implicitDefEqProofs only [fn75_a0, fn75_a1, fn75_a2, exSs, exS1, ev, evT, evP, evs, evB, evo_none, evo_some, evc_none, evc_some, evi_val, evi_rng, evi_enum, evL, evLs, vt, getS, opt_some, optH_some, Out.bind_ok, Out.bind_ex, Out.st_ok, Out.st_ex, OS.seq_nx, OS.seq_rt, OS.seq_ex, OS.seq_ct, OS.seq_bk, startS, Es.len, tg_name, tg_tup, tgs_nil, tgs_cons, Tgs.len, Lvs.len, setAll, List.getElem?_cons_zero, List.getElem?_cons_succ, List.set_cons_zero, List.set_cons_succ, List.map_cons, List.map_nil, List.cons_append, List.nil_append, List.replicate, List.length_cons, List.length_nil, Nat.reduceAdd, Nat.reduceSub, if_true, if_false, if_pos, reduceIte, reduceCtorEq, finC, blA, argF, plainSh, List.range', fillA, callF, Option.map_some, Option.bind_some, Option.map_none, Option.bind_none, and_self, true_and, and_true, intA, wipeS, Bool.not_true, Bool.not_false, Bool.false_eq_true, decide_true, decide_false, Bool.true_eq_false, clsA, binA, cmpO, cmpA, mtF, biF, Mt.ty, bmF, tyA, truthO, truthA, truthD, ne_eq, not_true_eq_false, not_false_eq_true, String.reduceBEq, beq_self_eq_true, tupA_0, pt4, er, e']
theorem tupleA_ref {ds : List D} : tupleA [.ref h.length] (h ++ [.lst (ds.map .d)]) = some (.d (.tup ds), h ++ [.lst (ds.map .d)]) := by
  simp only [tupleA, asLst, get_app, allD_map, Option.map_some]
theorem lway_ok (K : Core T) (L : LRun T) (c : Clo h) (B : b.Ok) {p : Nat} {ws : List Str} (hr : b.row ws) (hp : p < b.size) (hl : ws.length < 1000) : callN T (n + 3) 76 [.d b.parts, .d (.int p), .d (.tup (sL ws))] h = .ok (.d (.tup (iL (b.poss p ws)))) h := by
  obtain ⟨s', h', e', v4, hs', hh'⟩ := loopF_inv (ft := (Tg.name 4).set) (fb := exSs T (callN T (n + 2)) fn76_b0) (m := none) (h0 := h ++ [.lst ((iL ((List.range 1).map (b.pos p ws))).map .d)]) (xs := rngL 0 ws.length) (s := [some (.d b.parts), some (.d (.int p)), some (.d (.tup (sL ws))), some (.ref h.length), none]) (h := h ++ [.lst ((iL ((List.range 1).map (b.pos p ws))).map .d)])
    (fun k s h' => ∃ v4, s = [some (.d b.parts), some (.d (.int p)), some (.d (.tup (sL ws))), some (.ref h.length), v4] ∧ h' = h ++ [.lst ((iL ((List.range (k + 1)).map (b.pos p ws))).map .d)])
    (fun k x s2 h2 hk ⟨v4, q1, q2⟩ => by
      subst q1 q2
      obtain ⟨hkl, rfl⟩ := rngL_get hk
      have hw : ws[k]? = some ws[k] := List.getElem?_eq_getElem hkl
      have hgd : ws.getD k "" = ws[k] := by rw [List.getD_eq_getElem?_getD, hw]; rfl
      obtain ⟨w1, _⟩ := hr.ok B hw
      have cc : Clo (h ++ [.lst ((iL ((List.range (k + 1)).map (b.pos p ws))).map .d)]) := c.app (lst_below _ _)
      have e0 : subF (.ref h.length) (.d (.int (-1))) (h ++ [.lst ((iL ((List.range (k + 1)).map (b.pos p ws))).map .d)]) = some (.d (.int (b.pos p ws k : Nat))) := by
        rw [subF_ref get_app, List.range_succ, iL, List.map_append, List.map_append, List.map_append]
        exact atI_m1
      have e1 : ∀ h, subF (.d (.tup (sL ws))) (.d (.int k)) h = some (.d (.str ws[k])) := fun h => by
        rw [subF_tup, atI_nat, sL, List.getElem?_map, List.getElem?_map, hw]; rfl
      have e2 := next_ok (n := n) (k := k) K L cc B w1 (B.pos_lt (ws := ws) hp k)
      have e3 : b.nxt k ws[k] (b.pos p ws k) = b.pos p ws (k + 1) := by rw [Hb.pos, hgd]
      rw [e3] at e2
      have hap : ((iL ((List.range (k + 1)).map (b.pos p ws))).map A.d).length < sizeLine := lt_size (by simp [iL]; omega)
      have hex : (iL ((List.range (k + 1)).map (b.pos p ws))).map A.d ++ [A.d (.int (b.pos p ws (k + 1) : Nat))] = (iL ((List.range (k + 1 + 1)).map (b.pos p ws))).map .d := by
        simp [iL, List.range_succ]
      rw [show (0 : Int) + (k : Int) = (k : Int) by omega]
      refine ⟨_, [some (.d b.parts), some (.d (.int p)), some (.d (.tup (sL ws))), some (.ref h.length), some (.d (.int k))], h ++ [.lst ((iL ((List.range (k + 1 + 1)).map (b.pos p ws))).map .d)], tg_name _ _ _, .inl ?_, trivial, _, rfl, rfl⟩
      simp -implicitDefEqProofs only [fn76_b0, exSs, exS1, ev, evT, evP, evs, evB, evo_none, evo_some, evc_none, evc_some, evi_val, evi_rng, evi_enum, evL, evLs, vt, getS, opt_some, optH_some, Out.bind_ok, Out.bind_ex, Out.st_ok, Out.st_ex, OS.seq_nx, OS.seq_rt, OS.seq_ex, OS.seq_ct, OS.seq_bk, startS, Es.len, tg_name, tg_tup, tgs_nil, tgs_cons, Tgs.len, Lvs.len, setAll, List.getElem?_cons_zero, List.getElem?_cons_succ, List.set_cons_zero, List.set_cons_succ, List.map_cons, List.map_nil, List.cons_append, List.nil_append, List.replicate, List.length_cons, List.length_nil, Nat.reduceAdd, Nat.reduceSub, if_true, if_false, if_pos, reduceIte, reduceCtorEq, finC, blA, argF, plainSh, List.range', fillA, callF, Option.map_some, Option.bind_some, Option.map_none, Option.bind_none, and_self, true_and, and_true, intA, wipeS, Bool.not_true, Bool.not_false, Bool.false_eq_true, decide_true, decide_false, Bool.true_eq_false, clsA, binA, cmpO, cmpA, mtF, biF, Mt.ty, bmF, tyA, truthO, truthA, truthD, ne_eq, not_true_eq_false, not_false_eq_true, String.reduceBEq, beq_self_eq_true, negA, e0, e1, L.s74, L.n74, e2, get_app, set_app, appendM, hap, hex])
    ⟨none, rfl, rfl⟩
  subst hs' hh'
  rw [rngL_len] at e'
  have hn := newL_m (h := h) (xs := [A.d (.int p)]) (by simp)
  have h00 : [A.d (.int p)] = (iL ((List.range 1).map (b.pos p ws))).map .d := by simp [iL, List.range_succ, Hb.pos]
  rw [h00] at hn
  have hl2 : ∀ (C : CallT) (tb : Nat → Option Nat) (h : Hh), lenO C tb [.d (.tup (sL ws))] h = some (.d (.int ws.length), h) := fun C tb h => by rw [lenO_tup, sL, List.length_map]
  have er : rngA [.d (.int ws.length)] = some (rngL 0 ws.length, none) := rng1 (by omega)
  refine callN_rt L.f76 rfl ?_ (retD c [.lst ((iL ((List.range (ws.length + 1)).map (b.pos p ws))).map .d)])
  simp -implicitDefEqProofs only [fn76_a0, fn76_a1, fn76_a2, exSs, exS1, ev, evT, evP, evs, evB, evo_none, evo_some, evc_none, evc_some, evi_val, evi_rng, evi_enum, evL, evLs, vt, getS, opt_some, optH_some, Out.bind_ok, Out.bind_ex, Out.st_ok, Out.st_ex, OS.seq_nx, OS.seq_rt, OS.seq_ex, OS.seq_ct, OS.seq_bk, startS, Es.len, tg_name, tg_tup, tgs_nil, tgs_cons, Tgs.len, Lvs.len, setAll, List.getElem?_cons_zero, List.getElem?_cons_succ, List.set_cons_zero, List.set_cons_succ, List.map_cons, List.map_nil, List.cons_append, List.nil_append, List.replicate, List.length_cons, List.length_nil, Nat.reduceAdd, Nat.reduceSub, if_true, if_false, if_pos, reduceIte, reduceCtorEq, finC, blA, argF, plainSh, List.range', fillA, callF, Option.map_some, Option.bind_some, Option.map_none, Option.bind_none, and_self, true_and, and_true, intA, wipeS, Bool.not_true, Bool.not_false, Bool.false_eq_true, decide_true, decide_false, Bool.true_eq_false, clsA, binA, cmpO, cmpA, mtF, biF, Mt.ty, bmF, tyA, truthO, truthA, truthD, ne_eq, not_true_eq_false, not_false_eq_true, String.reduceBEq, beq_self_eq_true, h00, hn, hl2, er, e', tupleA_ref]
  rfl
theorem lisrow_ok (f77 : T.fn 77 = some fn77) (K : Core T) (c : Clo h) (B : b.Ok) {ws : List Str} (hr : b.row ws) (hl : ws.length < 1000) : callN T (n + 1) 77 [.d b.parts, .d (.tup (sL ws))] h = .ok (.d (.bl true)) h := by
  have hsl := slips_len _ B.sl
  obtain ⟨s', h', e', v3, hs', hh'⟩ := loopF_inv (ft := (Tg.name 3).set) (fb := exSs T (callN T n) fn77_c0) (m := none) (h0 := h) (xs := rngL 0 ws.length) (s := [some (.d b.parts), some (.d (.tup (sL ws))), some (.d (.int (0 - (b.gap : Int)))), none]) (h := h)
    (fun k s h' => ∃ v3, s = [some (.d b.parts), some (.d (.tup (sL ws))), some (.d (.int ((k : Int) - (b.lr ws k : Nat)))), v3] ∧ h' = h)
    (fun k x s2 h2 hk ⟨v3, q1, q2⟩ => by
      subst q1
      rw [q2]
      obtain ⟨hkl, rfl⟩ := rngL_get hk
      have hw : ws[k]? = some ws[k] := List.getElem?_eq_getElem hkl
      have hgd : ws.getD k "" = ws[k] := by rw [List.getD_eq_getElem?_getD, hw]; rfl
      have e1 : subF (.d (.tup (sL ws))) (.d (.int k)) h = some (.d (.str ws[k])) := by
        rw [subF_tup, atI_nat, sL, List.getElem?_map, List.getElem?_map, hw]; rfl
      have e2 := addA_sL (h := h) (a := [kp]) (c := b.slips) (by simp; omega)
      replace e2 : addA (.d (.tup [.str "keep"])) (.d (.tup (sL b.slips))) h = some (.d (.tup (sL (kp :: b.slips)))) := e2
      have e3 := inA_tup (h := h) (x := ws[k]) (l := kp :: b.slips)
      have e4 : ws[k] ∈ kp :: b.slips := by
        rcases hr k _ hw with e | ⟨_, e⟩
        · rw [e]; exact List.mem_cons_self
        · exact List.mem_cons_of_mem _ e
      rw [decide_eq_true e4] at e3
      rw [show (0 : Int) + (k : Int) = (k : Int) by omega]
      refine ⟨_, [some (.d b.parts), some (.d (.tup (sL ws))), some (.d (.int (((k + 1 : Nat) : Int) - (b.lr ws (k + 1) : Nat)))), some (.d (.int k))], h, tg_name _ _ _, .inl ?_, trivial, _, rfl, rfl⟩
      by_cases ek : ws[k] = "keep"
      · have q1 : (ws[k] != "keep") = false := by rw [ek]; exact bne_self_eq_false _
        have q2 : b.lr ws (k + 1) = b.lr ws k + 1 := by rw [Hb.lr, hgd, if_pos ek]
        have q3 : (((k + 1 : Nat) : Int) - (b.lr ws (k + 1) : Nat)) = (k : Int) - (b.lr ws k : Nat) := by rw [q2]; omega
        rw [q3]
        simp -implicitDefEqProofs only [fn77_c0, fn77_c1, fn77_d0, exSs, exS1, ev, evT, evP, evs, evB, evo_none, evo_some, evc_none, evc_some, evi_val, evi_rng, evi_enum, evL, evLs, vt, getS, opt_some, optH_some, Out.bind_ok, Out.bind_ex, Out.st_ok, Out.st_ex, OS.seq_nx, OS.seq_rt, OS.seq_ex, OS.seq_ct, OS.seq_bk, startS, Es.len, tg_name, tg_tup, tgs_nil, tgs_cons, Tgs.len, Lvs.len, setAll, List.getElem?_cons_zero, List.getElem?_cons_succ, List.set_cons_zero, List.set_cons_succ, List.map_cons, List.map_nil, List.cons_append, List.nil_append, List.replicate, List.length_cons, List.length_nil, Nat.reduceAdd, Nat.reduceSub, if_true, if_false, if_pos, reduceIte, reduceCtorEq, finC, blA, argF, plainSh, List.range', fillA, callF, Option.map_some, Option.bind_some, Option.map_none, Option.bind_none, and_self, true_and, and_true, intA, wipeS, Bool.not_true, Bool.not_false, Bool.false_eq_true, decide_true, decide_false, Bool.true_eq_false, clsA, binA, cmpO, cmpA, mtF, biF, Mt.ty, bmF, tyA, truthO, truthA, truthD, ne_eq, not_true_eq_false, not_false_eq_true, String.reduceBEq, beq_self_eq_true, e1, kindA, kindD, K.i_str_str, tupA_1, pt3, e2, inA0, e3, neO_str, q1]
      · have q1 : (ws[k] != "keep") = true := by rw [bne_iff_ne]; exact ek
        have q2 : b.lr ws (k + 1) = 1 := by rw [Hb.lr, hgd, if_neg ek]
        have q3 : (((k + 1 : Nat) : Int) - (b.lr ws (k + 1) : Nat)) = (k : Int) := by rw [q2]; omega
        have q4 : ¬ (k : Int) - ((k : Int) - (b.lr ws k : Nat)) < (b.gap : Int) := by
          rcases hr k _ hw with e | ⟨e, _⟩
          · exact absurd e ek
          · omega
        rw [q3]
        simp -implicitDefEqProofs only [fn77_c0, fn77_c1, fn77_d0, fn77_e0, fn77_e1, fn77_f0, exSs, exS1, ev, evT, evP, evs, evB, evo_none, evo_some, evc_none, evc_some, evi_val, evi_rng, evi_enum, evL, evLs, vt, getS, opt_some, optH_some, Out.bind_ok, Out.bind_ex, Out.st_ok, Out.st_ex, OS.seq_nx, OS.seq_rt, OS.seq_ex, OS.seq_ct, OS.seq_bk, startS, Es.len, tg_name, tg_tup, tgs_nil, tgs_cons, Tgs.len, Lvs.len, setAll, List.getElem?_cons_zero, List.getElem?_cons_succ, List.set_cons_zero, List.set_cons_succ, List.map_cons, List.map_nil, List.cons_append, List.nil_append, List.replicate, List.length_cons, List.length_nil, Nat.reduceAdd, Nat.reduceSub, if_true, if_false, if_pos, reduceIte, reduceCtorEq, finC, blA, argF, plainSh, List.range', fillA, callF, Option.map_some, Option.bind_some, Option.map_none, Option.bind_none, and_self, true_and, and_true, intA, wipeS, Bool.not_true, Bool.not_false, Bool.false_eq_true, decide_true, decide_false, Bool.true_eq_false, clsA, binA, cmpO, cmpA, mtF, biF, Mt.ty, bmF, tyA, truthO, truthA, truthD, ne_eq, not_true_eq_false, not_false_eq_true, String.reduceBEq, beq_self_eq_true, e1, kindA, kindD, K.i_str_str, tupA_1, pt3, pt4, e2, inA0, e3, neO_str, q1, subA, ordA, q4])
    ⟨none, by simp [Hb.lr], rfl⟩
  subst hs'
  rw [rngL_len, hh'] at e'
  have hl2 : ∀ (C : CallT) (tb : Nat → Option Nat) (h : Hh), lenO C tb [.d (.tup (sL ws))] h = some (.d (.int ws.length), h) := fun C tb h => by rw [lenO_tup, sL, List.length_map]
  have er : rngA [.d (.int ws.length)] = some (rngL 0 ws.length, none) := rng1 (by omega)
  refine callN_rt f77 rfl ?_ (retD0 c)
  simp -implicitDefEqProofs only [fn77_a0, fn77_a1, fn77_a2, fn77_a3, fn77_b0, exSs, exS1, ev, evT, evP, evs, evB, evo_none, evo_some, evc_none, evc_some, evi_val, evi_rng, evi_enum, evL, evLs, vt, getS, opt_some, optH_some, Out.bind_ok, Out.bind_ex, Out.st_ok, Out.st_ex, OS.seq_nx, OS.seq_rt, OS.seq_ex, OS.seq_ct, OS.seq_bk, startS, Es.len, tg_name, tg_tup, tgs_nil, tgs_cons, Tgs.len, Lvs.len, setAll, List.getElem?_cons_zero, List.getElem?_cons_succ, List.set_cons_zero, List.set_cons_succ, List.map_cons, List.map_nil, List.cons_append, List.nil_append, List.replicate, List.length_cons, List.length_nil, Nat.reduceAdd, Nat.reduceSub, if_true, if_false, if_pos, reduceIte, reduceCtorEq, finC, blA, argF, plainSh, List.range', fillA, callF, Option.map_some, Option.bind_some, Option.map_none, Option.bind_none, and_self, true_and, and_true, intA, wipeS, Bool.not_true, Bool.not_false, Bool.false_eq_true, decide_true, decide_false, Bool.true_eq_false, clsA, binA, cmpO, cmpA, mtF, biF, Mt.ty, bmF, tyA, truthO, truthA, truthD, ne_eq, not_true_eq_false, not_false_eq_true, String.reduceBEq, beq_self_eq_true, kindA, kindD, K.i_tuple_tuple, pt4, subA, hl2, er, e']
end
end MP
end S_RWd
section S_RLc
/-! RLc: all([_law_right(_law_urn(cells, k)) for k in range(max(2, min(len(cells), 5)))]). -/
namespace MP
open PySem L2
section
variable {T : Tab} {n u : Nat} {h0 h h1 h2 : Hh}
theorem law_all (U : Urn T) {fR fL : Nat} {x0 : E} {a0 : Ss} (hx : x0 = .call fR [] (.cons (.call 14 [] (.cons (.var 0) (.cons (.var 1) .nil)) .nil) .nil) .nil)
    (ha0 : a0 = .cons (.ret (.bi .all (.cons (.comp false x0 [1] (.name 1) (.rng (.cons (.bi .max (.cons (.k (.int 2)) (.cons (.bi .min (.cons (.bi .len (.cons (.var 0) .nil)) (.cons (.k (.int 5)) .nil))) .nil))) .nil)) .none) .nil))) .nil)
    (f : T.fn fL = some ⟨1, 2, a0, false⟩) (s1 : T.shape fR 1 [] = some (plainSh 1)) (n1 : T.np fR = 1)
    (hr : ∀ (u : Nat) (h0 h : Hh), Sd u h0 h → ∃ h1, callN T (n + 1) fR [.ref u] h = .ok (.d (.bl true)) h1 ∧ Sd u h0 h1) {ns : List Int} (hn : ns.length ≤ 63) : ∃ h', callN T (n + 2) fL [.d (.scr ns)] [] = .ok (.d (.bl true)) h' := by
  have key : ∀ m : Nat, m < 1000 → ∃ h', loopC (turnC (Tg.name 1).set (evc T (callN T (n + 1)) .none) (evP T (callN T (n + 1)) x0).v [some (.d (.scr ns)), none]) none [] (rngL 0 m) [] = .ok (((List.range m).map fun _ => D.bl true).map .d) h' := fun m hm => by
    obtain ⟨ys, h1, e, hy, _⟩ := loopC_inv (fe := turnC (Tg.name 1).set (evc T (callN T (n + 1)) .none) (evP T (callN T (n + 1)) x0).v [some (.d (.scr ns)), none]) (m := none) (h0 := []) (xs := rngL 0 m)
      (fun k ys h1 => ys = ((List.range k).map fun _ => D.bl true).map .d ∧ Clo h1)
      (fun k x ys h1 hx' ⟨e1, c⟩ => by
        obtain ⟨hk, rfl⟩ := rngL_get hx'
        rw [show (0 : Int) + (k : Int) = (k : Int) by omega]
        obtain ⟨a, q, a1, q1, q2, eu⟩ := urn_ok (n := n) (h := h1) (k := k) U hn (by omega)
        obtain ⟨h2, er, s2⟩ := hr _ _ _ (Sd.start c a1 q1 (by omega))
        refine ⟨some (.d (.bl true)), h2, ?_, trivial, ?_, s2.cl⟩
        · rw [turnC_name]
          subst hx
          simp -implicitDefEqProofs only [exSs, exS1, ev, evT, evP, evs, evB, evo_none, evo_some, evc_none, evc_some, evi_val, evi_rng, evi_enum, evL, evLs, vt, getS, opt_some, optH_some, Out.bind_ok, Out.bind_ex, Out.st_ok, Out.st_ex, OS.seq_nx, OS.seq_rt, OS.seq_ex, OS.seq_ct, OS.seq_bk, startS, Es.len, tg_name, tg_tup, tgs_nil, tgs_cons, Tgs.len, Lvs.len, setAll, List.getElem?_cons_zero, List.getElem?_cons_succ, List.set_cons_zero, List.set_cons_succ, List.map_cons, List.map_nil, List.cons_append, List.nil_append, List.replicate, List.length_cons, List.length_nil, Nat.reduceAdd, Nat.reduceSub, if_true, if_false, if_pos, reduceIte, reduceCtorEq, finC, blA, argF, plainSh, List.range', fillA, callF, Option.map_some, Option.bind_some, Option.map_none, Option.bind_none, and_self, true_and, and_true, intA, wipeS, Bool.not_true, Bool.not_false, Bool.false_eq_true, decide_true, decide_false, Bool.true_eq_false, clsA, binA, cmpO, cmpA, mtF, biF, Mt.ty, bmF, tyA, truthO, truthA, truthD, ne_eq, not_true_eq_false, not_false_eq_true, String.reduceBEq, beq_self_eq_true, U.s14, U.n14, eu, s1, n1, er]
        · subst e1; simp [List.range_succ])
      (h := []) ⟨rfl, Clo.nil⟩
    rw [rngL_len] at hy
    subst hy
    exact ⟨h1, e⟩
  obtain ⟨m, hm, hmax⟩ : ∃ m : Nat, m < 1000 ∧ (if (if (5 : Int) < (ns.length : Int) then 5 else (ns.length : Int)) > 2 then (if (5 : Int) < (ns.length : Int) then 5 else (ns.length : Int)) else 2) = (m : Int) := by
    refine ⟨if (if 5 < ns.length then 5 else ns.length) > 2 then (if 5 < ns.length then 5 else ns.length) else 2, by split <;> (try split) <;> omega, ?_⟩
    by_cases h1 : 5 < ns.length
    · have : (5 : Int) < (ns.length : Int) := by omega
      simp [h1, this]
    · have h1' : ¬ (5 : Int) < (ns.length : Int) := by omega
      simp only [h1, h1', if_false]
      by_cases h2 : ns.length > 2
      · have : (ns.length : Int) > 2 := by omega
        simp [h2, this]
      · have : ¬ (ns.length : Int) > 2 := by omega
        simp [h2, this]
  obtain ⟨h', e⟩ := key m hm
  have hc : compF false (evi T (callN T (n + 1)) (.rng (.cons (.bi .max (.cons (.k (.int 2)) (.cons (.bi .min (.cons (.bi .len (.cons (.var 0) .nil)) (.cons (.k (.int 5)) .nil))) .nil))) .nil))) (Tg.name 1).set (evc T (callN T (n + 1)) .none) (evP T (callN T (n + 1)) x0).v [1] [some (.d (.scr ns)), none] [] = .ok (.d (.lst ((List.range m).map fun _ => D.bl true))) h' := by
    refine compF_of (p := (rngL 0 m, none)) (h1 := []) (r := (.d (.lst ((List.range m).map fun _ => D.bl true)), h')) ?_ e (newL_d (lt_size (by simp; omega)))
    simp -implicitDefEqProofs only [exSs, exS1, ev, evT, evP, evs, evB, evo_none, evo_some, evc_none, evc_some, evi_val, evi_rng, evi_enum, evL, evLs, vt, getS, opt_some, optH_some, Out.bind_ok, Out.bind_ex, Out.st_ok, Out.st_ex, OS.seq_nx, OS.seq_rt, OS.seq_ex, OS.seq_ct, OS.seq_bk, startS, Es.len, tg_name, tg_tup, tgs_nil, tgs_cons, Tgs.len, Lvs.len, setAll, List.getElem?_cons_zero, List.getElem?_cons_succ, List.set_cons_zero, List.set_cons_succ, List.map_cons, List.map_nil, List.cons_append, List.nil_append, List.replicate, List.length_cons, List.length_nil, Nat.reduceAdd, Nat.reduceSub, if_true, if_false, if_pos, reduceIte, reduceCtorEq, finC, blA, argF, plainSh, List.range', fillA, callF, Option.map_some, Option.bind_some, Option.map_none, Option.bind_none, and_self, true_and, and_true, intA, wipeS, Bool.not_true, Bool.not_false, Bool.false_eq_true, decide_true, decide_false, Bool.true_eq_false, clsA, binA, cmpO, cmpA, mtF, biF, Mt.ty, bmF, tyA, truthO, truthA, truthD, ne_eq, not_true_eq_false, not_false_eq_true, String.reduceBEq, beq_self_eq_true, addA_int, addA_str, subA, mulA, fdivA, modA, powA, ordA, negA, intTA, divmodA, absA, lenO, lenA, maxA, minA, max2A, min2A, hmax, rng1 (show m < 1000000 by omega)]
  have ha : allA [.d (.lst ((List.range m).map fun _ => D.bl true))] h' = some (.d (.bl true), h') := by
    have := all_true (l := (List.range m).map fun _ => A.ref 0) (h := h')
    rwa [List.map_map] at this
  refine ⟨[], callN_rt f rfl ?_ (retD Clo.nil h')⟩
  subst ha0
  simp -implicitDefEqProofs only [exSs, exS1, ev, evT, evP, evs, evB, evo_none, evo_some, evc_none, evc_some, evi_val, evi_rng, evi_enum, evL, evLs, vt, getS, opt_some, optH_some, Out.bind_ok, Out.bind_ex, Out.st_ok, Out.st_ex, OS.seq_nx, OS.seq_rt, OS.seq_ex, OS.seq_ct, OS.seq_bk, startS, Es.len, tg_name, tg_tup, tgs_nil, tgs_cons, Tgs.len, Lvs.len, setAll, List.getElem?_cons_zero, List.getElem?_cons_succ, List.set_cons_zero, List.set_cons_succ, List.map_cons, List.map_nil, List.cons_append, List.nil_append, List.replicate, List.length_cons, List.length_nil, Nat.reduceAdd, Nat.reduceSub, if_true, if_false, if_pos, reduceIte, reduceCtorEq, finC, blA, argF, plainSh, List.range', fillA, callF, Option.map_some, Option.bind_some, Option.map_none, Option.bind_none, and_self, true_and, and_true, intA, wipeS, Bool.not_true, Bool.not_false, Bool.false_eq_true, decide_true, decide_false, Bool.true_eq_false, clsA, binA, cmpO, cmpA, mtF, biF, Mt.ty, bmF, tyA, truthO, truthA, truthD, ne_eq, not_true_eq_false, not_false_eq_true, String.reduceBEq, beq_self_eq_true, hc, ha]
end
end MP
end S_RLc
section S_RK08
/-! RK08: law k08, its own part. -/
namespace MP
open PySem L2
structure K08 (T : Tab) : Prop where
  f20 : T.fn 20 = some fn20
  n20 : T.np 20 = 1
  s20 : T.shape 20 1 [] = some (plainSh 1)
  s19 : T.shape 19 3 [] = some (plainSh 3)
  f71 : T.fn 71 = some fn71
  n71 : T.np 71 = 3
  s71 : T.shape 71 3 [] = some (plainSh 3)
  s71k : T.shape 71 0 [("row" : Str), ("start" : Str), ("habit" : Str)] = some [.inl 2, .inl 1, .inl 0]
  f77 : T.fn 77 = some fn77
  n77 : T.np 77 = 2
  s77 : T.shape 77 2 [] = some (plainSh 2)
  f78 : T.fn 78 = some fn78
  n78 : T.np 78 = 1
  s78 : T.shape 78 1 [] = some (plainSh 1)
  f79 : T.fn 79 = some fn79
section
variable {T : Tab} {n u : Nat} {h0 h h1 h2 : Hh} {b : Hb}
theorem made' (K : Core T) (c : Clo h) (B : b.Ok) : madeF false h.length 1 5 (callN T (n + 5) 24 [.ref h.length, .d (.int b.size), .d (.tup (b.turns.map turnD)), .d (.tup (b.cal.map enD)), .d (.tup (sL b.slips)), .d (.int b.gap)] (h ++ [.ins 1 []])) = .ok (.d b.o) h := by
  have := made_ok (n := n) K c B
  simpa only [callF, List.length_cons, List.length_nil, Nat.reduceAdd, if_true] using this
theorem lmade_ok (K : Core T) (f20 : T.fn 20 = some fn20) (c : Clo h) (B : b.Ok) : callN T (n + 6) 20 [.d b.parts] h = .ok (.d b.o) h := by
  refine callN_rt f20 rfl ?_ (retD0 c)
  simp -implicitDefEqProofs only [fn20_a0, exSs, exS1, ev, evT, evP, evs, evB, evo_none, evo_some, evc_none, evc_some, evi_val, evi_rng, evi_enum, evL, evLs, vt, getS, opt_some, optH_some, Out.bind_ok, Out.bind_ex, Out.st_ok, Out.st_ex, OS.seq_nx, OS.seq_rt, OS.seq_ex, OS.seq_ct, OS.seq_bk, startS, Es.len, tg_name, tg_tup, tgs_nil, tgs_cons, Tgs.len, Lvs.len, setAll, List.getElem?_cons_zero, List.getElem?_cons_succ, List.set_cons_zero, List.set_cons_succ, List.map_cons, List.map_nil, List.cons_append, List.nil_append, List.replicate, List.length_cons, List.length_nil, Nat.reduceAdd, Nat.reduceSub, if_true, if_false, if_pos, reduceIte, reduceCtorEq, finC, blA, argF, plainSh, List.range', fillA, callF, Option.map_some, Option.bind_some, Option.map_none, Option.bind_none, and_self, true_and, and_true, intA, wipeS, Bool.not_true, Bool.not_false, Bool.false_eq_true, decide_true, decide_false, Bool.true_eq_false, clsA, binA, cmpO, cmpA, mtF, biF, Mt.ty, bmF, tyA, truthO, truthA, truthD, ne_eq, not_true_eq_false, not_false_eq_true, String.reduceBEq, beq_self_eq_true, pt0, pt1, pt2, pt3, pt4, K.c1, K.s24, K.n24, K.lay1, makeF, made' K c B]
theorem cutL_take {α : Type} {xs : List α} {c : Nat} : cutL xs none (some (c : Int)) = xs.take c := by
  unfold cutL
  rw [HT.sIx_nat, HT.sIx_none, List.drop_zero, Nat.sub_zero]
  by_cases h : c ≤ xs.length
  · rw [Nat.min_eq_left h]
  · rw [Nat.min_eq_right (by omega), List.take_length, List.take_of_length_le (by omega)]
theorem poss_take {p : Nat} {ws : List Str} {c : Nat} (hc : c ≤ ws.length) : b.poss p (ws.take c) = (b.poss p ws).take (c + 1) := by
  unfold Hb.poss
  rw [← List.map_take, List.take_range, List.length_take, Nat.min_eq_left hc, Nat.min_eq_left (by omega)]
  refine List.map_congr_left fun k hk => ?_
  rw [List.mem_range] at hk
  exact pos_congr fun i hi => getD_take (by omega)
theorem poss_len {p : Nat} {ws : List Str} : (b.poss p ws).length = ws.length + 1 := by simp [Hb.poss]
theorem shw_poss (B : b.Ok) {p : Nat} {ws : List Str} (hp : p < b.size) (hl : ws.length ≤ 30) : Shw 1 1000 (.tup (iL (b.poss p ws))) := by
  have s2 := B.s2
  refine (Shw.tup (xs := iL (b.poss p ws)) (k := 0) (B := 1) (m := 31) (fun x hx => ?_) (by simp [iL, poss_len]; omega)).mono (by decide) (by decide)
  obtain ⟨k, hk, rfl⟩ := List.mem_map.mp hx
  obtain ⟨j, _, rfl⟩ := List.mem_map.mp hk
  exact Shw.nat (by have := B.pos_lt (ws := ws) hp j; omega)
theorem turn08 (K : Core T) (U : Urn T) (I : Img T) (R : Run T) (L : LRun T) (P : K08 T) (B : b.Ok) (s : Sd u h0 h) {v1 v4 v5 v6 v7 v8 v9 : Option A} : ∃ h1 w5 w6 w7 w8 w9, Sd u h0 h1 ∧ exSs T (callN T (n + 8)) fn78_c0 [some (.ref u), v1, some (.d b.parts), some (.d b.o), v4, v5, v6, v7, v8, v9] h = .nx [some (.ref u), v1, some (.d b.parts), some (.d b.o), v4, w5, w6, w7, w8, w9] h1 := by
  have s1 := B.s1; have s2 := B.s2
  obtain ⟨r, h1, e1, r1, r2, sd1⟩ := take_ok U (n := n + 7) (m := b.size) s (by omega) (by omega)
  obtain ⟨p, rfl⟩ := Int.eq_ofNat_of_zero_le r1
  replace e1 : callN T (n + 8) 15 _ _ = _ := e1
  have hp : p < b.size := by omega
  obtain ⟨r, h2, e2, r3, r4, sd2⟩ := take_ok U (n := n + 7) (m := 21) sd1 (by decide) (by decide)
  obtain ⟨q, rfl⟩ := Int.eq_ofNat_of_zero_le r3
  replace e2 : callN T (n + 8) 15 _ _ = _ := e2
  obtain ⟨ws, h3, e3, sd3, hwl, hr⟩ := drawn_ok (n := n + 5) (k := q) U L B sd2 (by omega)
  replace e3 : callN T (n + 8) 75 _ _ = _ := e3
  have hl : ws.length < 1000 := by omega
  have e4 := lway_ok (n := n + 5) (p := p) K L sd3.cl B hr hp hl
  replace e4 : callN T (n + 8) 76 _ _ = _ := e4
  obtain ⟨r, h4, e5, r5, r6, sd4⟩ := take_ok U (n := n + 7) (m := (ws.length : Int) + 1) sd3 (by omega) (by omega)
  obtain ⟨c, rfl⟩ := Int.eq_ofNat_of_zero_le r5
  replace e5 : callN T (n + 8) 15 _ _ = _ := e5
  have hc : c ≤ ws.length := by omega
  have cl := sd4.cl
  have e6 := walk_ok (n := n) (p := p) P.f71 K I R cl B hr hp hl
  have hl2 := lst_of (h := h4) (xs := [A.d (.tup (iL (b.poss p ws))), A.d (.tup (iL (b.poss p ws)))]) (ds := [.tup (iL (b.poss p ws)), .tup (iL (b.poss p ws))]) rfl (by simp)
  have sh : Shw 2 3000 (.lst [.tup (iL (b.poss p ws)), .tup (iL (b.poss p ws))]) := by
    refine (Shw.lst (xs := [.tup (iL (b.poss p ws)), .tup (iL (b.poss p ws))]) (k := 1) (B := 1000) (m := 2) (fun x hx => ?_) (Nat.le_refl 2)).mono (by decide) (by decide)
    simp only [List.mem_cons, List.not_mem_nil, or_false, or_self] at hx
    rw [hx]; exact shw_poss B hp (by omega)
  have e7 := sh.repr (h := h4) (by decide) (by decide)
  have hne : ((D.lst [.tup (iL (b.poss p ws)), .tup (iL (b.poss p ws))]).toP.shown != (D.lst [.tup (iL (b.poss p ws)), .tup (iL (b.poss p ws))]).toP.shown) = false := by rw [bne_self_eq_false]
  have e8 := lisrow_ok (n := n + 7) P.f77 K cl B hr hl
  replace e8 : callN T (n + 8) 77 _ _ = _ := e8
  have e9 : sliceA (.d (.tup (sL ws))) none (some (c : Int)) h4 = some (.d (.tup (sL (ws.take c)))) := by
    have : cutL (sL ws) none (some (c : Int)) = sL (ws.take c) := by rw [cutL_take]; simp [sL]
    simp only [sliceA, this, sL_turns, if_true]
  have e10 := walk_ok (n := n) (p := p) (ws := ws.take c) P.f71 K I R cl B (row_take hr c) hp (by rw [List.length_take]; omega)
  rw [poss_take hc] at e10
  have ec : (c : Int) + 1 = ((c + 1 : Nat) : Int) := by omega
  have e11 : sliceA (.d (.tup (iL (b.poss p ws)))) none (some ((c + 1 : Nat) : Int)) h4 = some (.d (.tup (iL ((b.poss p ws).take (c + 1))))) := by
    have : cutL (iL (b.poss p ws)) none (some ((c + 1 : Nat) : Int)) = iL ((b.poss p ws).take (c + 1)) := by rw [cutL_take]; simp [iL]
    simp only [sliceA, this, iL_turns, if_true]
  have e12 : ∀ (C : CallT) (tb : Nat → Option Nat) (ks : List Kd), eqO C tb ks true (.d (.tup (iL ((b.poss p ws).take (c + 1))))) (.d (.tup (iL ((b.poss p ws).take (c + 1))))) h4 = some (.d (.bl false), h4) := fun C tb ks => by
    have pp : (D.tup (iL ((b.poss p ws).take (c + 1)))).pure = true := by rw [D.pure]; exact pure_iL _
    rw [neO_d rfl pp pp (by rw [D.depth, depth_iL]; decide), eqb_refl _ pp]; rfl
  have hlw : ∀ (C : CallT) (tb : Nat → Option Nat) (h : Hh), lenO C tb [.d (.tup (sL ws))] h = some (.d (.int ws.length), h) := fun C tb h => by rw [lenO_tup, sL, List.length_map]
  refine ⟨h4, some (.d (.int p)), some (.d (.tup (sL ws))), some (.d (.tup (iL (b.poss p ws)))), some (.d (.int c)), some (.d (.lst [.tup (iL (b.poss p ws)), .tup (iL (b.poss p ws))])), sd4, ?_⟩
  simp -implicitDefEqProofs only [fn78_c0, fn78_c1, exSs, exS1, ev, evT, evP, evs, evB, evo_none, evo_some, evc_none, evc_some, evi_val, evi_rng, evi_enum, evL, evLs, vt, getS, opt_some, optH_some, Out.bind_ok, Out.bind_ex, Out.st_ok, Out.st_ex, OS.seq_nx, OS.seq_rt, OS.seq_ex, OS.seq_ct, OS.seq_bk, startS, Es.len, tg_name, tg_tup, tgs_nil, tgs_cons, Tgs.len, Lvs.len, setAll, List.getElem?_cons_zero, List.getElem?_cons_succ, List.set_cons_zero, List.set_cons_succ, List.map_cons, List.map_nil, List.cons_append, List.nil_append, List.replicate, List.length_cons, List.length_nil, Nat.reduceAdd, Nat.reduceSub, if_true, if_false, if_pos, reduceIte, reduceCtorEq, finC, blA, argF, plainSh, List.range', fillA, callF, Option.map_some, Option.bind_some, Option.map_none, Option.bind_none, and_self, true_and, and_true, intA, wipeS, Bool.not_true, Bool.not_false, Bool.false_eq_true, decide_true, decide_false, Bool.true_eq_false, clsA, binA, cmpO, cmpA, mtF, biF, Mt.ty, bmF, tyA, truthO, truthA, truthD, ne_eq, not_true_eq_false, not_false_eq_true, String.reduceBEq, beq_self_eq_true, pt0, U.s15, U.n15, e1, e2, L.s75, L.n75, e3, L.s76, L.n76, e4, hlw, addA_int, e5]
  simp -implicitDefEqProofs only [fn78_c2, fn78_c3, fn78_d0, exSs, exS1, ev, evT, evP, evs, evB, evo_none, evo_some, evc_none, evc_some, evi_val, evi_rng, evi_enum, evL, evLs, vt, getS, opt_some, optH_some, Out.bind_ok, Out.bind_ex, Out.st_ok, Out.st_ex, OS.seq_nx, OS.seq_rt, OS.seq_ex, OS.seq_ct, OS.seq_bk, startS, Es.len, tg_name, tg_tup, tgs_nil, tgs_cons, Tgs.len, Lvs.len, setAll, List.getElem?_cons_zero, List.getElem?_cons_succ, List.set_cons_zero, List.set_cons_succ, List.map_cons, List.map_nil, List.cons_append, List.nil_append, List.replicate, List.length_cons, List.length_nil, Nat.reduceAdd, Nat.reduceSub, if_true, if_false, if_pos, reduceIte, reduceCtorEq, finC, blA, argF, plainSh, List.range', fillA, callF, Option.map_some, Option.bind_some, Option.map_none, Option.bind_none, and_self, true_and, and_true, intA, wipeS, Bool.not_true, Bool.not_false, Bool.false_eq_true, decide_true, decide_false, Bool.true_eq_false, clsA, binA, cmpO, cmpA, mtF, biF, Mt.ty, bmF, tyA, truthO, truthA, truthD, ne_eq, not_true_eq_false, not_false_eq_true, String.reduceBEq, beq_self_eq_true, P.s71, P.s71k, P.n71, e6, hl2, e7, neO_str, hne, P.s77, P.n77, e8]
  simp -implicitDefEqProofs only [fn78_c4, fn78_e0, exSs, exS1, ev, evT, evP, evs, evB, evo_none, evo_some, evc_none, evc_some, evi_val, evi_rng, evi_enum, evL, evLs, vt, getS, opt_some, optH_some, Out.bind_ok, Out.bind_ex, Out.st_ok, Out.st_ex, OS.seq_nx, OS.seq_rt, OS.seq_ex, OS.seq_ct, OS.seq_bk, startS, Es.len, tg_name, tg_tup, tgs_nil, tgs_cons, Tgs.len, Lvs.len, setAll, List.getElem?_cons_zero, List.getElem?_cons_succ, List.set_cons_zero, List.set_cons_succ, List.map_cons, List.map_nil, List.cons_append, List.nil_append, List.replicate, List.length_cons, List.length_nil, Nat.reduceAdd, Nat.reduceSub, if_true, if_false, if_pos, reduceIte, reduceCtorEq, finC, blA, argF, plainSh, List.range', fillA, callF, Option.map_some, Option.bind_some, Option.map_none, Option.bind_none, and_self, true_and, and_true, intA, wipeS, Bool.not_true, Bool.not_false, Bool.false_eq_true, decide_true, decide_false, Bool.true_eq_false, clsA, binA, cmpO, cmpA, mtF, biF, Mt.ty, bmF, tyA, truthO, truthA, truthD, ne_eq, not_true_eq_false, not_false_eq_true, String.reduceBEq, beq_self_eq_true, P.s71, P.n71, e9, e10, addA_int, ec, e11, e12]
theorem lap08 (K : Core T) (U : Urn T) (I : Img T) (R : Run T) (L : LRun T) (P : K08 T) (s : Sd u h0 h) {v1 v2 v3 v4 v5 v6 v7 v8 v9 : Option A} : ∃ h1 w2 w3 w4 w5 w6 w7 w8 w9, Sd u h0 h1 ∧ exSs T (callN T (n + 8)) fn78_b0 [some (.ref u), v1, v2, v3, v4, v5, v6, v7, v8, v9] h = .nx [some (.ref u), v1, w2, w3, w4, w5, w6, w7, w8, w9] h1 := by
  obtain ⟨b, h1, e1, s1, B, _, _⟩ := parts_ok (n := n + 5) (a := 6) (b := 6) U s (by decide) (by decide) (by decide) (by decide)
  replace e1 : callN T (n + 8) 19 [.ref u, .d (.int 6), .d (.int 6)] h = .ok (.d b.parts) h1 := e1
  have e2 := lmade_ok (n := n + 2) K P.f20 s1.cl B
  replace e2 : callN T (n + 8) 20 _ _ = _ := e2
  obtain ⟨s', h', e', s2, w4, w5, w6, w7, w8, w9, hs'⟩ := loopF_inv (ft := (Tg.name 4).set) (fb := exSs T (callN T (n + 8)) fn78_c0) (m := none) (h0 := h1) (xs := rngL 0 4) (s := [some (.ref u), v1, some (.d b.parts), some (.d b.o), v4, v5, v6, v7, v8, v9]) (h := h1)
    (fun k s h' => Sd u h0 h' ∧ ∃ w4 w5 w6 w7 w8 w9, s = [some (.ref u), v1, some (.d b.parts), some (.d b.o), w4, w5, w6, w7, w8, w9])
    (fun k x s2 h2 hk ⟨sx, w4, w5, w6, w7, w8, w9, q1⟩ => by
      subst q1
      obtain ⟨h3, z5, z6, z7, z8, z9, s3, e⟩ := turn08 (n := n) (v1 := v1) (v4 := some x) (v5 := w5) (v6 := w6) (v7 := w7) (v8 := w8) (v9 := w9) K U I R L P B sx
      exact ⟨_, _, _, tg_name _ _ _, .inl e, trivial, s3, _, _, _, _, _, _, rfl⟩)
    ⟨s1, _, _, _, _, _, _, rfl⟩
  subst hs'
  have hr : rngA [.d (.int 4)] = some (rngL 0 4, none) := rng1 (n := 4) (by decide)
  refine ⟨h', some (.d b.parts), some (.d b.o), w4, w5, w6, w7, w8, w9, s2, ?_⟩
  simp -implicitDefEqProofs only [fn78_b0, fn78_b1, fn78_b2, exSs, exS1, ev, evT, evP, evs, evB, evo_none, evo_some, evc_none, evc_some, evi_val, evi_rng, evi_enum, evL, evLs, vt, getS, opt_some, optH_some, Out.bind_ok, Out.bind_ex, Out.st_ok, Out.st_ex, OS.seq_nx, OS.seq_rt, OS.seq_ex, OS.seq_ct, OS.seq_bk, startS, Es.len, tg_name, tg_tup, tgs_nil, tgs_cons, Tgs.len, Lvs.len, setAll, List.getElem?_cons_zero, List.getElem?_cons_succ, List.set_cons_zero, List.set_cons_succ, List.map_cons, List.map_nil, List.cons_append, List.nil_append, List.replicate, List.length_cons, List.length_nil, Nat.reduceAdd, Nat.reduceSub, if_true, if_false, if_pos, reduceIte, reduceCtorEq, finC, blA, argF, plainSh, List.range', fillA, callF, Option.map_some, Option.bind_some, Option.map_none, Option.bind_none, and_self, true_and, and_true, intA, wipeS, Bool.not_true, Bool.not_false, Bool.false_eq_true, decide_true, decide_false, Bool.true_eq_false, clsA, binA, cmpO, cmpA, mtF, biF, Mt.ty, bmF, tyA, truthO, truthA, truthD, ne_eq, not_true_eq_false, not_false_eq_true, String.reduceBEq, beq_self_eq_true, P.s19, U.n19, e1, P.s20, P.n20, e2, hr, e']
theorem right08 (K : Core T) (U : Urn T) (I : Img T) (R : Run T) (L : LRun T) (P : K08 T) (s : Sd u h0 h) : ∃ h1, callN T (n + 9) 78 [.ref u] h = .ok (.d (.bl true)) h1 ∧ Sd u h0 h1 := by
  obtain ⟨s', h', e', s2, w1, w2, w3, w4, w5, w6, w7, w8, w9, hs'⟩ := loopF_inv (ft := (Tg.name 1).set) (fb := exSs T (callN T (n + 8)) fn78_b0) (m := none) (h0 := h) (xs := rngL 0 6) (s := [some (.ref u), none, none, none, none, none, none, none, none, none]) (h := h)
    (fun k s h' => Sd u h0 h' ∧ ∃ w1 w2 w3 w4 w5 w6 w7 w8 w9, s = [some (.ref u), w1, w2, w3, w4, w5, w6, w7, w8, w9])
    (fun k x s2 h2 hk ⟨sx, w1, w2, w3, w4, w5, w6, w7, w8, w9, q1⟩ => by
      subst q1
      obtain ⟨h3, z2, z3, z4, z5, z6, z7, z8, z9, s3, e⟩ := lap08 (n := n) (v1 := some x) (v2 := w2) (v3 := w3) (v4 := w4) (v5 := w5) (v6 := w6) (v7 := w7) (v8 := w8) (v9 := w9) K U I R L P sx
      exact ⟨_, _, _, tg_name _ _ _, .inl e, trivial, s3, _, _, _, _, _, _, _, _, _, rfl⟩)
    ⟨s, _, _, _, _, _, _, _, _, _, rfl⟩
  subst hs'
  have hr : rngA [.d (.int 6)] = some (rngL 0 6, none) := rng1 (n := 6) (by decide)
  refine ⟨h', callN_rt P.f78 rfl ?_ (s.ret s2), s2⟩
  simp -implicitDefEqProofs only [fn78_a0, fn78_a1, exSs, exS1, ev, evT, evP, evs, evB, evo_none, evo_some, evc_none, evc_some, evi_val, evi_rng, evi_enum, evL, evLs, vt, getS, opt_some, optH_some, Out.bind_ok, Out.bind_ex, Out.st_ok, Out.st_ex, OS.seq_nx, OS.seq_rt, OS.seq_ex, OS.seq_ct, OS.seq_bk, startS, Es.len, tg_name, tg_tup, tgs_nil, tgs_cons, Tgs.len, Lvs.len, setAll, List.getElem?_cons_zero, List.getElem?_cons_succ, List.set_cons_zero, List.set_cons_succ, List.map_cons, List.map_nil, List.cons_append, List.nil_append, List.replicate, List.length_cons, List.length_nil, Nat.reduceAdd, Nat.reduceSub, if_true, if_false, if_pos, reduceIte, reduceCtorEq, finC, blA, argF, plainSh, List.range', fillA, callF, Option.map_some, Option.bind_some, Option.map_none, Option.bind_none, and_self, true_and, and_true, intA, wipeS, Bool.not_true, Bool.not_false, Bool.false_eq_true, decide_true, decide_false, Bool.true_eq_false, clsA, binA, cmpO, cmpA, mtF, biF, Mt.ty, bmF, tyA, truthO, truthA, truthD, ne_eq, not_true_eq_false, not_false_eq_true, String.reduceBEq, beq_self_eq_true, hr, e']
theorem law08 (K : Core T) (U : Urn T) (I : Img T) (R : Run T) (L : LRun T) (P : K08 T) {ns : List Int} (hn : ns.length ≤ 63) : ∃ h', callN T (n + 10) 79 [.d (.scr ns)] [] = .ok (.d (.bl true)) h' :=
  law_all (n := n + 8) (fR := 78) (fL := 79) (x0 := fn79_x0) (a0 := fn79_a0) U rfl rfl P.f79 P.s78 P.n78 (fun u h0 h s => right08 (n := n) K U I R L P s) hn
end
end MP
end S_RK08
section S_Rk08
namespace Gk08
open PySem L2 MP
abbrev depth : Nat := 10
theorem core : Core pd.tab := by constructor <;> first | kernel_rfl | decide +kernel
theorem urnT : Urn pd.tab := by constructor <;> kernel_rfl
theorem imgT : Img pd.tab := by constructor <;> kernel_rfl
theorem runT' : Run pd.tab := by constructor <;> kernel_rfl
theorem lrunT : LRun pd.tab := by constructor <;> kernel_rfl
theorem k08T : K08 pd.tab := by constructor <;> kernel_rfl
theorem pure (ns : List Int) (hn : ns.length ≤ 63) : ∃ h', callN pd.tab depth 79 [.d (.scr ns)] [] = .ok (.d (.bl true)) h' := law08 (n := 0) core urnT imgT runT' lrunT k08T hn
end Gk08
end S_Rk08
section S_Zk08
open PySem PySem.W PySem.Calls PyProof.Rows
theorem PySem.Challenge.cw_turnedevenly_k08_whole_walks_holds : PySem.Challenge.rw_turnedevenly_k08_whole_walks.Holds := by
  w_on; o_law
  refine HandSHeadRun.head_any (r := OpenLaw.row PySem.Challenge.rw_turnedevenly_k08_whole_walks) (q := view (OpenLaw.row PySem.Challenge.rw_turnedevenly_k08_whole_walks).prog [66]) (H := Gk08.hk) (ob := Gk08.ob) (M := 80000) (loose := Gk08.loose) (d := HandSHeadRun.topDef (OpenLaw.row PySem.Challenge.rw_turnedevenly_k08_whole_walks).prog 66) (kwd := []) Gk08.ob_eq
    (by kernel_rfl) (fun s => by kernel_rfl) Gk08.run (by kernel_rfl) (by kernel_rfl) (by kernel_rfl) (by rfl) (by first | assumption | decide +kernel) (by decide +kernel) ⟨rfl, rfl, rfl, rfl, rfl, by decide +kernel⟩ ?hw ?hc
  case hw => w_witness2
  case hc =>
    refine MP.walk_endW (l := PySem.Challenge.rw_turnedevenly_k08_whole_walks) (n := 63) (k := 3 * Gk08.depth) (x := "_law_cells") (CX := fun w => L2.CX (PySem.Challenge.rw_turnedevenly_k08_whole_walks).prog w) rfl (by decide) (by kernel_rfl) ⟨rfl, by decide, by decide⟩ ?F (fun _ _ _ _ _ z => MP.cx_no z)
    intro w mg fa h Y G hmg0
    obtain ⟨K, KX, S⟩ := Y
    have hmg : mg ("law" : PySem.Str) = some (.ref fa) := by
      have e : (HandSHeadRun.topDef (OpenLaw.row PySem.Challenge.rw_turnedevenly_k08_whole_walks).prog 66).name = ("law" : PySem.Str) := by kernel_rfl
      rw [← e]
      exact hmg0
    exact MP.law_G S KX G Gk08.sB Gk08.hc Gk08.hb Gk08.hb1 (show Gk08.pd.fn 79 = some Gk08.d79 from rfl) (by kernel_rfl) rfl hmg Gk08.hbl (fun ns hn => Gk08.pure ns hn)
end S_Zk08
